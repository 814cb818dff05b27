import PyProof.Rows.All
import Wide.All
import OpenK.AllK
import Wide.FinOn
import HandS.ForMost
import HandS.Wide
import HandS.TupAny
import HandS.TupMul
import HandS.Style
import HandS.Deep
import HandS.IsInst
import PyProof.StrOps2
import HandS.Zip
import HandS.StrMore
import PySem.Challenge.RW_shorthold_k03_whole_known_numbers_in_bit
set_option Elab.async false
set_option linter.all false
set_option maxRecDepth 100000
set_option maxHeartbeats 4000000
/-! The value layer: what a piece of the program computes, as a plain function over data. -/
namespace VS
open PySem L2
/-- data -/
inductive D where
  | bot | non | bl (b : Bool) | int (i : Int) | str (x : List Nat) | tup (l : List D) | lst (l : List D) | dct (l : List (D × D)) | obj (a : Addr)
abbrev Ev := List D
abbrev Ow0 := Addr → Prop
/-- the heap without the places at P -/
noncomputable def lim (P : Ow0) (H : Hp) : Hp := fun b => open Classical in if P b then none else H b
theorem lim_no {P : Ow0} {H : Hp} {b : Addr} (h : P b) : lim P H b = none := by unfold lim; rw [if_pos h]
theorem lim_in {P : Ow0} {H : Hp} {b : Addr} (h : ¬ P b) : lim P H b = H b := by unfold lim; rw [if_neg h]
theorem lim_some {P : Ow0} {H : Hp} {b : Addr} {o : HO} (h : lim P H b = some o) : ¬ P b ∧ H b = some o := by
  by_cases p : P b
  · rw [lim_no p] at h; cases h
  · rw [lim_in p] at h; exact ⟨p, h⟩
theorem lim_same {P : Ow0} {H H' : Hp} (e : Same H H') : Same (lim P H) (lim P H') := fun b o h => by
  obtain ⟨p, q⟩ := lim_some h
  rw [lim_in p]; exact e b o q
theorem lim_le {P : Ow0} {H : Hp} : Same (lim P H) H := fun b o h => (lim_some h).2
theorem lim_mono {P P' : Ow0} {H : Hp} (h : ∀ b, P b → P' b) : Same (lim P' H) (lim P H) := fun b o e => by
  obtain ⟨p, q⟩ := lim_some e
  rw [lim_in (fun z => p (h b z))]; exact q
def keyD : Key → D
  | .inl i => .int i
  | .inr x => .str x.cps.toList
def keysD (k : List Key) : D := .tup (k.map keyD)
/-- all signs are signs -/
def SOk (l : List Nat) : Prop := (∀ c ∈ l, c < 1114112) ∧ l.length ≤ 16777216
mutual
/-- the value v stands for the data d, all of it in F -/
inductive Rp (F : Hp) : V → D → Prop
  | non : Rp F .non .non
  | bl (b : Bool) : Rp F (.bl b) (.bl b)
  | int (i : Int) : Rp F (.int i) (.int i)
  | str (x : Str) : SOk x.cps.toList → Rp F (.str x) (.str x.cps.toList)
  | obj (a : Addr) : Rp F (.ref a) (.obj a)
  | tup {a : Addr} {vs : List V} {ds : List D} : F a = some (.tup vs) → Rps F vs ds → Rp F (.ref a) (.tup ds)
  | lst {a : Addr} {vs : List V} {ds : List D} : F a = some (.lst vs) → Rps F vs ds → Rp F (.ref a) (.lst ds)
  | dK {a : Addr} {kvs : List (Key × V)} {ds : List (D × D)} : F a = some (.dK kvs) → RpKv F (kvs.map fun p => (keyD p.1, p.2)) ds → Rp F (.ref a) (.dct ds)
  | dT {a : Addr} {kvs : List (List Key × V)} {ds : List (D × D)} : F a = some (.dT kvs) → RpKv F (kvs.map fun p => (keysD p.1, p.2)) ds → Rp F (.ref a) (.dct ds)
inductive Rps (F : Hp) : List V → List D → Prop
  | nil : Rps F [] []
  | cons {v : V} {d : D} {vs : List V} {ds : List D} : Rp F v d → Rps F vs ds → Rps F (v :: vs) (d :: ds)
inductive RpKv (F : Hp) : List (D × V) → List (D × D) → Prop
  | nil : RpKv F [] []
  | cons {k : D} {v : V} {d : D} {vs : List (D × V)} {ds : List (D × D)} : Rp F v d → RpKv F vs ds → RpKv F ((k, v) :: vs) ((k, d) :: ds)
end
mutual
theorem Rp.ex {F F' : Hp} (e : Same F F') : ∀ {v : V} {d : D}, Rp F v d → Rp F' v d
  | _, _, .non => .non
  | _, _, .bl b => .bl b
  | _, _, .int i => .int i
  | _, _, .str x h => .str x h
  | _, _, .obj a => .obj a
  | _, _, .tup h r => .tup (e _ _ h) (Rps.ex e r)
  | _, _, .lst h r => .lst (e _ _ h) (Rps.ex e r)
  | _, _, .dK h r => .dK (e _ _ h) (RpKv.ex e r)
  | _, _, .dT h r => .dT (e _ _ h) (RpKv.ex e r)
theorem Rps.ex {F F' : Hp} (e : Same F F') : ∀ {vs : List V} {ds : List D}, Rps F vs ds → Rps F' vs ds
  | _, _, .nil => .nil
  | _, _, .cons r t => .cons (Rp.ex e r) (Rps.ex e t)
theorem RpKv.ex {F F' : Hp} (e : Same F F') : ∀ {vs : List (D × V)} {ds : List (D × D)}, RpKv F vs ds → RpKv F' vs ds
  | _, _, .nil => .nil
  | _, _, .cons r t => .cons (Rp.ex e r) (RpKv.ex e t)
end
theorem Rps.length {F : Hp} : ∀ {vs : List V} {ds : List D}, Rps F vs ds → vs.length = ds.length
  | _, _, .nil => rfl
  | _, _, .cons _ t => congrArg (· + 1) (Rps.length t)
theorem Rps.get {F : Hp} : ∀ {vs : List V} {ds : List D} {i : Nat} {d : D}, Rps F vs ds → ds[i]? = some d → ∃ v, vs[i]? = some v ∧ Rp F v d
  | _, _, _, _, .nil, e => by simp at e
  | _, _, 0, _, .cons r _, e => by simp at e; subst e; exact ⟨_, rfl, r⟩
  | _, _, i + 1, d, .cons _ t, e => by
    obtain ⟨v, h1, h2⟩ := Rps.get (i := i) (d := d) t (by simpa using e)
    exact ⟨v, by simpa using h1, h2⟩
theorem Rps.getV {F : Hp} : ∀ {vs : List V} {ds : List D} {i : Nat} {v : V}, Rps F vs ds → vs[i]? = some v → ∃ d, ds[i]? = some d ∧ Rp F v d
  | _, _, _, _, .nil, e => by simp at e
  | _, _, 0, _, .cons r _, e => by simp at e; subst e; exact ⟨_, rfl, r⟩
  | _, _, i + 1, v, .cons _ t, e => by
    obtain ⟨d, h1, h2⟩ := Rps.getV (i := i) (v := v) t (by simpa using e)
    exact ⟨d, by simpa using h1, h2⟩
theorem Rps.append {F : Hp} : ∀ {vs ws : List V} {ds es : List D}, Rps F vs ds → Rps F ws es → Rps F (vs ++ ws) (ds ++ es)
  | _, _, _, _, .nil, s => s
  | _, _, _, _, .cons r t, s => .cons r (Rps.append t s)
theorem Rps.set {F : Hp} {v : V} {d : D} (r : Rp F v d) : ∀ {vs : List V} {ds : List D} (i : Nat), Rps F vs ds → Rps F (vs.set i v) (ds.set i d)
  | _, _, _, .nil => .nil
  | _, _, 0, .cons _ t => .cons r t
  | _, _, i + 1, .cons q t => .cons q (Rps.set r i t)
theorem Rps.take {F : Hp} : ∀ {vs : List V} {ds : List D} (n : Nat), Rps F vs ds → Rps F (vs.take n) (ds.take n)
  | _, _, 0, _ => .nil
  | _, _, _ + 1, .nil => .nil
  | _, _, n + 1, .cons r t => .cons r (Rps.take n t)
theorem Rps.drop {F : Hp} : ∀ {vs : List V} {ds : List D} (n : Nat), Rps F vs ds → Rps F (vs.drop n) (ds.drop n)
  | _, _, 0, r => r
  | _, _, _ + 1, .nil => .nil
  | _, _, n + 1, .cons _ t => Rps.drop n t
theorem Rps.reverse {F : Hp} {vs : List V} {ds : List D} (r : Rps F vs ds) : Rps F vs.reverse ds.reverse := by
  induction vs generalizing ds with
  | nil => cases r; exact .nil
  | cons v vs ih =>
    cases r with
    | cons h t =>
      rw [List.reverse_cons, List.reverse_cons]
      exact (ih t).append (.cons h .nil)
theorem Rps.rep {F : Hp} {vs : List V} {ds : List D} (r : Rps F vs ds) : ∀ k : Nat, Rps F (List.replicate k vs).flatten (List.replicate k ds).flatten
  | 0 => .nil
  | k + 1 => by
    rw [List.replicate_succ, List.replicate_succ, List.flatten_cons, List.flatten_cons]
    exact r.append (Rps.rep r k)
/-! ### inversion -/
section
variable {F : Hp} {v : V}
theorem Rp.int_inv {i : Int} (r : Rp F v (.int i)) : v = .int i := by cases r; rfl
theorem Rp.bl_inv {b : Bool} (r : Rp F v (.bl b)) : v = .bl b := by cases r; rfl
theorem Rp.non_inv (r : Rp F v .non) : v = .non := by cases r; rfl
theorem Rp.str_inv {l : List Nat} (r : Rp F v (.str l)) : ∃ x : Str, v = .str x ∧ x.cps.toList = l ∧ SOk l := by
  cases r with
  | str x h => exact ⟨x, rfl, rfl, h⟩
theorem Rp.tup_inv {l : List D} (r : Rp F v (.tup l)) : ∃ a vs, v = .ref a ∧ F a = some (.tup vs) ∧ Rps F vs l := by
  cases r with
  | tup h t => exact ⟨_, _, rfl, h, t⟩
theorem Rp.lst_inv {l : List D} (r : Rp F v (.lst l)) : ∃ a vs, v = .ref a ∧ F a = some (.lst vs) ∧ Rps F vs l := by
  cases r with
  | lst h t => exact ⟨_, _, rfl, h, t⟩
theorem Rp.mkStr {l : List Nat} (h : SOk l) : Rp F (.str ⟨l.toArray⟩) (.str l) := by
  have q := Rp.str (F := F) (⟨l.toArray⟩ : Str) (by simpa using h)
  simpa using q
theorem Rp.mkStr' {x : Str} {l : List Nat} (e : x.cps.toList = l) (h : SOk l) : Rp F (.str x) (.str l) := by
  subst e
  exact .str x h
end
theorem SOk.append {a b : List Nat} (h : SOk a) (k : SOk b) (n : a.length + b.length ≤ 16777216) : SOk (a ++ b) := ⟨fun c hc => by
  rcases List.mem_append.mp hc with q | q
  · exact h.1 c q
  · exact k.1 c q, by rw [List.length_append]; exact n⟩
theorem SOk.sub {a b : List Nat} (h : SOk a) (k : ∀ c ∈ b, c ∈ a) (n : b.length ≤ a.length) : SOk b := ⟨fun c hc => h.1 c (k c hc), Nat.le_trans n h.2⟩
/-- what is owned: its content -/
inductive Ow (F H : Hp) (a : Addr) : D → Prop
  | lst {vs : List V} {ds : List D} : H a = some (.lst vs) → Rps F vs ds → Ow F H a (.lst ds)
  | dK {kvs : List (Key × V)} {ds : List (D × D)} : H a = some (.dK kvs) → RpKv F (kvs.map fun p => (keyD p.1, p.2)) ds → Ow F H a (.dct ds)
  | dT {kvs : List (List Key × V)} {ds : List (D × D)} : H a = some (.dT kvs) → RpKv F (kvs.map fun p => (keysD p.1, p.2)) ds → Ow F H a (.dct ds)
theorem Ow.ex {F F' H H' : Hp} {a : Addr} {d : D} (e : Same F F') (k : H' a = H a) (o : Ow F H a d) : Ow F' H' a d := by
  cases o with
  | lst h r => exact .lst (k.trans h) (r.ex e)
  | dK h r => exact .dK (k.trans h) (r.ex e)
  | dT h r => exact .dT (k.trans h) (r.ex e)
theorem Ow.rp {F H : Hp} {a : Addr} {d : D} (o : Ow F H a d) (k : F a = H a) : Rp F (.ref a) d := by
  cases o with
  | lst h r => exact .lst (k.trans h) r
  | dK h r => exact .dK (k.trans h) r
  | dT h r => exact .dT (k.trans h) r
theorem Ow.there {F H : Hp} {a : Addr} {d : D} (o : Ow F H a d) : H a ≠ none := by
  cases o with
  | lst h r => rw [h]; exact fun z => by cases z
  | dK h r => rw [h]; exact fun z => by cases z
  | dT h r => rw [h]; exact fun z => by cases z
/-! ### the state -/
structure RS (O : List Nat) (P : Ow0) (pf : Nat → Addr) (σ : L2.St) (H : Hp) (δ : Ev) : Prop where
  len : σ.length = δ.length
  dom : ∀ b, P b → H b ≠ none
  own : ∀ i ∈ O, P (pf i) ∧ σ[i]? = some (some (.ref (pf i))) ∧ ∃ d, δ[i]? = some d ∧ Ow (lim P H) H (pf i) d
  frz : ∀ i d, i ∉ O → δ[i]? = some d → d ≠ .bot → ∃ v, σ[i]? = some (some v) ∧ Rp (lim P H) v d
theorem same_eq {H H' : Hp} {b : Addr} (e : Same H H') (h : H b ≠ none) : H' b = H b := by
  cases q : H b with
  | none => exact absurd q h
  | some o => exact e b o q
theorem RS.same {O : List Nat} {P : Ow0} {pf : Nat → Addr} {σ : L2.St} {H H' : Hp} {δ : Ev} (R : RS O P pf σ H δ) (e : Same H H') : RS O P pf σ H' δ where
  len := R.len
  dom := fun b h => by rw [same_eq e (R.dom b h)]; exact R.dom b h
  own := fun i hi => by
    obtain ⟨p, h, d, h1, h2⟩ := R.own i hi
    exact ⟨p, h, d, h1, h2.ex (lim_same e) (same_eq e h2.there)⟩
  frz := fun i d hi h n => by
    obtain ⟨v, h1, h2⟩ := R.frz i d hi h n
    exact ⟨v, h1, h2.ex (lim_same e)⟩
/-- what is read: all of it in F, or an owned thing -/
def Bp (P : Ow0) (H : Hp) (v : V) (d : D) : Prop := Rp (lim P H) v d ∨ ∃ a, v = .ref a ∧ Ow (lim P H) H a d
theorem Bp.same {P : Ow0} {H H' : Hp} {v : V} {d : D} (b : Bp P H v d) (e : Same H H') : Bp P H' v d := by
  rcases b with r | ⟨a, rfl, o⟩
  · exact .inl (r.ex (lim_same e))
  · exact .inr ⟨a, rfl, o.ex (lim_same e) (same_eq e o.there)⟩
/-! ### what an expression computes -/
def EP (O : List Nat) (t : TE) (g : Ev → Option D) : Prop := ∀ (P : Ow0) (pf : Nat → Addr) (σ : L2.St) (H : Hp) (δ : Ev) (d : D) (Q : VK), RS O P pf σ H δ → g δ = some d →
  (∀ v H', Same H H' → Rp (lim P H') v d → Q v H') → t σ H Q
def EB (O : List Nat) (t : TE) (g : Ev → Option D) : Prop := ∀ (P : Ow0) (pf : Nat → Addr) (σ : L2.St) (H : Hp) (δ : Ev) (d : D) (Q : VK), RS O P pf σ H δ → g δ = some d →
  (∀ v H', Same H H' → Bp P H' v d → Q v H') → t σ H Q
/-- a new object, its parts ahead of it -/
def EF (O : List Nat) (t : TE) (g : Ev → Option D) : Prop := ∀ (P : Ow0) (pf : Nat → Addr) (σ : L2.St) (H : Hp) (δ : Ev) (d : D) (Q : VK), RS O P pf σ H δ → g δ = some d →
  (∀ p H', H p = none → Same H H' → Ow (lim (fun b => P b ∨ b = p) H') H' p d → Q (.ref p) H') → t σ H Q
def EA (O : List Nat) (t : TA) (g : Ev → Option (List D)) : Prop := ∀ (P : Ow0) (pf : Nat → Addr) (σ : L2.St) (H : Hp) (δ : Ev) (ds : List D) (Q : List V → Hp → Prop), RS O P pf σ H δ → g δ = some ds →
  (∀ vs H', Same H H' → Rps (lim P H') vs ds → Q vs H') → t σ H Q
def ET (O : List Nat) (t : TT) (g : Ev → Option Bool) : Prop := ∀ (P : Ow0) (pf : Nat → Addr) (σ : L2.St) (H : Hp) (δ : Ev) (b : Bool) (Q : Bool → Hp → Prop), RS O P pf σ H δ → g δ = some b →
  (∀ H', Same H H' → Q b H') → t σ H Q
/-- over a family of contexts -/
abbrev Cxs (ι : Type) := ι → Cx
def QE {ι : Type} (X : Cxs ι) (O : List Nat) (e : Expr) (g : Ev → Option D) : Prop := ∃ t, (∀ i, PE (X i) e t) ∧ EP O t g
def QB {ι : Type} (X : Cxs ι) (O : List Nat) (e : Expr) (g : Ev → Option D) : Prop := ∃ t, (∀ i, PE (X i) e t) ∧ EB O t g
def QF {ι : Type} (X : Cxs ι) (O : List Nat) (e : Expr) (g : Ev → Option D) : Prop := ∃ t, (∀ i, PE (X i) e t) ∧ EF O t g
def QA {ι : Type} (X : Cxs ι) (O : List Nat) (es : List Expr) (g : Ev → Option (List D)) : Prop := ∃ t, (∀ i, PA (X i) es t) ∧ EA O t g
def QT {ι : Type} (X : Cxs ι) (O : List Nat) (e : Expr) (g : Ev → Option Bool) : Prop := ∃ t, (∀ i, PT (X i) e t) ∧ ET O t g
section
variable {ι : Type} {X : Cxs ι} {O : List Nat} {e a b c : Expr} {es : List Expr} {g ga gb gc : Ev → Option D} {pos : Pos}
theorem EP.eb {t : TE} (h : EP O t g) : EB O t g := fun P pf σ H δ d Q R hg k => h P pf σ H δ d Q R hg fun v H' e r => k v H' e (.inl r)
theorem QE.qb (h : QE X O e g) : QB X O e g := let ⟨t, p, q⟩ := h; ⟨t, p, q.eb⟩
theorem EF.ep {t : TE} (h : EF O t g) : EP O t g := fun P pf σ H δ d Q R hg k => h P pf σ H δ d Q R hg fun p H' np e o => by
  refine k _ H' e ?_
  have nP : ¬ P p := fun z => R.dom p z np
  have s : Same (lim (fun b => P b ∨ b = p) H') (lim P H') := lim_mono fun b z => .inl z
  have o' : Ow (lim P H') H' p d := o.ex s rfl
  exact o'.rp (lim_in nP)
theorem QF.qe (h : QF X O e g) : QE X O e g := let ⟨t, p, q⟩ := h; ⟨t, p, q.ep⟩
/-! names and constants -/
theorem bind_some {α β : Type} {o : Option α} {f : α → Option β} {b : β} (h : o.bind f = some b) : ∃ a, o = some a ∧ f a = some b := Option.bind_eq_some_iff.mp h
def gVar (i : Nat) : Ev → Option D := fun δ => match δ[i]? with | some .bot => none | x => x
theorem gVar_some {i : Nat} {δ : Ev} {d : D} (h : gVar i δ = some d) : δ[i]? = some d ∧ d ≠ .bot := by
  unfold gVar at h
  split at h
  · cases h
  · rename_i x hx
    refine ⟨h, fun z => ?_⟩
    subst z
    exact hx h
theorem ep_var {i : Nat} (hi : O.contains i = false) : EP O (tVar i) (gVar i) := fun P pf σ H δ d Q R hg k => by
  obtain ⟨h1, h2⟩ := gVar_some hg
  have ni : i ∉ O := fun z => by
    have : O.contains i = true := List.contains_iff_mem.mpr z
    rw [hi] at this; cases this
  obtain ⟨v, h3, h4⟩ := R.frz i d ni h1 h2
  exact ⟨v, h3, k v H (Same.refl H) h4⟩
theorem eb_var {i : Nat} : EB O (tVar i) (gVar i) := fun P pf σ H δ d Q R hg k => by
  obtain ⟨h1, h2⟩ := gVar_some hg
  by_cases hi : i ∈ O
  · obtain ⟨p, h3, d', h4, h5⟩ := R.own i hi
    rw [h1] at h4; cases h4
    exact ⟨_, h3, k _ H (Same.refl H) (.inr ⟨_, rfl, h5⟩)⟩
  · obtain ⟨v, h3, h4⟩ := R.frz i d hi h1 h2
    exact ⟨v, h3, k v H (Same.refl H) (.inl h4)⟩
theorem qv (i : Nat) {x : Str} {pos : Pos} (hN : ∀ k, (X k).N[i]? = some x := by intro _; rfl) (hv : ∀ k, Vis (X k).env.scope x := by intro _; first | exact Or.inl rfl | exact Or.inr (Or.inl rfl) | exact Or.inr (Or.inr rfl)) (hi : O.contains i = false := by rfl)
    (hd : (x == ("__debug__" : Str)) = false := by decide) (hcd : (x == ("__classdict__" : Str)) = false := by decide) : QE X O (.Name x pos) (gVar i) := ⟨_, fun k => pe_var (hN k) (hv k) hd hcd, ep_var hi⟩
theorem qvb (i : Nat) {x : Str} {pos : Pos} (hN : ∀ k, (X k).N[i]? = some x := by intro _; rfl) (hv : ∀ k, Vis (X k).env.scope x := by intro _; first | exact Or.inl rfl | exact Or.inr (Or.inl rfl) | exact Or.inr (Or.inr rfl))
    (hd : (x == ("__debug__" : Str)) = false := by decide) (hcd : (x == ("__classdict__" : Str)) = false := by decide) : QB X O (.Name x pos) (gVar i) := ⟨_, fun k => pe_var (hN k) (hv k) hd hcd, eb_var⟩
def gC (d : D) : Ev → Option D := fun _ => some d
theorem ep_c {v : V} {d : D} (h : ∀ F, Rp F v d) : EP O (tC v) (gC d) := fun P pf σ H δ d' Q R hg k => by
  cases hg
  exact k v H (Same.refl H) (h _)
theorem qint {i : Int} {j pos} : QE X O (.Constant (.int i) j pos) (gC (.int i)) := ⟨_, fun _ => pe_int, ep_c fun F => .int i⟩
theorem qbl {i : Bool} {j pos} : QE X O (.Constant (.bool i) j pos) (gC (.bl i)) := ⟨_, fun _ => pe_bl, ep_c fun F => .bl i⟩
theorem qnon {j pos} : QE X O (.Constant .none j pos) (gC .non) := ⟨_, fun _ => pe_non, ep_c fun F => .non⟩
theorem qstr {x : Str} {l : List Nat} {j pos} (h : (x.cps.toList == l && l.all (· < 1114112) && decide (l.length ≤ 16777216)) = true := by decide +kernel) : QE X O (.Constant (.str x) j pos) (gC (.str l)) := by
  simp only [Bool.and_eq_true, beq_iff_eq, List.all_eq_true, decide_eq_true_eq] at h
  exact ⟨_, fun _ => pe_str, ep_c fun F => Rp.mkStr' h.1.1 ⟨h.1.2, h.2⟩⟩
/-! operators -/
def OpSem (r : R2) (f : D → D → Option D) : Prop := ∀ (P : Ow0) (H : Hp) (x y : V) (a b d : D) (Q : VK), (∀ b, P b → H b ≠ none) → Rp (lim P H) x a → Rp (lim P H) y b → f a b = some d →
  (∀ v H', Same H H' → Rp (lim P H') v d → Q v H') → r x y H Q
def g2 (f : D → D → Option D) (ga gb : Ev → Option D) : Ev → Option D := fun δ => (ga δ).bind fun a => (gb δ).bind fun b => f a b
theorem ep_op {r : R2} {f : D → D → Option D} {ta tb : TE} (hr : OpSem r f) (ha : EP O ta ga) (hb : EP O tb gb) : EP O (tOp r ta tb) (g2 f ga gb) := fun P pf σ H δ d Q R hg k => by
  obtain ⟨x, hx, hg⟩ := bind_some hg
  obtain ⟨y, hy, hg⟩ := bind_some hg
  refine ha P pf σ H δ x _ R hx fun v H1 e1 r1 => ?_
  have R1 := R.same e1
  refine hb P pf σ H1 δ y _ R1 hy fun u H2 e2 r2 => ?_
  exact hr P H2 v u x y d Q (R1.same e2).dom (r1.ex (lim_same e2)) r2 hg fun z H3 e3 r3 => k z H3 ((e1.trans e2).trans e3) r3
theorem q_op {op : Operator} {r : R2} {f : D → D → Option D} (ho : ∀ i, OpR (X i) (binaryOp op) r) (hr : OpSem r f) (ha : QE X O a ga) (hb : QE X O b gb) : QE X O (.BinOp a op b pos) (g2 f ga gb) := by
  obtain ⟨ta, pa, ea⟩ := ha
  obtain ⟨tb, pb, eb⟩ := hb
  exact ⟨_, fun i => pe_op (ho i) (pa i) (pb i), ep_op hr ea eb⟩
theorem q_cmp {op : CmpOp} {r : R2} {f : D → D → Option D} (ho : ∀ i, OpR (X i) (compareOp op) r) (hm : behindInMarks op b = false) (hr : OpSem r f) (ha : QE X O a ga) (hb : QE X O b gb) : QE X O (.Compare a [op] [b] pos) (g2 f ga gb) := by
  obtain ⟨ta, pa, ea⟩ := ha
  obtain ⟨tb, pb, eb⟩ := hb
  exact ⟨_, fun i => pe_cmpR (ho i) (pa i) (pb i) hm, ep_op hr ea eb⟩
theorem OpSem.or {r r' : R2} {f f' : D → D → Option D} (h : OpSem r f) (h' : OpSem r' f') : OpSem (fun x y H Q => r x y H Q ∨ r' x y H Q) (fun a b => (f a b).or (f' a b)) := fun P H x y a b d Q dom rx ry hf k => by
  cases e : f a b with
  | none =>
    have hf' : f' a b = some d := by simpa [e] using hf
    exact .inr (h' P H x y a b d Q dom rx ry hf' k)
  | some z =>
    have : z = d := by simpa [e] using hf
    subst this
    exact .inl (h P H x y a b z Q dom rx ry e k)
/-- two ints -/
def fI (C : Int → Int → Bool) (g : Int → Int → D) : D → D → Option D
  | .int i, .int j => if C i j = true then some (g i j) else none
  | _, _ => none
theorem sem_I {C : Int → Int → Prop} {Cb : Int → Int → Bool} {g : Int → Int → V} {gd : Int → Int → D} (hC : ∀ i j, Cb i j = true → C i j) (hg : ∀ i j F, Rp F (g i j) (gd i j)) : OpSem (rI C g) (fI Cb gd) := fun P H x y a b d Q dom rx ry hf k => by
  unfold fI at hf
  split at hf
  · rename_i i j
    split at hf
    · rename_i hc
      cases hf
      exact ⟨i, j, rx.int_inv, ry.int_inv, hC i j hc, k _ H (Same.refl H) (hg i j _)⟩
    · cases hf
  · cases hf
def fI0 (g : Int → Int → D) : D → D → Option D
  | .int i, .int j => some (g i j)
  | _, _ => none
theorem sem_I0 {g : Int → Int → V} {gd : Int → Int → D} (hg : ∀ i j F, Rp F (g i j) (gd i j)) : OpSem (rI0 g) (fI0 gd) := fun P H x y a b d Q dom rx ry hf k => by
  unfold fI0 at hf
  split at hf
  · rename_i i j
    cases hf
    exact ⟨i, j, rx.int_inv, ry.int_inv, k _ H (Same.refl H) (hg i j _)⟩
  · cases hf
end
end VS
namespace VS
open PySem L2
/-! ### operators of the program -/
theorem OpR.allK {X : Cx} {f : Value → Value → Sem Value} {r : PySem.W.Frag → R2} (h : OpR X f (r X.K)) : OpR X f (fun x y H Q => ∀ K, r K x y H Q) := by
  intro pins s σ H x y v u Q I rx ry k
  exact h pins s σ H x y v u Q I rx ry (k X.K)
theorem tl_tl (x : Str) : x.length = x.cps.toList.length := by simp [Str.length]
theorem tl_app (x y : Str) : (x ++ y).cps.toList = x.cps.toList ++ y.cps.toList := TL.tl_append x y
theorem SOk.of_rp {F : Hp} {v : V} {l : List Nat} (r : Rp F v (.str l)) : SOk l := let ⟨_, _, _, h⟩ := r.str_inv; h
theorem lim_get {P : Ow0} {H : Hp} {a : Addr} {o : HO} (h : lim P H a = some o) : H a = some o := (lim_some h).2
/-- a new object -/
theorem rp_newT {P : Ow0} {H : Hp} {p : Addr} {vs : List V} {ds : List D} (dom : ∀ b, P b → H b ≠ none) (np : H p = none) (r : Rps (lim P H) vs ds) : Rp (lim P (upd H p (.tup vs))) (.ref p) (.tup ds) := by
  have nP : ¬ P p := fun z => dom p z np
  have e : Same H (upd H p (.tup vs)) := fun b o h => by rw [upd_ne (ne_of_none h np)]; exact h
  exact .tup (by rw [lim_in nP]; exact upd_same) (r.ex (lim_same e))
theorem rp_newL {P : Ow0} {H : Hp} {p : Addr} {vs : List V} {ds : List D} (dom : ∀ b, P b → H b ≠ none) (np : H p = none) (r : Rps (lim P H) vs ds) : Rp (lim P (upd H p (.lst vs))) (.ref p) (.lst ds) := by
  have nP : ¬ P p := fun z => dom p z np
  have e : Same H (upd H p (.lst vs)) := fun b o h => by rw [upd_ne (ne_of_none h np)]; exact h
  exact .lst (by rw [lim_in nP]; exact upd_same) (r.ex (lim_same e))
theorem same_new {H : Hp} {p : Addr} {o : HO} (np : H p = none) : Same H (upd H p o) := fun b u h => by rw [upd_ne (ne_of_none h np)]; exact h
/-- a new list as an owned thing -/
theorem ow_newL {P : Ow0} {H : Hp} {p : Addr} {vs : List V} {ds : List D} (np : H p = none) (r : Rps (lim P H) vs ds) : Ow (lim (fun b => P b ∨ b = p) (upd H p (.lst vs))) (upd H p (.lst vs)) p (.lst ds) := by
  refine .lst upd_same (r.ex fun b o h => ?_)
  obtain ⟨nb, hb⟩ := lim_some h
  have ne : b ≠ p := ne_of_none hb np
  rw [lim_in (fun z => z.elim nb ne), upd_ne ne]
  exact hb
def dAdd : D → D → Option D
  | .int i, .int j => some (.int (i + j))
  | .str a, .str b => if a.length + b.length ≤ 16777216 then some (.str (a ++ b)) else none
  | .tup a, .tup b => if a.length + b.length ≤ 16777216 then some (.tup (a ++ b)) else none
  | .lst a, .lst b => if a.length + b.length ≤ 16777216 then some (.lst (a ++ b)) else none
  | _, _ => none
def rAddS : R2 := fun x y H Q => ∃ i j, x = .str i ∧ y = .str j ∧ i.length + j.length ≤ sizeLine ∧ Q (.str (i ++ j)) H
def rAddA : R2 := fun x y H Q => rI0 (fun i j => .int (i + j)) x y H Q ∨ rAddS x y H Q ∨ (∀ K, rCatA K x y H Q) ∨ rCat x y H Q
theorem op_addA {X : Cx} : OpR X (binaryOp .Add) rAddA := op_add.or (OpR.or op_add_str (OpR.or (OpR.allK (r := rCatA) op_catA) op_cat))
theorem sem_addA : OpSem rAddA dAdd := fun P H x y a b d Q dom rx ry hf k => by
  unfold dAdd at hf
  split at hf
  · cases hf
    exact .inl ⟨_, _, rx.int_inv, ry.int_inv, k _ H (Same.refl H) (.int _)⟩
  · rename_i a b
    split at hf
    · rename_i hl
      cases hf
      obtain ⟨i, rfl, ei, hi⟩ := rx.str_inv
      obtain ⟨j, rfl, ej, hj⟩ := ry.str_inv
      refine .inr (.inl ⟨i, j, rfl, rfl, by rw [sizeLine_eq, tl_tl, tl_tl, ei, ej]; exact hl, k _ H (Same.refl H) (.mkStr' (by rw [tl_app, ei, ej]) (hi.append hj hl))⟩)
    · cases hf
  · rename_i a b
    split at hf
    · rename_i hl
      cases hf
      obtain ⟨p, vs, rfl, hp, rp⟩ := rx.tup_inv
      obtain ⟨q, ws, rfl, hq, rq⟩ := ry.tup_inv
      refine .inr (.inr (.inl fun K => ⟨p, q, vs, ws, rfl, rfl, SqT.of (lim_get hp), SqT.of (lim_get hq), by rw [rp.length, rq.length, sizeLine_eq]; exact hl, fun e => ?_, fun _ e => ?_, fun _ _ l hl => ?_⟩))
      · subst e
        cases rp
        exact k _ H (Same.refl H) (.tup hq rq)
      · subst e
        cases rq
        rw [List.append_nil] at k
        exact k _ H (Same.refl H) (.tup hp rp)
      · exact k _ _ (same_new hl) (rp_newT dom hl (rp.append rq))
    · cases hf
  · rename_i a b
    split at hf
    · rename_i hl
      cases hf
      obtain ⟨p, vs, rfl, hp, rp⟩ := rx.lst_inv
      obtain ⟨q, ws, rfl, hq, rq⟩ := ry.lst_inv
      exact .inr (.inr (.inr ⟨p, q, vs, ws, rfl, rfl, lim_get hp, lim_get hq, by rw [rp.length, rq.length, sizeLine_eq]; exact hl, fun l hl => k _ _ (same_new hl) (rp_newL dom hl (rp.append rq))⟩))
    · cases hf
  · cases hf
def dSub : D → D → Option D := fI0 fun i j => .int (i - j)
theorem sem_sub : OpSem (rI0 fun i j => .int (i - j)) dSub := sem_I0 fun _ _ _ => .int _
def cMul (i j : Int) : Bool := decide (i.natAbs < 18446744073709551616) || decide (j.natAbs < 18446744073709551616)
/-! * of texts, lists, tuples -/
def rMulS : R2 := fun x y H Q => ∃ (i : Str) (n : Int), x = .str i ∧ y = .int n ∧ n ≤ 100000 ∧ -100000 ≤ n ∧ i.length ≤ 100 ∧ Q (.str ⟨(List.replicate n.toNat i.cps.toList).flatten.toArray⟩) H
theorem foldl_app (x : Array Nat) : ∀ (n : Nat) (acc : List Nat), ((List.replicate n x).foldl (· ++ ·) acc.toArray).toList = acc ++ (List.replicate n x.toList).flatten
  | 0, acc => by simp
  | n + 1, acc => by
    rw [List.replicate_succ, List.foldl_cons, List.replicate_succ, List.flatten_cons]
    have e : (acc.toArray ++ x) = (acc ++ x.toList).toArray := by simp
    rw [e, foldl_app x n (acc ++ x.toList), List.append_assoc]
theorem flat_empty {α : Type} : ∀ n : Nat, (List.replicate n ([] : List α)).flatten = []
  | 0 => rfl
  | n + 1 => by rw [List.replicate_succ, List.flatten_cons, flat_empty n]; rfl
theorem op_mulS {X : Cx} : OpR X (binaryOp .Mult) rMulS := by
  intro pins s σ H x y v u Q I rx ry h
  obtain ⟨i, n, rfl, rfl, h1, h2, h3, q⟩ := h
  obtain ⟨t, rfl⟩ := rx
  obtain ⟨t', rfl⟩ := ry
  have len : ¬ n < 1 → i.length * n.toNat ≤ 10000000 := fun _ => by
    have a1 : i.length * n.toNat ≤ 100 * 100000 := Nat.mul_le_mul h3 (by omega)
    omega
  refine P.mul_str (by rw [decide_eq_false (by omega), decide_eq_false (by omega)]; rfl) (fun h4 _ h5 => ?_) (fun h4 _ => ?_) ?_
  · have : (100000 : Int) * n ≤ 2 ^ 63 - 1 := by omega
    have e : (100000 : Int) ≤ (2 ^ 63 - 1) / n := (Int.le_ediv_iff_mul_le (by omega)).mpr this
    omega
  · unfold Builtin.Str.tooLong
    have := len h4
    refine decide_eq_false ?_
    rw [sizeLine_eq]
    omega
  · split
    · rename_i hn
      refine ⟨by decide, .str Str.empty, H, I.tok _, ⟨_, rfl⟩, ?_⟩
      have e : n.toNat = 0 := by omega
      rw [e] at q
      exact q
    · rename_i hn
      split
      · rename_i hc
        refine ⟨.str i, H, I, ⟨_, rfl⟩, ?_⟩
        rcases Bool.or_eq_true_iff.mp hc with z | z
        · have e : n.toNat = 1 := by have := (beq_iff_eq.mp z); omega
          rw [e] at q
          simpa using q
        · have e : i.cps.toList = [] := by
            have := beq_iff_eq.mp z
            rw [tl_tl] at this
            exact List.eq_nil_of_length_eq_zero this
          rw [e, flat_empty] at q
          have e2 : i = (⟨([] : List Nat).toArray⟩ : Str) := by
            cases i with
            | mk c =>
              have : c.toList = [] := e
              congr 1
              apply Array.ext'
              simpa using this
          rw [e2]
          exact q
      · have e := foldl_app i.cps n.toNat []
        have e2 : (List.replicate n.toNat i.cps).foldl (· ++ ·) #[] = ((List.replicate n.toNat i.cps.toList).flatten).toArray := by
          apply Array.ext'
          simpa using e
        rw [e2]
        refine ⟨?_, .str _, H, I.tok _, ⟨_, rfl⟩, q⟩
        show Str.length _ ≤ sizeLine
        rw [sizeLine_eq]
        show ((List.replicate n.toNat i.cps.toList).flatten).toArray.size ≤ _
        rw [List.size_toArray, List.length_flatten, List.map_replicate, List.sum_replicate_nat]
        have := len hn
        rw [← tl_tl, Nat.mul_comm]
        omega
end VS
namespace VS
open PySem PySem.Spec PyProof.Rows L2
theorem tuple_mul1 (l : Addr) (items : Array Value) (n : Nat) (dd : Option Addr) (sl : Array (Option Value)) (x : Int) (u : Tok) (c0 : (decide (x < -(2 ^ 63)) || decide (x ≥ 2 ^ 63)) = false) (c1 : (items.isEmpty || x == 1) = true) :
    Meets (Builtin.«tuple.__mul__» ⟨[.ref l, .int x u], []⟩) (fun _ R s => s.heap.get? l = some { cls := .type "tuple", dict := dd, data := .seq items n, slots := sl } ∧
      R (.ok (.ret (Value.ref l))) { s with heap := s.heap, toks := s.toks }) :=
  .of_wp fun prog w A R s h => by
    obtain ⟨hp, g, d, tk, os⟩ := s
    obtain ⟨hl, h⟩ := h
    have f1 := AutoSeq1.idx_int
    wp_walk using wpAny_loadPart' hl
    repeat (first
      | (refine wpAny_ite_false (decide_eq_false (by rw [c0]; exact Bool.false_ne_true)) ?_; wp_walk using wpAny_loadPart' hl)
      | (refine wpAny_ite_true (decide_eq_true c1) ?_; wp_walk using wpAny_loadPart' hl))
    exact ⟨_, rfl, h⟩
theorem tuple_mul0 (l : Addr) (items : Array Value) (n : Nat) (dd : Option Addr) (sl : Array (Option Value)) (x : Int) (u : Tok) (c0 : (decide (x < -(2 ^ 63)) || decide (x ≥ 2 ^ 63)) = false) (c1 : (items.isEmpty || x == 1) = false) (c2 : (decide (x ≤ 0) || items.isEmpty) = true) :
    Meets (Builtin.«tuple.__mul__» ⟨[.ref l, .int x u], []⟩) (fun _ R s => s.heap.get? l = some { cls := .type "tuple", dict := dd, data := .seq items n, slots := sl } ∧
      R (.ok (.ret (Value.ref s.heap.objs.size))) { s with heap := s.heap.push { cls := Value.type "tuple", data := Data.seq #[] }, toks := s.toks }) :=
  .of_wp fun prog w A R s h => by
    obtain ⟨hp, g, d, tk, os⟩ := s
    obtain ⟨hl, h⟩ := h
    have f1 := AutoSeq1.idx_int
    wp_walk using wpAny_loadPart' hl
    repeat (first
      | (refine wpAny_ite_false (decide_eq_false (by rw [c0]; exact Bool.false_ne_true)) ?_; wp_walk using wpAny_loadPart' hl)
      | (refine wpAny_ite_false (decide_eq_false (by rw [c1]; exact Bool.false_ne_true)) ?_; wp_walk using wpAny_loadPart' hl)
      | (refine wpAny_ite_true (decide_eq_true c2) ?_; wp_walk using wpAny_loadPart' hl)
      | (refine wpAny_ite_false (decide_eq_false (by exact fun z => absurd z (by decide))) ?_; wp_walk using wpAny_loadPart' hl))
    exact ⟨_, rfl, h⟩
/-- a tuple times an int, all cases -/
def rRepU : R2 := fun x y H Q => ∃ l k xs, x = .ref l ∧ y = .int k ∧ H l = some (.tup xs) ∧ -1000 ≤ k ∧ k ≤ 1000 ∧ xs.length ≤ 1000 ∧
  (xs = [] ∨ k = 1 → Q (.ref l) H) ∧ (¬ (xs = [] ∨ k = 1) → ∀ p, H p = none → Q (.ref p) (upd H p (.tup (List.replicate k.toNat xs).flatten)))
theorem op_repU {X : Cx} : OpR X (binaryOp .Mult) rRepU := by
  intro pins s σ H x y v u Q I rx ry h
  obtain ⟨l, k, xs, rfl, rfl, hT, hk0, hk1, hz, q1, q2⟩ := h
  by_cases h2 : 2 ≤ k ∧ xs ≠ []
  · refine op_repT pins s σ H (.ref l) (.int k) v u Q I rx ry ⟨l, k, xs, rfl, rfl, SqT.of hT, h2.2, h2.1, hk1, hz, q2 ?_⟩
    rintro (z | z)
    · exact h2.2 z
    · omega
  · cases rx
    obtain ⟨t, rfl⟩ := ry
    obtain ⟨its, r, ⟨⟨cls, dd, data, sl⟩, ho, hc, n, hd⟩, hs⟩ := I.tuple (SqT.of hT)
    simp only at hc hd
    subst hc hd
    have hle : its.length = xs.length := r.length.symm
    have c0 : (decide (k < -(2 ^ 63)) || decide (k ≥ 2 ^ 63)) = false := by
      rw [decide_eq_false (by omega), decide_eq_false (by omega)] <;> rfl
    have hem : its.toArray.isEmpty = decide (xs = []) := by
      cases its with
      | nil =>
        have : xs = [] := List.eq_nil_of_length_eq_zero hle.symm
        rw [decide_eq_true this]; rfl
      | cons a b =>
        have : xs ≠ [] := fun e => by rw [e] at hle; simp at hle
        rw [decide_eq_false this]; simp
    by_cases h1 : xs = [] ∨ k = 1
    · have c1 : (its.toArray.isEmpty || k == 1) = true := by
        rw [hem]
        rcases h1 with z | z
        · rw [decide_eq_true z]; rfl
        · rw [z]; simp
      exact wpAny_binaryOp_repeat_ref (T := "tuple") (U := "int") (by decide) ⟨_, ho, rfl⟩ (fun s' => typeIs_int s' k t) noFill_tuple_mul F.fills_int_mul F.slot_int_rmul repeat_tuple F.slot_int_index.lookup
        (call_meets F.slot_int_rmul (typeIs_int s k t) F.entry_int_rmul (F.args_int_rmul_2 _ _) (int_rmul_tuple k t l its.toArray n dd sl)
          ⟨ho, rfl, ⟨_, ho, rfl⟩, call_meets F.slot_tuple_mul ⟨_, ho, rfl⟩ F.entry_tuple_mul (F.args_tuple_mul_2 _ _) (tuple_mul1 l its.toArray n dd sl k t c0 c1) ⟨ho, ⟨.ref l, H, I, rfl, q1 h1⟩⟩⟩)
    · have k0 : k ≤ 0 := by
        have : ¬ 2 ≤ k := fun z => h2 ⟨z, fun e => h1 (.inl e)⟩
        omega
      have c1 : (its.toArray.isEmpty || k == 1) = false := by
        rw [hem, decide_eq_false (fun z => h1 (.inl z)), Bool.false_or]
        exact beq_eq_false_iff_ne.mpr (by omega)
      have c2 : (decide (k ≤ 0) || its.toArray.isEmpty) = true := by
        rw [decide_eq_true k0]; rfl
      refine wpAny_binaryOp_repeat_ref (T := "tuple") (U := "int") (by decide) ⟨_, ho, rfl⟩ (fun s' => typeIs_int s' k t) noFill_tuple_mul F.fills_int_mul F.slot_int_rmul repeat_tuple F.slot_int_index.lookup
        (call_meets F.slot_int_rmul (typeIs_int s k t) F.entry_int_rmul (F.args_int_rmul_2 _ _) (int_rmul_tuple k t l its.toArray n dd sl)
          ⟨ho, rfl, ⟨_, ho, rfl⟩, call_meets F.slot_tuple_mul ⟨_, ho, rfl⟩ F.entry_tuple_mul (F.args_tuple_mul_2 _ _) (tuple_mul0 l its.toArray n dd sl k t c0 c1 c2) ⟨ho, ?_⟩⟩)
      have e : (List.replicate k.toNat xs).flatten = [] := by
        rw [show k.toNat = 0 by omega]; rfl
      have q3 := q2 h1 s.heap.objs.size (I.hok.fresh (Nat.le_refl _))
      rw [e] at q3
      exact ⟨.ref s.heap.objs.size, _, I.laid (t' := s.toks) (o := .tup []) (fun b ob q => Heap.get?_push_of_some _ q) (Nat.le_refl _) ⟨Nat.zero_le _, [], .nil, IsTup.new _ _⟩, rfl, q3⟩
def dMul : D → D → Option D
  | .int i, .int j => if cMul i j = true then some (.int (i * j)) else none
  | .str l, .int n => if n.natAbs ≤ 100000 ∧ l.length ≤ 100 then some (.str (List.replicate n.toNat l).flatten) else none
  | .lst l, .int n => if n.natAbs ≤ 100000 ∧ l.length ≤ 100 then some (.lst (List.replicate n.toNat l).flatten) else none
  | .tup l, .int n => if n.natAbs ≤ 1000 ∧ l.length ≤ 1000 then some (.tup (List.replicate n.toNat l).flatten) else none
  | _, _ => none
def rMulA : R2 := fun x y H Q => rI CMul (fun i j => .int (i * j)) x y H Q ∨ rMulS x y H Q ∨ rRep x y H Q ∨ rRepU x y H Q
theorem op_mulA {X : Cx} : OpR X (binaryOp .Mult) rMulA := op_mul.or (OpR.or op_mulS (OpR.or op_rep op_repU))
theorem SOk.rep {l : List Nat} (h : SOk l) (n : Nat) (hn : n ≤ 100000) (hl : l.length ≤ 100) : SOk (List.replicate n l).flatten := ⟨fun c hc => by
  obtain ⟨m, hm, hc⟩ := List.mem_flatten.mp hc
  rw [List.eq_of_mem_replicate hm] at hc
  exact h.1 c hc, by
  rw [List.length_flatten, List.map_replicate, List.sum_replicate_nat]
  have a1 : n * l.length ≤ 100000 * 100 := Nat.mul_le_mul hn hl
  omega⟩
theorem sem_mulA : OpSem rMulA dMul := fun P H x y a b d Q dom rx ry hf k => by
  unfold dMul at hf
  split at hf
  · rename_i i j
    split at hf
    · rename_i hc
      cases hf
      refine .inl ⟨i, j, rx.int_inv, ry.int_inv, ?_, k _ H (Same.refl H) (.int _)⟩
      unfold cMul at hc
      unfold CMul
      simp only [Bool.or_eq_true, decide_eq_true_eq] at hc
      omega
    · cases hf
  · rename_i l n
    split at hf
    · rename_i hc
      cases hf
      obtain ⟨i, rfl, ei, hi⟩ := rx.str_inv
      refine .inr (.inl ⟨i, n, rfl, ry.int_inv, by omega, by omega, by rw [tl_tl, ei]; exact hc.2, k _ H (Same.refl H) ?_⟩)
      rw [ei]
      exact .mkStr (hi.rep _ (by omega) hc.2)
    · cases hf
  · rename_i l n
    split at hf
    · rename_i hc
      cases hf
      obtain ⟨p, vs, rfl, hp, rp⟩ := rx.lst_inv
      refine .inr (.inr (.inl ⟨p, n, vs, rfl, ry.int_inv, lim_get hp, by omega, by omega, ?_, fun q hq => k _ _ (same_new hq) (rp_newL dom hq (rp.rep _))⟩))
      rw [rp.length, sizeLine_eq]
      have a1 : l.length * n.toNat ≤ 100 * 100000 := Nat.mul_le_mul hc.2 (by omega)
      omega
    · cases hf
  · rename_i l n
    split at hf
    · rename_i hc
      cases hf
      obtain ⟨p, vs, rfl, hp, rp⟩ := rx.tup_inv
      refine .inr (.inr (.inr ⟨p, n, vs, rfl, ry.int_inv, lim_get hp, by omega, by omega, by rw [rp.length]; exact hc.2, fun z => ?_, fun z q hq => k _ _ (same_new hq) (rp_newT dom hq (rp.rep _))⟩))
      refine k _ H (Same.refl H) (.tup hp ?_)
      rcases z with z | z
      · subst z
        cases rp
        rw [flat_empty]
        exact .nil
      · subst z
        show Rps _ vs (l ++ [])
        rw [List.append_nil]
        exact rp
    · cases hf
  · cases hf
def cDiv (_ j : Int) : Bool := decide (0 < j) && decide (j.natAbs < 340282366920938463463374607431768211456)
theorem cDiv_ok (i j : Int) (h : cDiv i j = true) : CDivW i j := by
  unfold cDiv at h
  simp only [Bool.and_eq_true, decide_eq_true_eq] at h
  exact wide_div (b := 128) h.1 (by omega) (by decide) (by decide)
def dDiv : D → D → Option D := fI cDiv fun i j => .int (i / j)
theorem sem_div : OpSem (rI CDivW fun i j => .int (i / j)) dDiv := sem_I cDiv_ok fun _ _ _ => .int _
def dMod : D → D → Option D := fI (fun _ j => decide (0 < j)) fun i j => .int (i % j)
theorem sem_mod : OpSem (rI (fun _ j => 0 < j) fun i j => .int (i % j)) dMod := sem_I (fun _ _ h => of_decide_eq_true h) fun _ _ _ => .int _
def cPow (i j : Int) : Bool := decide (0 ≤ j) && decide (j.natAbs ≤ 1000000) && decide (i.natAbs < 18446744073709551616)
theorem cPow_ok (i j : Int) (h : cPow i j = true) : CPow i j := by
  unfold cPow at h
  simp only [Bool.and_eq_true, decide_eq_true_eq] at h
  exact ⟨h.1.1, by omega, h.2⟩
def dPow : D → D → Option D := fI cPow fun i j => .int (i ^ j.toNat)
theorem sem_pow : OpSem (rI CPow fun i j => .int (i ^ j.toNat)) dPow := sem_I cPow_ok fun _ _ _ => .int _
def dShl : D → D → Option D := fI cPow fun i j => .int (i * 2 ^ j.toNat)
theorem sem_shl : OpSem (rI CPow fun i j => .int (i * 2 ^ j.toNat)) dShl := sem_I cPow_ok fun _ _ _ => .int _
def dShr : D → D → Option D := fI (fun _ j => decide (0 ≤ j)) fun i j => .int (i / 2 ^ j.toNat)
theorem sem_shr : OpSem (rI (fun _ j => 0 ≤ j) fun i j => .int (i / 2 ^ j.toNat)) dShr := sem_I (fun _ _ h => of_decide_eq_true h) fun _ _ _ => .int _
def dAnd : D → D → Option D := fI0 fun i j => .int (Builtin.bitAnd i j)
theorem sem_and : OpSem (rI0 fun i j => .int (Builtin.bitAnd i j)) dAnd := sem_I0 fun _ _ _ => .int _
def dXor : D → D → Option D := fI0 fun i j => .int (Builtin.bitXor i j)
theorem sem_xor : OpSem (rI0 fun i j => .int (Builtin.bitXor i j)) dXor := sem_I0 fun _ _ _ => .int _
section
variable {ι : Type} {X : Cxs ι} {O : List Nat} {e a b c : Expr} {es : List Expr} {g ga gb gc : Ev → Option D} {pos : Pos}
theorem q_add (ha : QE X O a ga) (hb : QE X O b gb) : QE X O (.BinOp a .Add b pos) (g2 dAdd ga gb) := q_op (fun _ => op_addA) sem_addA ha hb
theorem q_sub (ha : QE X O a ga) (hb : QE X O b gb) : QE X O (.BinOp a .Sub b pos) (g2 dSub ga gb) := q_op (fun _ => op_sub) sem_sub ha hb
theorem q_mul (ha : QE X O a ga) (hb : QE X O b gb) : QE X O (.BinOp a .Mult b pos) (g2 dMul ga gb) := q_op (fun _ => op_mulA) sem_mulA ha hb
theorem q_div (ha : QE X O a ga) (hb : QE X O b gb) : QE X O (.BinOp a .FloorDiv b pos) (g2 dDiv ga gb) := q_op (fun _ => op_fdivW) sem_div ha hb
theorem q_mod (ha : QE X O a ga) (hb : QE X O b gb) : QE X O (.BinOp a .Mod b pos) (g2 dMod ga gb) := q_op (fun _ => op_mod) sem_mod ha hb
theorem q_pow (ha : QE X O a ga) (hb : QE X O b gb) : QE X O (.BinOp a .Pow b pos) (g2 dPow ga gb) := q_op (fun _ => op_pow) sem_pow ha hb
theorem q_shl (ha : QE X O a ga) (hb : QE X O b gb) : QE X O (.BinOp a .LShift b pos) (g2 dShl ga gb) := q_op (fun _ => op_shl) sem_shl ha hb
theorem q_shr (ha : QE X O a ga) (hb : QE X O b gb) : QE X O (.BinOp a .RShift b pos) (g2 dShr ga gb) := q_op (fun _ => op_shr) sem_shr ha hb
theorem q_band (ha : QE X O a ga) (hb : QE X O b gb) : QE X O (.BinOp a .BitAnd b pos) (g2 dAnd ga gb) := q_op (fun _ => op_and) sem_and ha hb
theorem q_xor (ha : QE X O a ga) (hb : QE X O b gb) : QE X O (.BinOp a .BitXor b pos) (g2 dXor ga gb) := q_op (fun _ => op_xor) sem_xor ha hb
end
end VS
namespace VS
open PySem PySem.Spec PyProof.Rows L2
/-! ### == -/
mutual
def toPy : D → PyData
  | .bot => .none
  | .non => .none
  | .bl b => .bool b
  | .int i => .int i
  | .str l => .str ⟨l.toArray⟩
  | .tup l => .tuple (toPys l)
  | .lst l => .list (toPys l)
  | .dct _ => .none
  | .obj _ => .none
def toPys : List D → List PyData
  | [] => []
  | x :: r => toPy x :: toPys r
end
mutual
/-- how deep data are; a dict is no data here -/
def dep : D → Nat
  | .tup l => deps l + 1
  | .lst l => deps l + 1
  | .dct _ => 100
  | .obj _ => 100
  | .bot => 100
  | _ => 0
def deps : List D → Nat
  | [] => 0
  | x :: r => max (dep x) (deps r)
end
mutual
def deq : D → D → Bool
  | .non, .non => true
  | .bl a, .bl b => a == b
  | .bl a, .int j => (if a then 1 else 0) == j
  | .int i, .bl b => i == (if b then 1 else 0)
  | .int i, .int j => i == j
  | .str x, .str y => x == y
  | .tup x, .tup y => deqs x y
  | .lst x, .lst y => deqs x y
  | _, _ => false
def deqs : List D → List D → Bool
  | [], [] => true
  | x :: xs, y :: ys => deq x y && deqs xs ys
  | _, _ => false
end
theorem str_beq (a b : List Nat) : ((⟨a.toArray⟩ : Str) == ⟨b.toArray⟩) = (a == b) := by
  by_cases e : a = b
  · subst e; simp
  · have h : ¬ (⟨a.toArray⟩ : Str) = ⟨b.toArray⟩ := fun z => e (by
      have := Str.mk.inj z
      simpa using this)
    rw [beq_eq_false_iff_ne.mpr h, beq_eq_false_iff_ne.mpr e]
mutual
theorem deq_toPy : ∀ (a b : D), dep a ≤ 64 → dep b ≤ 64 → PyData.eqv (toPy a) (toPy b) = deq a b
  | .bot, b, h, _ => by simp [dep] at h
  | .dct _, b, h, _ => by simp [dep] at h
  | .obj _, b, h, _ => by simp [dep] at h
  | .non, b, _, h => by cases b <;> simp_all [toPy, PyData.eqv, deq, dep]
  | .bl a, b, _, h => by cases b <;> simp_all [toPy, PyData.eqv, deq, dep]
  | .int i, b, _, h => by cases b <;> simp_all [toPy, PyData.eqv, deq, dep]
  | .str l, b, _, h => by
    cases b <;> simp_all [toPy, PyData.eqv, deq, dep]
    exact str_beq _ _
  | .tup l, b, h1, h => by
    cases b <;> simp_all [toPy, PyData.eqv, deq, dep]
    rename_i m
    exact deqs_toPy l m (by omega) (by omega)
  | .lst l, b, h1, h => by
    cases b <;> simp_all [toPy, PyData.eqv, deq, dep]
    rename_i m
    exact deqs_toPy l m (by omega) (by omega)
theorem deqs_toPy : ∀ (a b : List D), deps a ≤ 64 → deps b ≤ 64 → PyData.eqvAll (toPys a) (toPys b) = deqs a b
  | [], [], _, _ => by simp [toPys, PyData.eqvAll, deqs]
  | [], _ :: _, _, _ => by simp [toPys, PyData.eqvAll, deqs]
  | _ :: _, [], _, _ => by simp [toPys, PyData.eqvAll, deqs]
  | x :: xs, y :: ys, h1, h2 => by
    simp only [deps] at h1 h2
    simp only [toPys, PyData.eqvAll, deqs]
    rw [deq_toPy x y (by omega) (by omega), deqs_toPy xs ys (by omega) (by omega)]
end
mutual
theorem depth_toPy : ∀ (a : D), dep a ≤ 64 → (toPy a).depth ≤ dep a
  | .bot, h => by simp [dep] at h
  | .dct _, h => by simp [dep] at h
  | .obj _, h => by simp [dep] at h
  | .non, _ => by simp [toPy, PyData.depth]
  | .bl _, _ => by simp [toPy, PyData.depth]
  | .int _, _ => by simp [toPy, PyData.depth]
  | .str _, _ => by simp [toPy, PyData.depth]
  | .tup l, h => by
    simp only [dep] at h
    have := depths_toPy l (by omega)
    simp only [toPy, PyData.depth, dep]
    omega
  | .lst l, h => by
    simp only [dep] at h
    have := depths_toPy l (by omega)
    simp only [toPy, PyData.depth, dep]
    omega
theorem depths_toPy : ∀ (a : List D), deps a ≤ 64 → PyData.depthAll (toPys a) ≤ deps a
  | [], _ => by simp [toPys, PyData.depthAll]
  | x :: xs, h => by
    simp only [deps] at h
    have h1 := depth_toPy x (by omega)
    have h2 := depths_toPy xs (by omega)
    simp only [toPys, PyData.depthAll, deps]
    omega
end
theorem strOk_of {l : List Nat} (h : SOk l) : PyData.strOk (⟨l.toArray⟩ : Str) = true := by
  unfold PyData.strOk
  simp only [List.all_toArray', List.all_eq_true, decide_eq_true_eq]
  exact h.1
mutual
theorem Rp.dp {K : PySem.W.Frag} {F H : Hp} (e : Same F H) : ∀ {v : V} {d : D}, Rp F v d → dep d ≤ 64 → Dp K H v (toPy d) ∧ (toPy d).canLay0 = true
  | _, _, .non, _ => ⟨.non, rfl⟩
  | _, _, .bl b, _ => ⟨.bl b, rfl⟩
  | _, _, .int i, _ => ⟨.int i, rfl⟩
  | _, _, .str x h, _ => ⟨by simpa [toPy] using Dp.str x, by simp only [toPy, PyData.canLay0]; exact strOk_of h⟩
  | _, _, .tup h r, hd => by
    simp only [dep] at hd
    obtain ⟨h1, h2⟩ := Rps.dp (K := K) e r (by omega)
    exact ⟨.tup (SqT.of (e _ _ h)) h1, by simp only [toPy, PyData.canLay0]; exact h2⟩
  | _, _, .lst h r, hd => by
    simp only [dep] at hd
    obtain ⟨h1, h2⟩ := Rps.dp (K := K) e r (by omega)
    exact ⟨.lst (SqL.of (e _ _ h)) h1, by simp only [toPy, PyData.canLay0]; exact h2⟩
  | _, _, .obj _, hd => by simp [dep] at hd
  | _, _, .dK _ _, hd => by simp [dep] at hd
  | _, _, .dT _ _, hd => by simp [dep] at hd
theorem Rps.dp {K : PySem.W.Frag} {F H : Hp} (e : Same F H) : ∀ {vs : List V} {ds : List D}, Rps F vs ds → deps ds ≤ 64 → DpAll K H vs (toPys ds) ∧ PyData.canLayAll0 (toPys ds) = true
  | _, _, .nil, _ => ⟨.nil, rfl⟩
  | _, _, .cons r t, hd => by
    simp only [deps] at hd
    obtain ⟨h1, h2⟩ := Rp.dp (K := K) e r (by omega)
    obtain ⟨h3, h4⟩ := Rps.dp (K := K) e t (by omega)
    exact ⟨.cons h1 h3, by simp only [toPys, PyData.canLayAll0, h2, h4, Bool.and_self]⟩
end
theorem Bp.dp {K : PySem.W.Frag} {P : Ow0} {H : Hp} {v : V} {d : D} (b : Bp P H v d) (hd : dep d ≤ 64) : Dp K H v (toPy d) ∧ SeqAt.shaped (toPy d) = true := by
  have sh : (toPy d).canLay0 = true → SeqAt.shaped (toPy d) = true := fun h => by
    unfold SeqAt.shaped
    rw [h, Bool.true_and]
    exact decide_eq_true (Nat.le_trans (depth_toPy d hd) hd)
  rcases b with r | ⟨a, rfl, o⟩
  · obtain ⟨h1, h2⟩ := r.dp (K := K) lim_le hd
    exact ⟨h1, sh h2⟩
  · cases o with
    | lst h r =>
      simp only [dep] at hd
      obtain ⟨h1, h2⟩ := r.dp (K := K) lim_le (by omega)
      refine ⟨.lst (SqL.of h) h1, sh ?_⟩
      simp only [toPy, PyData.canLay0]; exact h2
    | dK h r => simp [dep] at hd
    | dT h r => simp [dep] at hd
/-- operators that only read -/
def OpSemB (r : R2) (f : D → D → Option D) : Prop := ∀ (P : Ow0) (H : Hp) (x y : V) (a b d : D) (Q : VK), (∀ b, P b → H b ≠ none) → Bp P H x a → Bp P H y b → f a b = some d →
  (∀ v H', Same H H' → Rp (lim P H') v d → Q v H') → r x y H Q
section
variable {ι : Type} {X : Cxs ι} {O : List Nat} {e a b c : Expr} {es : List Expr} {g ga gb gc : Ev → Option D} {pos : Pos}
theorem ep_opB {r : R2} {f : D → D → Option D} {ta tb : TE} (hr : OpSemB r f) (ha : EB O ta ga) (hb : EB O tb gb) : EP O (tOp r ta tb) (g2 f ga gb) := fun P pf σ H δ d Q R hg k => by
  obtain ⟨x, hx, hg⟩ := bind_some hg
  obtain ⟨y, hy, hg⟩ := bind_some hg
  refine ha P pf σ H δ x _ R hx fun v H1 e1 r1 => ?_
  have R1 := R.same e1
  refine hb P pf σ H1 δ y _ R1 hy fun u H2 e2 r2 => ?_
  exact hr P H2 v u x y d Q (R1.same e2).dom (r1.same e2) r2 hg fun z H3 e3 r3 => k z H3 ((e1.trans e2).trans e3) r3
theorem q_cmpB {op : CmpOp} {r : R2} {f : D → D → Option D} (ho : ∀ i, OpR (X i) (compareOp op) r) (hm : behindInMarks op b = false) (hr : OpSemB r f) (ha : QB X O a ga) (hb : QB X O b gb) : QE X O (.Compare a [op] [b] pos) (g2 f ga gb) := by
  obtain ⟨ta, pa, ea⟩ := ha
  obtain ⟨tb, pb, eb⟩ := hb
  exact ⟨_, fun i => pe_cmpR (ho i) (pa i) (pb i) hm, ep_opB hr ea eb⟩
end
def dEq (a b : D) : Option D := if dep a ≤ 64 ∧ dep b ≤ 64 then some (.bl (deq a b)) else none
def dNe (a b : D) : Option D := if dep a ≤ 64 ∧ dep b ≤ 64 then some (.bl (!deq a b)) else none
theorem sem_eq : OpSemB (fun x y H Q => ∀ K, rEqD K x y H Q) dEq := fun P H x y a b d Q dom rx ry hf k K => by
  unfold dEq at hf
  split at hf
  · rename_i hd
    cases hf
    obtain ⟨h1, h2⟩ := rx.dp (K := K) hd.1
    obtain ⟨h3, h4⟩ := ry.dp (K := K) hd.2
    refine ⟨_, _, h1, h3, h2, h4, ?_⟩
    rw [deq_toPy a b hd.1 hd.2]
    exact k _ H (Same.refl H) (.bl _)
  · cases hf
theorem sem_ne : OpSemB (fun x y H Q => ∀ K, rNeD K x y H Q) dNe := fun P H x y a b d Q dom rx ry hf k K => by
  unfold dNe at hf
  split at hf
  · rename_i hd
    cases hf
    obtain ⟨h1, h2⟩ := rx.dp (K := K) hd.1
    obtain ⟨h3, h4⟩ := ry.dp (K := K) hd.2
    refine ⟨_, _, h1, h3, h2, h4, ?_⟩
    rw [deq_toPy a b hd.1 hd.2]
    exact k _ H (Same.refl H) (.bl _)
  · cases hf
/-! ### is -/
def isNon : D → Bool
  | .non => true
  | _ => false
def dIs : D → D → Option D
  | a, .non => some (.bl (isNon a))
  | .bl a, .bl b => some (.bl (a == b))
  | _, _ => none
def dIsNot : D → D → Option D
  | a, .non => some (.bl (!isNon a))
  | .bl a, .bl b => some (.bl (!(a == b)))
  | _, _ => none
theorem Bp.non {P : Ow0} {H : Hp} {v : V} {d : D} (b : Bp P H v d) : decide (v = .non) = isNon d := by
  rcases b with r | ⟨a, rfl, o⟩
  · cases r <;> simp [isNon]
  · cases o <;> simp [isNon]
theorem Bp.bl_inv {P : Ow0} {H : Hp} {v : V} {b : Bool} (r : Bp P H v (.bl b)) : v = .bl b := by
  rcases r with r | ⟨a, rfl, o⟩
  · exact r.bl_inv
  · cases o
theorem Bp.int_inv {P : Ow0} {H : Hp} {v : V} {b : Int} (r : Bp P H v (.int b)) : v = .int b := by
  rcases r with r | ⟨a, rfl, o⟩
  · exact r.int_inv
  · cases o
theorem Bp.non_inv {P : Ow0} {H : Hp} {v : V} (r : Bp P H v .non) : v = .non := by
  rcases r with r | ⟨a, rfl, o⟩
  · exact r.non_inv
  · cases o
theorem Bp.str_inv {P : Ow0} {H : Hp} {v : V} {l : List Nat} (r : Bp P H v (.str l)) : ∃ x : Str, v = .str x ∧ x.cps.toList = l ∧ SOk l := by
  rcases r with r | ⟨a, rfl, o⟩
  · exact r.str_inv
  · cases o
theorem Bp.tup_inv {P : Ow0} {H : Hp} {v : V} {l : List D} (r : Bp P H v (.tup l)) : ∃ a vs, v = .ref a ∧ H a = some (.tup vs) ∧ lim P H a = some (.tup vs) ∧ Rps (lim P H) vs l := by
  rcases r with r | ⟨a, rfl, o⟩
  · obtain ⟨a, vs, h1, h2, h3⟩ := r.tup_inv
    exact ⟨a, vs, h1, lim_get h2, h2, h3⟩
  · cases o
theorem Bp.lst_inv {P : Ow0} {H : Hp} {v : V} {l : List D} (r : Bp P H v (.lst l)) : ∃ a vs, v = .ref a ∧ H a = some (.lst vs) ∧ Rps (lim P H) vs l := by
  rcases r with r | ⟨a, rfl, o⟩
  · obtain ⟨a, vs, h1, h2, h3⟩ := r.lst_inv
    exact ⟨a, vs, h1, lim_get h2, h3⟩
  · cases o with
    | lst h r => exact ⟨a, _, rfl, h, r⟩
def rIsA : R2 := fun x y H Q => (y = .non ∧ Q (.bl (decide (x = .non))) H) ∨ rIsB x y H Q
def rIsNotA : R2 := fun x y H Q => (y = .non ∧ Q (.bl (!decide (x = .non))) H) ∨ rNotB x y H Q
theorem sem_is : OpSemB rIsA dIs := fun P H x y a b d Q dom rx ry hf k => by
  unfold dIs at hf
  split at hf
  · cases hf
    refine .inl ⟨ry.non_inv, ?_⟩
    rw [rx.non]
    exact k _ H (Same.refl H) (.bl _)
  · rename_i a b
    cases hf
    refine .inr ⟨a, b, rx.bl_inv, ry.bl_inv, ?_⟩
    rw [← Bool.beq_eq_decide_eq]
    exact k _ H (Same.refl H) (.bl _)
  · cases hf
theorem sem_isnot : OpSemB rIsNotA dIsNot := fun P H x y a b d Q dom rx ry hf k => by
  unfold dIsNot at hf
  split at hf
  · cases hf
    refine .inl ⟨ry.non_inv, ?_⟩
    rw [rx.non]
    exact k _ H (Same.refl H) (.bl _)
  · rename_i a b
    cases hf
    refine .inr ⟨a, b, rx.bl_inv, ry.bl_inv, ?_⟩
    rw [← Bool.beq_eq_decide_eq]
    exact k _ H (Same.refl H) (.bl _)
  · cases hf
/-! ### order -/
def dLt : D → D → Option D
  | .int i, .int j => some (.bl (decide (i < j)))
  | .str a, .str b => some (.bl (decide (a < b)))
  | _, _ => none
def rLtA : R2 := fun x y H Q => rI0 (fun i j => .bl (decide (i < j))) x y H Q ∨ (∃ i j, x = .str i ∧ y = .str j ∧ Q (.bl (decide (i.cps.toList < j.cps.toList))) H)
theorem op_ltA {X : Cx} : OpR X (compareOp .Lt) rLtA := op_lt.or op_lt_str
theorem sem_lt : OpSemB rLtA dLt := fun P H x y a b d Q dom rx ry hf k => by
  unfold dLt at hf
  split at hf
  · cases hf
    exact .inl ⟨_, _, rx.int_inv, ry.int_inv, k _ H (Same.refl H) (.bl _)⟩
  · cases hf
    obtain ⟨i, rfl, ei, _⟩ := rx.str_inv
    obtain ⟨j, rfl, ej, _⟩ := ry.str_inv
    subst ei ej
    exact .inr ⟨_, _, rfl, rfl, k _ H (Same.refl H) (.bl _)⟩
  · cases hf
theorem OpSem.b {r : R2} {C : Int → Int → D} {f : Int → Int → V} (h : OpSem r (fI0 C)) : OpSemB r (fI0 C) := fun P H x y a b d Q dom rx ry hf k => by
  have hi : ∀ {v : V} {z : D} {i : Int}, z = .int i → Bp P H v z → Rp (lim P H) v z := fun e r => by
    subst e; rw [r.int_inv]; exact .int _
  cases a <;> cases b <;> simp only [fI0] at hf <;> first | cases hf | skip
  rename_i i j
  exact h P H x y _ _ _ Q dom (hi rfl rx) (hi rfl ry) rfl k
def dLe : D → D → Option D := fI0 fun i j => .bl (decide (i ≤ j))
def dGt : D → D → Option D := fI0 fun i j => .bl (decide (j < i))
def dGe : D → D → Option D := fI0 fun i j => .bl (decide (j ≤ i))
theorem sem_le : OpSemB (rI0 fun i j => .bl (decide (i ≤ j))) dLe := OpSem.b (f := fun i j => .int 0) (sem_I0 fun _ _ _ => .bl _)
theorem sem_gt : OpSemB (rI0 fun i j => .bl (decide (j < i))) dGt := OpSem.b (f := fun i j => .int 0) (sem_I0 fun _ _ _ => .bl _)
theorem sem_ge : OpSemB (rI0 fun i j => .bl (decide (j ≤ i))) dGe := OpSem.b (f := fun i j => .int 0) (sem_I0 fun _ _ _ => .bl _)
/-! ### in -/
def subL (y x : List Nat) : Bool := (List.range (x.length + 1)).any fun i => TL.pre y (x.drop i)
theorem subL_iff (x y : Str) : (!(Builtin.Str.occurrences x y 0 x.length 1).isEmpty) = subL y.cps.toList x.cps.toList := by
  have e : (!(Builtin.Str.occurrences x y 0 x.length 1).isEmpty) = true ↔ subL y.cps.toList x.cps.toList = true := by
    rw [StrLaws.found_iff]
    unfold subL
    rw [List.any_eq_true]
    by_cases hy : y.cps.toList = []
    · constructor
      · intro _
        refine ⟨0, by simp, ?_⟩
        unfold TL.pre
        rw [hy]
        rfl
      · intro _
        have hl : y.length = 0 := by rw [tl_tl, hy]; rfl
        refine ⟨0, by omega, ?_⟩
        unfold Builtin.Str.subAt
        rw [hl]
        have : y.cps = #[] := by apply Array.ext'; simpa using hy
        rw [this]
        simp
    · constructor
      · rintro ⟨i, h1, h2⟩
        refine ⟨i, List.mem_range.mpr (by rw [← tl_tl]; omega), (TL.at_iff hy i).mp ⟨h1, h2⟩⟩
      · rintro ⟨i, h1, h2⟩
        have := (TL.at_iff (x := x) hy i).mpr h2
        exact ⟨i, this.1, this.2⟩
  cases h1 : (!(Builtin.Str.occurrences x y 0 x.length 1).isEmpty) <;> cases h2 : subL y.cps.toList x.cps.toList <;> simp_all
def isFlat : D → Bool
  | .non | .bl _ | .int _ | .str _ => true
  | _ => false
def dIn : D → D → Option D
  | .str x, .str y => some (.bl (subL x y))
  | x, .lst l => if dep x ≤ 63 ∧ deps l ≤ 63 then some (.bl (l.any fun z => deq z x)) else none
  | x, .tup l => if isFlat x && l.all isFlat then some (.bl (l.any fun z => deq z x)) else none
  | _, _ => none
def dNotIn (a b : D) : Option D := match dIn a b with
  | some (.bl k) => some (.bl (!k))
  | _ => none
def rInS (neg : Bool) : R2 := fun x y H Q => ∃ i j, x = .str i ∧ y = .str j ∧ Q (.bl (if neg then !(!(Builtin.Str.occurrences j i 0 j.length 1).isEmpty) else (!(Builtin.Str.occurrences j i 0 j.length 1).isEmpty))) H
def rInDn (neg : Bool) (K : PySem.W.Frag) : R2 := if neg then rNotInD K else rInD K
def rInA (neg : Bool) : R2 := fun x y H Q => rInS neg x y H Q ∨ (∀ K, rInDn neg K x y H Q) ∨ (∀ K, rIn K neg x y H Q)
theorem op_inA {X : Cx} (hu : X.A.units + 65 < cLine) : OpR X (compareOp .In) (rInA false) := OpR.or op_in_str (OpR.or (OpR.allK (r := rInDn false) (op_inD hu)) (OpR.allK (r := fun K => rIn K false) op_in_seq))
theorem op_notInA {X : Cx} (hu : X.A.units + 65 < cLine) : OpR X (compareOp .NotIn) (rInA true) := OpR.or op_notin_str (OpR.or (OpR.allK (r := rInDn true) (op_notInD hu)) (OpR.allK (r := fun K => rIn K true) op_notIn_seq))
theorem flat_rp {F : Hp} {v : V} {d : D} (r : Rp F v d) (h : isFlat d = true) : flatV v = true := by
  cases r <;> first | rfl | (simp [isFlat] at h)
theorem eqV_deq {F : Hp} {v u : V} {d e : D} (r : Rp F v d) (q : Rp F u e) (h1 : isFlat d = true) (h2 : isFlat e = true) : eqV v u = deq d e := by
  cases r <;> first | (exfalso; simp [isFlat] at h1; done) | skip
  all_goals cases q <;> first | (exfalso; simp [isFlat] at h2; done) | skip
  all_goals first | rfl | (simp [eqV, deq]; done) | skip
  rename_i x h y k
  simp only [eqV, deq]
  have := str_beq x.cps.toList y.cps.toList
  simpa using this
theorem flats_rp {F : Hp} : ∀ {vs : List V} {ds : List D}, Rps F vs ds → ds.all isFlat = true → vs.all flatV = true
  | _, _, .nil, _ => rfl
  | _, _, .cons r t, h => by
    simp only [List.all_cons, Bool.and_eq_true] at h ⊢
    exact ⟨flat_rp r h.1, flats_rp t h.2⟩
theorem inV_any {F : Hp} {u : V} {e : D} (q : Rp F u e) (h2 : isFlat e = true) : ∀ {vs : List V} {ds : List D}, Rps F vs ds → ds.all isFlat = true → inV u vs = ds.any fun z => deq z e
  | _, _, .nil, _ => rfl
  | _, _, .cons r t, h => by
    simp only [List.all_cons, Bool.and_eq_true] at h
    unfold inV
    rw [List.any_cons, List.any_cons, eqV_deq r q h.1 h2]
    congr 1
    exact inV_any q h2 t h.2
theorem any_toPys (x : D) (hx : dep x ≤ 64) : ∀ (l : List D), deps l ≤ 64 → ((toPys l).any fun z => PyData.eqv z (toPy x)) = l.any fun z => deq z x
  | [], _ => rfl
  | y :: r, h => by
    simp only [deps] at h
    simp only [toPys, List.any_cons]
    rw [deq_toPy y x (by omega) hx, any_toPys x hx r (by omega)]
theorem flat_bp {P : Ow0} {H : Hp} {v : V} {d : D} (r : Bp P H v d) (h : isFlat d = true) : Rp (lim P H) v d := by
  rcases r with r | ⟨a, rfl, o⟩
  · exact r
  · cases o <;> simp [isFlat] at h
theorem sem_inN (neg : Bool) : OpSemB (rInA neg) (fun a b => (dIn a b).bind fun d => match d with | .bl k => some (.bl (if neg then !k else k)) | _ => none) := fun P H x y a b d Q dom rx ry hf k => by
  obtain ⟨z, hz, hf⟩ := bind_some hf
  unfold dIn at hz
  split at hz
  · rename_i l m
    cases hz
    cases hf
    obtain ⟨i, rfl, ei, _⟩ := rx.str_inv
    obtain ⟨j, rfl, ej, _⟩ := ry.str_inv
    refine .inl ⟨i, j, rfl, rfl, ?_⟩
    rw [subL_iff j i, ei, ej]
    exact k _ H (Same.refl H) (.bl _)
  · rename_i l
    split at hz
    · rename_i hd
      cases hz
      cases hf
      refine .inr (.inl fun K => ?_)
      obtain ⟨h1, h2⟩ := rx.dp (K := K) (by omega)
      obtain ⟨h3, h4⟩ := ry.dp (K := K) (by simp only [dep]; omega)
      have e := any_toPys a (by omega) l (by omega)
      have q := k (.bl (if neg then !(l.any fun z => deq z a) else l.any fun z => deq z a)) H (Same.refl H) (.bl _)
      unfold rInDn
      cases neg with
      | true =>
        refine ⟨_, toPys l, h1, by simpa [toPy] using h3, h2, by simpa [toPy] using h4, ?_⟩
        rw [e]; exact q
      | false =>
        refine ⟨_, toPys l, h1, by simpa [toPy] using h3, h2, by simpa [toPy] using h4, ?_⟩
        rw [e]; exact q
    · cases hz
  · rename_i l
    split at hz
    · rename_i hd
      cases hz
      cases hf
      have hd := Bool.and_eq_true_iff.mp hd
      refine .inr (.inr fun K => ?_)
      obtain ⟨q, vs, rfl, hq, _, rq⟩ := ry.tup_inv
      have rx' := flat_bp rx hd.1
      refine ⟨q, vs, rfl, .inr (SqT.of hq), flat_rp rx' hd.1, flats_rp rq hd.2, ?_⟩
      rw [inV_any rx' hd.1 rq hd.2]
      exact k _ H (Same.refl H) (.bl _)
    · cases hz
  · cases hz
theorem OpSemB.of {r : R2} {f f' : D → D → Option D} (h : OpSemB r f) (e : ∀ a b d, f' a b = some d → f a b = some d) : OpSemB r f' := fun P H x y a b d Q dom rx ry hf k => h P H x y a b d Q dom rx ry (e a b d hf) k
theorem dIn_bl {a b d : D} (h : dIn a b = some d) : ∃ k, d = .bl k := by
  unfold dIn at h
  split at h
  · cases h; exact ⟨_, rfl⟩
  · split at h
    · cases h; exact ⟨_, rfl⟩
    · cases h
  · split at h
    · cases h; exact ⟨_, rfl⟩
    · cases h
  · cases h
theorem sem_in : OpSemB (rInA false) dIn := (sem_inN false).of fun a b d h => by
  obtain ⟨k, rfl⟩ := dIn_bl h
  rw [h]; rfl
theorem sem_notin : OpSemB (rInA true) dNotIn := (sem_inN true).of fun a b d h => by
  unfold dNotIn at h
  cases e : dIn a b with
  | none => rw [e] at h; cases h
  | some z =>
    obtain ⟨k, rfl⟩ := dIn_bl e
    rw [e] at h
    exact h
section
variable {ι : Type} {X : Cxs ι} {O : List Nat} {e a b c : Expr} {es : List Expr} {g ga gb gc : Ev → Option D} {pos : Pos} {k : Nat}
theorem q_eq (hr : ∀ i, Room k (X i).A) (ha : QB X O a ga) (hb : QB X O b gb) : QE X O (.Compare a [.Eq] [b] pos) (g2 dEq ga gb) := q_cmpB (fun i => OpR.allK (r := rEqD) (op_eqD (hr i).units)) (nomark _) sem_eq ha hb
theorem q_ne (hr : ∀ i, Room k (X i).A) (ha : QB X O a ga) (hb : QB X O b gb) : QE X O (.Compare a [.NotEq] [b] pos) (g2 dNe ga gb) := q_cmpB (fun i => OpR.allK (r := rNeD) (op_neD (hr i).units)) (nomark _) sem_ne ha hb
theorem q_is (ha : QB X O a ga) (hb : QB X O b gb) : QE X O (.Compare a [.Is] [b] pos) (g2 dIs ga gb) := q_cmpB (fun i => OpR.or op_isN op_isBl) (nomark _) sem_is ha hb
theorem q_isnot (ha : QB X O a ga) (hb : QB X O b gb) : QE X O (.Compare a [.IsNot] [b] pos) (g2 dIsNot ga gb) := q_cmpB (fun i => OpR.or op_notN op_notBl) (nomark _) sem_isnot ha hb
theorem q_lt (ha : QB X O a ga) (hb : QB X O b gb) : QE X O (.Compare a [.Lt] [b] pos) (g2 dLt ga gb) := q_cmpB (fun i => op_ltA) (nomark _) sem_lt ha hb
theorem q_le (ha : QB X O a ga) (hb : QB X O b gb) : QE X O (.Compare a [.LtE] [b] pos) (g2 dLe ga gb) := q_cmpB (fun i => op_le) (nomark _) sem_le ha hb
theorem q_gt (ha : QB X O a ga) (hb : QB X O b gb) : QE X O (.Compare a [.Gt] [b] pos) (g2 dGt ga gb) := q_cmpB (fun i => op_gt) (nomark _) sem_gt ha hb
theorem q_ge (ha : QB X O a ga) (hb : QB X O b gb) : QE X O (.Compare a [.GtE] [b] pos) (g2 dGe ga gb) := q_cmpB (fun i => op_ge) (nomark _) sem_ge ha hb
theorem units65 {k : Nat} {A : Around} (r : Room k A) : A.units + 65 < cLine := by have := r.un; omega
theorem q_in (hr : ∀ i, Room k (X i).A) (ha : QB X O a ga) (hb : QB X O b gb) (hm : behindInMarks .In b = false := by rfl) : QE X O (.Compare a [.In] [b] pos) (g2 dIn ga gb) := q_cmpB (fun i => op_inA (units65 (hr i))) hm sem_in ha hb
theorem q_notin (hr : ∀ i, Room k (X i).A) (ha : QB X O a ga) (hb : QB X O b gb) (hm : behindInMarks .NotIn b = false := by rfl) : QE X O (.Compare a [.NotIn] [b] pos) (g2 dNotIn ga gb) := q_cmpB (fun i => op_notInA (units65 (hr i))) hm sem_notin ha hb
end
end VS
namespace VS
open PySem PySem.Spec PyProof.Rows L2
/-! ### comparisons by their operator -/
def CmpOk {ι : Type} (X : Cxs ι) (op : CmpOp) (f : D → D → Option D) : Prop := ∃ r, (∀ i, OpR (X i) (compareOp op) r) ∧ OpSemB r f
section
variable {ι : Type} {X : Cxs ι} {O : List Nat} {e a b c : Expr} {es : List Expr} {g ga gb gc : Ev → Option D} {pos : Pos} {k : Nat} {op op' : CmpOp} {f f' : D → D → Option D}
theorem c_eq (hr : ∀ i, Room k (X i).A) : CmpOk X .Eq dEq := ⟨_, fun i => OpR.allK (r := rEqD) (op_eqD (hr i).units), sem_eq⟩
theorem c_ne (hr : ∀ i, Room k (X i).A) : CmpOk X .NotEq dNe := ⟨_, fun i => OpR.allK (r := rNeD) (op_neD (hr i).units), sem_ne⟩
theorem c_is : CmpOk X .Is dIs := ⟨_, fun i => OpR.or op_isN op_isBl, sem_is⟩
theorem c_isnot : CmpOk X .IsNot dIsNot := ⟨_, fun i => OpR.or op_notN op_notBl, sem_isnot⟩
theorem c_lt : CmpOk X .Lt dLt := ⟨_, fun i => op_ltA, sem_lt⟩
theorem c_le : CmpOk X .LtE dLe := ⟨_, fun i => op_le, sem_le⟩
theorem c_gt : CmpOk X .Gt dGt := ⟨_, fun i => op_gt, sem_gt⟩
theorem c_ge : CmpOk X .GtE dGe := ⟨_, fun i => op_ge, sem_ge⟩
theorem c_in (hr : ∀ i, Room k (X i).A) : CmpOk X .In dIn := ⟨_, fun i => op_inA (units65 (hr i)), sem_in⟩
theorem c_notin (hr : ∀ i, Room k (X i).A) : CmpOk X .NotIn dNotIn := ⟨_, fun i => op_notInA (units65 (hr i)), sem_notin⟩
theorem q_compare (h : CmpOk X op f) (ha : QB X O a ga) (hb : QB X O b gb) (hm : behindInMarks op b = false := by rfl) : QE X O (.Compare a [op] [b] pos) (g2 f ga gb) := by
  obtain ⟨r, ho, hs⟩ := h
  exact q_cmpB ho hm hs ha hb
def toB : D → Option Bool
  | .bl b => some b
  | _ => none
def gT (g : Ev → Option D) : Ev → Option Bool := fun δ => (g δ).bind toB
theorem toB_some {d : D} {b : Bool} (h : toB d = some b) : d = .bl b := by
  unfold toB at h
  split at h
  · cases h; rfl
  · cases h
theorem et_B {t : TE} (h : EP O t g) : ET O (tB t) (gT g) := fun P pf σ H δ b Q R hg q => by
  obtain ⟨d, h1, h2⟩ := bind_some hg
  obtain rfl := toB_some h2
  exact h P pf σ H δ _ _ R h1 fun v H' e r => ⟨b, r.bl_inv, q H' e⟩
theorem et_test {t : TE} (h : EP O t g) : ET O (tTest t) (gT g) := fun P pf σ H δ b Q R hg q => by
  obtain ⟨d, h1, h2⟩ := bind_some hg
  obtain rfl := toB_some h2
  exact h P pf σ H δ _ _ R h1 fun v H' e r => ⟨b, r.bl_inv, q H' e⟩
/-- a test that is a comparison -/
theorem qt_compare (h : CmpOk X op f) (ha : QB X O a ga) (hb : QB X O b gb) (hm : behindInMarks op b = false := by rfl) : QT X O (.Compare a [op] [b] pos) (gT (g2 f ga gb)) := by
  obtain ⟨r, ho, hs⟩ := h
  obtain ⟨ta, pa, ea⟩ := ha
  obtain ⟨tb, pb, eb⟩ := hb
  exact ⟨_, fun i => pt_cmpR (ho i) (pa i) (pb i) hm, et_test (ep_opB hs ea eb)⟩
/-- a test by an expression of any kind that gives a bool -/
theorem qt_val (h : QE X O e g) (he : ∀ i whole, isTrue e (X i).env whole = (do let v ← whole; standAt e.pos; holding [v] (truthy v)) := by intro _ _; rfl) : QT X O e (gT g) := by
  obtain ⟨t, p, q⟩ := h
  exact ⟨_, fun i => pt_val (p i) (he i), et_B q⟩
/-! chains -/
def gCh (f f' : D → D → Option D) (ga gb gc : Ev → Option D) : Ev → Option D := fun δ => (ga δ).bind fun a => (gb δ).bind fun b => (f a b).bind fun z => match z with
  | .bl true => (gc δ).bind fun c => f' b c
  | .bl false => some (.bl false)
  | _ => none
theorem ep_chain {r r' : R2} {ta tb tc : TE} (hr : OpSemB r f) (hr' : OpSemB r' f') (ha : EB O ta ga) (hb : EB O tb gb) (hc : EB O tc gc) : EP O (tChain r r' ta tb tc) (gCh f f' ga gb gc) := fun P pf σ H δ d Q R hg k => by
  obtain ⟨x, hx, hg⟩ := bind_some hg
  obtain ⟨y, hy, hg⟩ := bind_some hg
  obtain ⟨z, hz, hg⟩ := bind_some hg
  refine ha P pf σ H δ x _ R hx fun v H1 e1 r1 => ?_
  have R1 := R.same e1
  refine hb P pf σ H1 δ y _ R1 hy fun u H2 e2 r2 => ?_
  have R2 := R1.same e2
  refine hr P H2 v u x y z _ R2.dom (r1.same e2) r2 hz fun w H3 e3 r3 => ?_
  split at hg
  · refine ⟨true, r3.bl_inv, ?_⟩
    rw [if_pos rfl]
    obtain ⟨c, hc', hg⟩ := bind_some hg
    have R3 := R2.same e3
    refine hc P pf σ H3 δ c _ R3 hc' fun w' H4 e4 r4 => ?_
    exact hr' P H4 u w' y c d Q (R3.same e4).dom ((r2.same e3).same e4) r4 hg fun z' H5 e5 r5 => k z' H5 ((((e1.trans e2).trans e3).trans e4).trans e5) r5
  · refine ⟨false, r3.bl_inv, ?_⟩
    rw [if_neg (by decide)]
    cases hg
    exact k _ H3 ((e1.trans e2).trans e3) (.bl _)
  · cases hg
theorem q_chain (h : CmpOk X op f) (h' : CmpOk X op' f') (ha : QB X O a ga) (hb : QB X O b gb) (hc : QB X O c gc) (hm : lastMarks [op, op'] [b, c] = false := by with_unfolding_all rfl) : QE X O (.Compare a [op, op'] [b, c] pos) (gCh f f' ga gb gc) := by
  obtain ⟨r, ho, hs⟩ := h
  obtain ⟨r', ho', hs'⟩ := h'
  obtain ⟨ta, pa, ea⟩ := ha
  obtain ⟨tb, pb, eb⟩ := hb
  obtain ⟨tc, pc, ec⟩ := hc
  exact ⟨_, fun i => pe_chain (ho i) (ho' i) (pa i) (pb i) (pc i) hm, ep_chain hs hs' ea eb ec⟩
theorem qt_chain (h : CmpOk X op f) (h' : CmpOk X op' f') (ha : QB X O a ga) (hb : QB X O b gb) (hc : QB X O c gc) (hm : lastMarks [op, op'] [b, c] = false := by with_unfolding_all rfl) : QT X O (.Compare a [op, op'] [b, c] pos) (gT (gCh f f' ga gb gc)) := by
  obtain ⟨r, ho, hs⟩ := h
  obtain ⟨r', ho', hs'⟩ := h'
  obtain ⟨ta, pa, ea⟩ := ha
  obtain ⟨tb, pb, eb⟩ := hb
  obtain ⟨tc, pc, ec⟩ := hc
  exact ⟨_, fun i => pt_chain (ho i) (ho' i) (pa i) (pb i) (pc i) hm, et_test (ep_chain hs hs' ea eb ec)⟩
/-! and, or, not -/
def gAnd (ga gb : Ev → Option D) : Ev → Option D := fun δ => (ga δ).bind fun a => match a with
  | .bl true => gb δ
  | .bl false => some (.bl false)
  | _ => none
def gOr (ga gb : Ev → Option D) : Ev → Option D := fun δ => (ga δ).bind fun a => match a with
  | .bl true => some (.bl true)
  | .bl false => gb δ
  | _ => none
def gNot (ga : Ev → Option D) : Ev → Option D := fun δ => (ga δ).bind fun a => match a with
  | .bl b => some (.bl (!b))
  | _ => none
variable {rest : List Expr}
theorem q_and (ha : QE X O a ga) (hb : QE X O (.BoolOp .And (b :: rest) pos) gb) : QE X O (.BoolOp .And (a :: b :: rest) pos) (gAnd ga gb) := by
  obtain ⟨ta, pa, ea⟩ := ha
  obtain ⟨tb, pb, eb⟩ := hb
  refine ⟨_, fun i => pe_and (pa i) (pb i), fun P pf σ H δ d Q R hg k => ?_⟩
  obtain ⟨x, hx, hg⟩ := bind_some hg
  refine ea P pf σ H δ x _ R hx fun v H1 e1 r1 => ?_
  split at hg
  · refine ⟨true, r1.bl_inv, ?_⟩
    rw [if_pos rfl]
    exact eb P pf σ H1 δ d Q (R.same e1) hg fun z H2 e2 r2 => k z H2 (e1.trans e2) r2
  · refine ⟨false, r1.bl_inv, ?_⟩
    rw [if_neg (by decide)]
    cases hg
    exact k _ H1 e1 (.bl _)
  · cases hg
theorem q_or (ha : QE X O a ga) (hb : QE X O (.BoolOp .Or (b :: rest) pos) gb) : QE X O (.BoolOp .Or (a :: b :: rest) pos) (gOr ga gb) := by
  obtain ⟨ta, pa, ea⟩ := ha
  obtain ⟨tb, pb, eb⟩ := hb
  refine ⟨_, fun i => pe_or (pa i) (pb i), fun P pf σ H δ d Q R hg k => ?_⟩
  obtain ⟨x, hx, hg⟩ := bind_some hg
  refine ea P pf σ H δ x _ R hx fun v H1 e1 r1 => ?_
  split at hg
  · refine ⟨true, r1.bl_inv, ?_⟩
    rw [if_pos rfl]
    cases hg
    exact k _ H1 e1 (.bl _)
  · refine ⟨false, r1.bl_inv, ?_⟩
    rw [if_neg (by decide)]
    exact eb P pf σ H1 δ d Q (R.same e1) hg fun z H2 e2 r2 => k z H2 (e1.trans e2) r2
  · cases hg
theorem q_one {op : PySem.BoolOp} (ha : QE X O a ga) : QE X O (.BoolOp op [a] pos) ga := by
  obtain ⟨ta, pa, ea⟩ := ha
  exact ⟨_, fun i => pe_one (pa i), ea⟩
theorem q_not (ha : QE X O a ga) : QE X O (.UnaryOp .Not a pos) (gNot ga) := by
  obtain ⟨ta, pa, ea⟩ := ha
  refine ⟨_, fun i => pe_not (pa i), fun P pf σ H δ d Q R hg k => ?_⟩
  obtain ⟨x, hx, hg⟩ := bind_some hg
  refine ea P pf σ H δ x _ R hx fun v H1 e1 r1 => ?_
  split at hg
  · rename_i b
    cases hg
    exact ⟨b, r1.bl_inv, k _ H1 e1 (.bl _)⟩
  · cases hg
/-! tests -/
def QW {ι : Type} (X : Cxs ι) (O : List Nat) (e : Expr) (g : Ev → Option Bool) : Prop := ∃ t, (∀ i, PW (X i) e t) ∧ ET O t g
variable {ha' hb' : Ev → Option Bool}
def tAndG (ga gb : Ev → Option Bool) : Ev → Option Bool := fun δ => (ga δ).bind fun a => if a = true then gb δ else some false
def tOrG (ga gb : Ev → Option Bool) : Ev → Option Bool := fun δ => (ga δ).bind fun a => if a = true then some true else gb δ
theorem qw_and1 {g : Ev → Option Bool} (h : QT X O a g) : QW X O (.BoolOp .And [a] pos) g := by
  obtain ⟨t, p, e⟩ := h
  exact ⟨_, fun i => pw_and1 (p i), e⟩
theorem qw_or1 {g : Ev → Option Bool} (h : QT X O a g) : QW X O (.BoolOp .Or [a] pos) g := by
  obtain ⟨t, p, e⟩ := h
  exact ⟨_, fun i => pw_or1 (p i), e⟩
theorem qw_and {ga gb : Ev → Option Bool} (ha : QT X O a ga) (hb : QW X O (.BoolOp .And (b :: rest) pos) gb) : QW X O (.BoolOp .And (a :: b :: rest) pos) (tAndG ga gb) := by
  obtain ⟨ta, pa, ea⟩ := ha
  obtain ⟨tb, pb, eb⟩ := hb
  refine ⟨_, fun i => pw_and (pa i) (pb i), fun P pf σ H δ d Q R hg k => ?_⟩
  obtain ⟨x, hx, hg⟩ := bind_some hg
  refine ea P pf σ H δ x _ R hx fun H1 e1 => ?_
  cases x with
  | true =>
    rw [if_pos rfl] at hg ⊢
    exact eb P pf σ H1 δ d Q (R.same e1) hg fun H2 e2 => k H2 (e1.trans e2)
  | false =>
    rw [if_neg (by decide)] at hg ⊢
    cases hg
    exact k H1 e1
theorem qw_or {ga gb : Ev → Option Bool} (ha : QT X O a ga) (hb : QW X O (.BoolOp .Or (b :: rest) pos) gb) : QW X O (.BoolOp .Or (a :: b :: rest) pos) (tOrG ga gb) := by
  obtain ⟨ta, pa, ea⟩ := ha
  obtain ⟨tb, pb, eb⟩ := hb
  refine ⟨_, fun i => pw_or (pa i) (pb i), fun P pf σ H δ d Q R hg k => ?_⟩
  obtain ⟨x, hx, hg⟩ := bind_some hg
  refine ea P pf σ H δ x _ R hx fun H1 e1 => ?_
  cases x with
  | true =>
    rw [if_pos rfl] at hg ⊢
    cases hg
    exact k H1 e1
  | false =>
    rw [if_neg (by decide)] at hg ⊢
    exact eb P pf σ H1 δ d Q (R.same e1) hg fun H2 e2 => k H2 (e1.trans e2)
theorem QW.qt {g : Ev → Option Bool} (h : QW X O e g) : QT X O e g := by
  obtain ⟨t, p, q⟩ := h
  exact ⟨_, fun i => (p i).pt, q⟩
def tNotG (ga : Ev → Option Bool) : Ev → Option Bool := fun δ => (ga δ).bind fun a => some (!a)
theorem qt_not {g : Ev → Option Bool} (h : QT X O a g) : QT X O (.UnaryOp .Not a pos) (tNotG g) := by
  obtain ⟨t, p, q⟩ := h
  refine ⟨_, fun i => pt_not (p i), fun P pf σ H δ d Q R hg k => ?_⟩
  obtain ⟨x, hx, hg⟩ := bind_some hg
  cases hg
  exact q P pf σ H δ x _ R hx fun H1 e1 => k H1 e1
/-! a if t else b -/
def gIf (t : Ev → Option Bool) (ga gb : Ev → Option D) : Ev → Option D := fun δ => (t δ).bind fun c => if c = true then ga δ else gb δ
theorem q_ife {gt : Ev → Option Bool} (hc : QT X O c gt) (ha : QE X O a ga) (hb : QE X O b gb) : QE X O (.IfExp c a b pos) (gIf gt ga gb) := by
  obtain ⟨tc, pc, ec⟩ := hc
  obtain ⟨ta, pa, ea⟩ := ha
  obtain ⟨tb, pb, eb⟩ := hb
  refine ⟨_, fun i => pe_ifExp (pc i) (pa i) (pb i), fun P pf σ H δ d Q R hg k => ?_⟩
  obtain ⟨x, hx, hg⟩ := bind_some hg
  refine ec P pf σ H δ x _ R hx fun H1 e1 => ?_
  cases x with
  | true =>
    rw [if_pos rfl] at hg ⊢
    exact ea P pf σ H1 δ d Q (R.same e1) hg fun z H2 e2 r2 => k z H2 (e1.trans e2) r2
  | false =>
    rw [if_neg (by decide)] at hg ⊢
    exact eb P pf σ H1 δ d Q (R.same e1) hg fun z H2 e2 r2 => k z H2 (e1.trans e2) r2
def dNeg : D → Option D
  | .int i => some (.int (-i))
  | _ => none
def g1 (f : D → Option D) (ga : Ev → Option D) : Ev → Option D := fun δ => (ga δ).bind f
theorem q_neg (ha : QE X O a ga) : QE X O (.UnaryOp .USub a pos) (g1 dNeg ga) := by
  obtain ⟨ta, pa, ea⟩ := ha
  refine ⟨_, fun i => pe_un un_neg (pa i), fun P pf σ H δ d Q R hg k => ?_⟩
  obtain ⟨x, hx, hg⟩ := bind_some hg
  refine ea P pf σ H δ x _ R hx fun v H1 e1 r1 => ?_
  unfold dNeg at hg
  split at hg
  · cases hg
    exact ⟨_, r1.int_inv, k _ H1 e1 (.int _)⟩
  · cases hg
/-! argument lists -/
def gNil : Ev → Option (List D) := fun _ => some []
def gCons (g : Ev → Option D) (gs : Ev → Option (List D)) : Ev → Option (List D) := fun δ => (g δ).bind fun d => (gs δ).bind fun ds => some (d :: ds)
variable {gs : Ev → Option (List D)}
theorem qa_nil : QA X O [] gNil := ⟨_, fun _ => pa_nil, fun P pf σ H δ ds Q R hg k => by
  cases hg
  exact k _ H (Same.refl H) .nil⟩
theorem qa_cons (ha : QE X O e g) (hr : QA X O es gs) (hs : ∀ i, starEach (e :: es) (X i).env = (false, eval e (X i).env) :: starEach es (X i).env := by intro _; rfl) : QA X O (e :: es) (gCons g gs) := by
  obtain ⟨ta, pa, ea⟩ := ha
  obtain ⟨tb, pb, eb⟩ := hr
  refine ⟨_, fun i => pa_cons (pa i) (pb i) (hs i), fun P pf σ H δ d Q R hg k => ?_⟩
  obtain ⟨x, hx, hg⟩ := bind_some hg
  obtain ⟨xs, hxs, hg⟩ := bind_some hg
  cases hg
  refine ea P pf σ H δ x _ R hx fun v H1 e1 r1 => ?_
  exact eb P pf σ H1 δ xs _ (R.same e1) hxs fun vs H2 e2 r2 => k _ H2 (e1.trans e2) (.cons (r1.ex (lim_same e2)) r2)
def gTup (gs : Ev → Option (List D)) : Ev → Option D := fun δ => (gs δ).bind fun l => if l.length ≤ 1000 then some (.tup l) else none
def gLst (gs : Ev → Option (List D)) : Ev → Option D := fun δ => (gs δ).bind fun l => if l.length ≤ 1000 then some (.lst l) else none
theorem q_tup {x1} (h : QA X O es gs) : QE X O (.Tuple es x1 pos) (gTup gs) := by
  obtain ⟨ta, pa, ea⟩ := h
  refine ⟨_, fun i => pe_tup (pa i), fun P pf σ H δ d Q R hg k => ?_⟩
  obtain ⟨l, hl, hg⟩ := bind_some hg
  refine ea P pf σ H δ l _ R hl fun vs H1 e1 r1 => ?_
  split at hg
  · rename_i hn
    cases hg
    refine ⟨by rw [r1.length, sizeLine_eq]; omega, fun p np => k _ _ (e1.trans (same_new np)) (rp_newT (R.same e1).dom np r1)⟩
  · cases hg
theorem qf_lst (h : QA X O es gs) : QF X O (.List es pos) (gLst gs) := by
  obtain ⟨ta, pa, ea⟩ := h
  refine ⟨_, fun i => pe_lst (pa i), fun P pf σ H δ d Q R hg k => ?_⟩
  obtain ⟨l, hl, hg⟩ := bind_some hg
  refine ea P pf σ H δ l _ R hl fun vs H1 e1 r1 => ?_
  split at hg
  · rename_i hn
    cases hg
    exact ⟨by rw [r1.length, sizeLine_eq]; omega, fun p np => k _ _ (e1.free np) (e1.trans (same_new np)) (ow_newL np r1)⟩
  · cases hg
/-! subscripts -/
def dIdx : D → D → Option D
  | .lst l, .int i => atI l i
  | .tup l, .int i => atI l i
  | .str l, .int i => (atI l i).bind fun c => some (.str [c])
  | _, _ => none
def rIxA : R2 := fun x y H Q => (∀ K, rIxL K x y H Q) ∨ (∀ K, rIxT K x y H Q) ∨ rIxS x y H Q
theorem ix_A {Y : Cx} : IxR Y rIxA := by
  refine IxR.or (r := fun x y H Q => ∀ K, rIxL K x y H Q) ?_ (IxR.or (r := fun x y H Q => ∀ K, rIxT K x y H Q) ?_ ix_str)
  · intro a b pins s σ H x y v u Q I rx ry h
    exact ix_list a b pins s σ H x y v u Q I rx ry (h Y.K)
  · intro a b pins s σ H x y v u Q I rx ry h
    exact ix_tup a b pins s σ H x y v u Q I rx ry (h Y.K)
theorem atI_rps {F : Hp} {vs : List V} {ds : List D} {i : Int} {d : D} (r : Rps F vs ds) (h : atI ds i = some d) : ∃ v, atI vs i = some v ∧ Rp F v d := by
  unfold atI at h ⊢
  obtain ⟨j, hj, hd⟩ := bind_some h
  rw [← r.length] at hj
  obtain ⟨v, h1, h2⟩ := r.get hd
  exact ⟨v, by rw [hj]; exact h1, h2⟩
theorem atI_mem {α : Type} {l : List α} {i : Int} {c : α} (h : atI l i = some c) : c ∈ l := by
  unfold atI at h
  obtain ⟨j, hj, hd⟩ := bind_some h
  exact List.mem_of_getElem? hd
theorem sem_ix : OpSemB rIxA dIdx := fun P H x y a b d Q dom rx ry hf k => by
  unfold dIdx at hf
  split at hf
  · obtain ⟨p, vs, rfl, hp, rp⟩ := rx.lst_inv
    obtain ⟨v, h1, h2⟩ := atI_rps rp hf
    exact .inl fun K => ⟨p, vs, _, v, rfl, ry.int_inv, SqL.of hp, h1, k v H (Same.refl H) h2⟩
  · obtain ⟨p, vs, rfl, hp, _, rp⟩ := rx.tup_inv
    obtain ⟨v, h1, h2⟩ := atI_rps rp hf
    exact .inr (.inl fun K => ⟨p, vs, _, v, rfl, ry.int_inv, SqT.of hp, h1, k v H (Same.refl H) h2⟩)
  · rename_i l i
    obtain ⟨c, hc, hf⟩ := bind_some hf
    cases hf
    obtain ⟨z, rfl, ez, hz⟩ := rx.str_inv
    refine .inr (.inr ⟨z, i, c, rfl, ry.int_inv, by rw [sizeLine_eq, tl_tl, ez]; exact hz.2, by rw [ez]; exact hc, k _ H (Same.refl H) ?_⟩)
    refine Rp.mkStr (l := [c]) ⟨fun c' h => ?_, by simp⟩
    rw [List.mem_singleton.mp h]
    exact hz.1 c (atI_mem hc)
  · cases hf
theorem q_ix (ha : QB X O a ga) (hb : QB X O b gb) (hs : PlainIx b := by exact fun _ _ => rfl) : QE X O (.Subscript a b pos) (g2 dIdx ga gb) := by
  obtain ⟨ta, pa, ea⟩ := ha
  obtain ⟨tb, pb, eb⟩ := hb
  exact ⟨_, fun i => pe_ix ix_A (pa i) (pb i) hs, ep_opB sem_ix ea eb⟩
/-! slices -/
def EO (O : List Nat) (t : TO) (g : Ev → Option (Option Int)) : Prop := ∀ (P : Ow0) (pf : Nat → Addr) (σ : L2.St) (H : Hp) (δ : Ev) (o : Option Int) (Q : Option Int → Hp → Prop), RS O P pf σ H δ → g δ = some o →
  (∀ H', Same H H' → Q o H') → t σ H Q
def QO {ι : Type} (X : Cxs ι) (O : List Nat) (e : Option Expr) (g : Ev → Option (Option Int)) : Prop := ∃ t, (∀ i, PO (X i) e t) ∧ EO O t g
def gOn : Ev → Option (Option Int) := fun _ => some none
def toI : D → Option Int
  | .int i => some i
  | _ => none
def gOs (g : Ev → Option D) : Ev → Option (Option Int) := fun δ => (g δ).bind fun d => (toI d).bind fun i => some (some i)
theorem qo_none : QO X O none gOn := ⟨_, fun _ => po_none, fun P pf σ H δ o Q R hg k => by cases hg; exact k H (Same.refl H)⟩
theorem qo_some (h : QE X O e g) : QO X O (some e) (gOs g) := by
  obtain ⟨t, p, q⟩ := h
  refine ⟨_, fun i => po_some (p i), fun P pf σ H δ o Q R hg k => ?_⟩
  obtain ⟨d, hd, hg⟩ := bind_some hg
  obtain ⟨i, hi, hg⟩ := bind_some hg
  cases hg
  refine q P pf σ H δ d _ R hd fun v H1 e1 r1 => ?_
  unfold toI at hi
  split at hi
  · cases hi
    exact ⟨_, r1.int_inv, k H1 e1⟩
  · cases hi
def cut {α : Type} (l : List α) (lo hi : Option Int) : List α := (l.drop (HT.sIx l.length 0 lo)).take (HT.sIx l.length l.length hi - HT.sIx l.length 0 lo)
theorem cut_all {α : Type} (l : List α) (lo hi : Option Int) (h : HT.sIx l.length 0 lo = 0 ∧ HT.sIx l.length l.length hi = l.length) : cut l lo hi = l := by
  unfold cut
  rw [h.1, h.2, List.drop_zero, Nat.sub_zero, List.take_length]
theorem cut_rps {F : Hp} {vs : List V} {ds : List D} (r : Rps F vs ds) (lo hi : Option Int) : Rps F (cutV vs lo hi) (cut ds lo hi) := by
  unfold cutV cut
  rw [r.length]
  exact (r.drop _).take _
theorem cut_len {α : Type} (l : List α) (lo hi : Option Int) : (cut l lo hi).length ≤ l.length := by
  unfold cut
  rw [List.length_take, List.length_drop]
  omega
def dCut : D → Option Int → Option Int → Option D
  | .lst l, lo, hi => some (.lst (cut l lo hi))
  | .tup l, lo, hi => some (.tup (cut l lo hi))
  | .str l, lo, hi => some (.str (cut l lo hi))
  | _, _, _ => none
def rCutA : V → Option Int → Option Int → Hp → VK → Prop := fun x lo hi H Q => (∀ K, rSlL K x lo hi H Q) ∨ (∀ K, rSlA K x lo hi H Q) ∨ rSlS x lo hi H Q
theorem sl_A {Y : Cx} : SlR Y rCutA := by
  refine SlR.or (r := fun x lo hi H Q => ∀ K, rSlL K x lo hi H Q) ?_ (SlR.or (r := fun x lo hi H Q => ∀ K, rSlA K x lo hi H Q) ?_ sl_str)
  · intro pins s σ H x v vl vu lo hi sl Q I rx hs pl pu h
    exact sl_list pins s σ H x v vl vu lo hi sl Q I rx hs pl pu (h Y.K)
  · intro pins s σ H x v vl vu lo hi sl Q I rx hs pl pu h
    exact sl_tupA pins s σ H x v vl vu lo hi sl Q I rx hs pl pu (h Y.K)
def gCut (g : Ev → Option D) (gl gh : Ev → Option (Option Int)) : Ev → Option D := fun δ => (g δ).bind fun d => (gl δ).bind fun lo => (gh δ).bind fun hi => dCut d lo hi
variable {gl gh : Ev → Option (Option Int)} {lo hi : Option Expr} {p2 : Pos}
theorem ep_cut {t : TE} {tl th : TO} (he : EB O t g) (hl : EO O tl gl) (hh : EO O th gh) : EP O (tSl rCutA t tl th) (gCut g gl gh) := fun P pf σ H δ d Q R hg k => by
  obtain ⟨x, hx, hg⟩ := bind_some hg
  obtain ⟨l, hl', hg⟩ := bind_some hg
  obtain ⟨u, hu, hg⟩ := bind_some hg
  refine he P pf σ H δ x _ R hx fun v H1 e1 r1 => ?_
  refine hl P pf σ H1 δ l _ (R.same e1) hl' fun H2 e2 => ?_
  refine hh P pf σ H2 δ u _ ((R.same e1).same e2) hu fun H3 e3 => ?_
  have e13 := (e1.trans e2).trans e3
  have r3 := (r1.same e2).same e3
  have dom := (R.same e13).dom
  unfold dCut at hg
  split at hg
  · cases hg
    obtain ⟨p, vs, rfl, hp, rp⟩ := r3.lst_inv
    exact .inl fun K => ⟨p, vs, rfl, SqL.of hp, fun q nq => k _ _ (e13.trans (same_new nq)) (rp_newL dom nq (cut_rps rp l u))⟩
  · cases hg
    obtain ⟨p, vs, rfl, hp, hp', rp⟩ := r3.tup_inv
    refine .inr (.inl fun K => ⟨p, vs, rfl, SqT.of hp, fun hw => ?_, fun _ q nq => k _ _ (e13.trans (same_new nq)) (rp_newT dom nq (cut_rps rp l u))⟩)
    rw [rp.length] at hw
    rw [cut_all _ _ _ hw] at k
    exact k _ H3 e13 (.tup hp' rp)
  · cases hg
    obtain ⟨z, rfl, ez, hz⟩ := r3.str_inv
    refine .inr (.inr ⟨z, rfl, by rw [sizeLine_eq, tl_tl, ez]; exact hz.2, k _ H3 e13 ?_⟩)
    unfold cutS
    rw [tl_tl, ez]
    exact .mkStr (hz.sub (fun c hc => List.mem_of_mem_drop (List.mem_of_mem_take hc)) (cut_len _ l u))
  · cases hg
theorem q_cut (he : QB X O e g) (hl : QO X O lo gl) (hh : QO X O hi gh) : QE X O (.Subscript e (.Slice lo hi none p2) pos) (gCut g gl gh) := by
  obtain ⟨t, p, q⟩ := he
  obtain ⟨tl, pl, ql⟩ := hl
  obtain ⟨th, ph, qh⟩ := hh
  exact ⟨_, fun i => pe_slice sl_A (p i) (pl i) (ph i), ep_cut q ql qh⟩
end
end VS
namespace VS
open PySem PySem.Spec PyProof.Rows L2
/-! ### calls of built-ins that only read -/
inductive Bps (P : Ow0) (H : Hp) : List V → List D → Prop
  | nil : Bps P H [] []
  | cons {v : V} {d : D} {vs : List V} {ds : List D} : Bp P H v d → Bps P H vs ds → Bps P H (v :: vs) (d :: ds)
theorem Bps.same {P : Ow0} {H H' : Hp} (e : Same H H') : ∀ {vs : List V} {ds : List D}, Bps P H vs ds → Bps P H' vs ds
  | _, _, .nil => .nil
  | _, _, .cons r t => .cons (r.same e) (Bps.same e t)
theorem Bps.one {P : Ow0} {H : Hp} {vs : List V} {d : D} (r : Bps P H vs [d]) : ∃ v, vs = [v] ∧ Bp P H v d := by
  cases r with
  | cons h t => cases t; exact ⟨_, rfl, h⟩
theorem Bps.two {P : Ow0} {H : Hp} {vs : List V} {d e : D} (r : Bps P H vs [d, e]) : ∃ v u, vs = [v, u] ∧ Bp P H v d ∧ Bp P H u e := by
  cases r with
  | cons h t =>
    obtain ⟨u, rfl, q⟩ := t.one
    exact ⟨_, _, rfl, h, q⟩
def EAB (O : List Nat) (t : TA) (g : Ev → Option (List D)) : Prop := ∀ (P : Ow0) (pf : Nat → Addr) (σ : L2.St) (H : Hp) (δ : Ev) (ds : List D) (Q : List V → Hp → Prop), RS O P pf σ H δ → g δ = some ds →
  (∀ vs H', Same H H' → Bps P H' vs ds → Q vs H') → t σ H Q
def QAB {ι : Type} (X : Cxs ι) (O : List Nat) (es : List Expr) (g : Ev → Option (List D)) : Prop := ∃ t, (∀ i, PA (X i) es t) ∧ EAB O t g
def CallSem (r : List V → Hp → VK → Prop) (f : List D → Option D) : Prop := ∀ (P : Ow0) (H : Hp) (vs : List V) (ds : List D) (d : D) (Q : VK), (∀ b, P b → H b ≠ none) → Bps P H vs ds → f ds = some d →
  (∀ v H', Same H H' → Rp (lim P H') v d → Q v H') → r vs H Q
def gF (f : List D → Option D) (gs : Ev → Option (List D)) : Ev → Option D := fun δ => (gs δ).bind f
section
variable {ι : Type} {X : Cxs ι} {O : List Nat} {e a b c : Expr} {es : List Expr} {g ga gb gc : Ev → Option D} {gs : Ev → Option (List D)} {pos p : Pos} {k : Nat}
theorem qab_nil : QAB X O [] gNil := ⟨_, fun _ => pa_nil, fun P pf σ H δ ds Q R hg k => by
  cases hg
  exact k _ H (Same.refl H) .nil⟩
theorem qab_cons (ha : QB X O e g) (hr : QAB X O es gs) (hs : ∀ i, starEach (e :: es) (X i).env = (false, eval e (X i).env) :: starEach es (X i).env := by intro _; rfl) : QAB X O (e :: es) (gCons g gs) := by
  obtain ⟨ta, pa, ea⟩ := ha
  obtain ⟨tb, pb, eb⟩ := hr
  refine ⟨_, fun i => pa_cons (pa i) (pb i) (hs i), fun P pf σ H δ d Q R hg k => ?_⟩
  obtain ⟨x, hx, hg⟩ := bind_some hg
  obtain ⟨xs, hxs, hg⟩ := bind_some hg
  cases hg
  refine ea P pf σ H δ x _ R hx fun v H1 e1 r1 => ?_
  exact eb P pf σ H1 δ xs _ (R.same e1) hxs fun vs H2 e2 r2 => k _ H2 (e1.trans e2) (.cons (r1.same e2) r2)
theorem ep_cb {r : List V → Hp → VK → Prop} {f : List D → Option D} {t : TA} (hr : CallSem r f) (ha : EAB O t gs) : EP O (tCB r t) (gF f gs) := fun P pf σ H δ d Q R hg k => by
  obtain ⟨x, hx, hg⟩ := bind_some hg
  exact ha P pf σ H δ x _ R hx fun vs H1 e1 r1 => hr P H1 vs x d Q (R.same e1).dom r1 hg fun v H2 e2 r2 => k v H2 (e1.trans e2) r2
theorem q_callB {id : String} {x : Str} {r : List V → Hp → VK → Prop} {f : List D → Option D} (hc : ∀ i, CallR (X i) (.builtin id) r) (hs : CallSem r f) (hv : bootBuiltins x = some (.builtin id)) (ha : QAB X O (e :: es) gs) (hm : ∀ i, (X i).mg x = none)
    (hg : ∀ i, Gl (X i) x := by intro _; rfl) (hn : x ≠ "__name__" := by decide) (hdb : (x == ("__debug__" : Str)) = false := by decide)
    (he : ∀ i, starEach (e :: es) (X i).env = (false, eval e (X i).env) :: starEach es (X i).env := by intro _; rfl) (hpl : ∀ i, (backTo pos (starEach es (X i).env)).any (·.1) = false := by intro _; rfl) : QE X O (.Call (.Name x p) (e :: es) [] pos) (gF f gs) := by
  obtain ⟨t, pa, ea⟩ := ha
  exact ⟨_, fun i => pe_callB (hc i) (hg i) (hm i) hv (pa i) hn hdb (he i) (hpl i), ep_cb hs ea⟩
theorem q_callTy {id : String} {x : Str} {r : List V → Hp → VK → Prop} {f : List D → Option D} (hc : ∀ i, CallR (X i) (.type id) r) (hs : CallSem r f) (hv : bootBuiltins x = some (.type id)) (ha : QAB X O (e :: es) gs) (hm : ∀ i, (X i).mg x = none)
    (hg : ∀ i, Gl (X i) x := by intro _; rfl) (hn : x ≠ "__name__" := by decide) (hdb : (x == ("__debug__" : Str)) = false := by decide)
    (he : ∀ i, starEach (e :: es) (X i).env = (false, eval e (X i).env) :: starEach es (X i).env := by intro _; rfl) (hpl : ∀ i, (backTo pos (starEach es (X i).env)).any (·.1) = false := by intro _; rfl) : QE X O (.Call (.Name x p) (e :: es) [] pos) (gF f gs) := by
  obtain ⟨t, pa, ea⟩ := ha
  exact ⟨_, fun i => pe_callTy (hc i) (hg i) (hm i) hv (pa i) hn hdb (he i) (hpl i), ep_cb hs ea⟩
end
theorem CallR.allK {X : Cx} {f : Value} {r : PySem.W.Frag → List V → Hp → VK → Prop} (h : CallR X f (r X.K)) : CallR X f (fun vs H Q => ∀ K, r K vs H Q) := by
  intro pins s σ H vs us Q I rx k
  exact h pins s σ H vs us Q I rx (k X.K)
def fLen : List D → Option D
  | [.lst l] => some (.int l.length)
  | [.tup l] => some (.int l.length)
  | [.str l] => some (.int l.length)
  | _ => none
def rLenQ (K : PySem.W.Frag) : List V → Hp → VK → Prop := fun xs H Q => ∃ p ys, xs = [.ref p] ∧ (SqL K H p ys ∨ SqT K H p ys) ∧ Q (.int ys.length) H
def rLenA : List V → Hp → VK → Prop := fun xs H Q => (∀ K, rLenQ K xs H Q) ∨ (∃ z, xs = [.str z] ∧ z.length ≤ sizeLine ∧ Q (.int z.length) H)
theorem cr_lenA {X : Cx} : CallR X (.builtin "len") rLenA := CallR.or (CallR.allK (r := rLenQ) call_len_seq) call_len_str
theorem sem_len : CallSem rLenA fLen := fun P H vs ds d Q dom rs hf k => by
  unfold fLen at hf
  split at hf
  · cases hf
    obtain ⟨v, rfl, r⟩ := rs.one
    obtain ⟨p, vs, rfl, hp, rp⟩ := r.lst_inv
    refine .inl fun K => ⟨p, vs, rfl, .inl (SqL.of hp), ?_⟩
    rw [rp.length]
    exact k _ H (Same.refl H) (.int _)
  · cases hf
    obtain ⟨v, rfl, r⟩ := rs.one
    obtain ⟨p, vs, rfl, hp, _, rp⟩ := r.tup_inv
    refine .inl fun K => ⟨p, vs, rfl, .inr (SqT.of hp), ?_⟩
    rw [rp.length]
    exact k _ H (Same.refl H) (.int _)
  · rename_i l
    cases hf
    obtain ⟨v, rfl, r⟩ := rs.one
    obtain ⟨z, rfl, ez, hz⟩ := r.str_inv
    refine .inr ⟨z, rfl, by rw [sizeLine_eq, tl_tl, ez]; exact hz.2, ?_⟩
    rw [tl_tl, ez]
    exact k _ H (Same.refl H) (.int _)
  · cases hf
def fAbs : List D → Option D
  | [.int i] => some (.int (if i < 0 then -i else i))
  | _ => none
theorem sem_abs : CallSem (fun xs H Q => ∃ i, xs = [.int i] ∧ Q (.int (if i < 0 then -i else i)) H) fAbs := fun P H vs ds d Q dom rs hf k => by
  unfold fAbs at hf
  split at hf
  · cases hf
    obtain ⟨v, rfl, r⟩ := rs.one
    exact ⟨_, by rw [r.int_inv], k _ H (Same.refl H) (.int _)⟩
  · cases hf
def toInts : List D → Option (List Int)
  | [] => some []
  | .int i :: r => (toInts r).bind fun l => some (i :: l)
  | _ => none
theorem toInts_some : ∀ {ds : List D} {ns : List Int}, toInts ds = some ns → ds = ns.map D.int
  | [], ns, h => by cases h; rfl
  | d :: r, ns, h => by
    unfold toInts at h
    split at h
    · rename_i e; cases e
    · rename_i i r' e
      cases e
      obtain ⟨l, hl, h⟩ := bind_some h
      cases h
      rw [toInts_some hl]; rfl
    · cases h
theorem toInts_map (ns : List Int) : toInts (ns.map D.int) = some ns := by
  induction ns with
  | nil => rfl
  | cons n r ih => simp only [List.map_cons, toInts, ih]; rfl
theorem rps_ints {F : Hp} : ∀ {vs : List V} {ns : List Int}, Rps F vs (ns.map D.int) → vs = ns.map V.int
  | _, [], .nil => rfl
  | _, n :: r, .cons h t => by rw [h.int_inv, rps_ints t]; rfl
def toBls : List D → Option (List Bool)
  | [] => some []
  | .bl i :: r => (toBls r).bind fun l => some (i :: l)
  | _ => none
theorem toBls_some : ∀ {ds : List D} {ns : List Bool}, toBls ds = some ns → ds = ns.map D.bl
  | [], ns, h => by cases h; rfl
  | d :: r, ns, h => by
    unfold toBls at h
    split at h
    · rename_i e; cases e
    · rename_i i r' e
      cases e
      obtain ⟨l, hl, h⟩ := bind_some h
      cases h
      rw [toBls_some hl]; rfl
    · cases h
theorem toBls_map (ns : List Bool) : toBls (ns.map D.bl) = some ns := by
  induction ns with
  | nil => rfl
  | cons n r ih => simp only [List.map_cons, toBls, ih]; rfl
theorem rps_bls {F : Hp} : ∀ {vs : List V} {ns : List Bool}, Rps F vs (ns.map D.bl) → vs = ns.map V.bl
  | _, [], .nil => rfl
  | _, n :: r, .cons h t => by rw [h.bl_inv, rps_bls t]; rfl
def fSum : List D → Option D
  | [.lst l] => (toInts l).bind fun ns => some (.int ns.sum)
  | _ => none
theorem sem_sum : CallSem (fun vs H Q => ∀ K, rSum K vs H Q) fSum := fun P H vs ds d Q dom rs hf k K => by
  unfold fSum at hf
  split at hf
  · obtain ⟨ns, hn, hf⟩ := bind_some hf
    cases hf
    obtain ⟨v, rfl, r⟩ := rs.one
    obtain ⟨p, vs, rfl, hp, rp⟩ := r.lst_inv
    rw [toInts_some hn] at rp
    have e := rps_ints rp
    subst e
    exact ⟨p, ns, rfl, SqL.of hp, k _ H (Same.refl H) (.int _)⟩
  · cases hf
def fAll : List D → Option D
  | [.lst l] => (toBls l).bind fun bs => some (.bl (bs.all id))
  | _ => none
def fAny : List D → Option D
  | [.lst l] => (toBls l).bind fun bs => some (.bl (bs.any id))
  | _ => none
theorem sem_all : CallSem (fun vs H Q => ∀ K, rAll K vs H Q) fAll := fun P H vs ds d Q dom rs hf k K => by
  unfold fAll at hf
  split at hf
  · obtain ⟨ns, hn, hf⟩ := bind_some hf
    cases hf
    obtain ⟨v, rfl, r⟩ := rs.one
    obtain ⟨p, vs, rfl, hp, rp⟩ := r.lst_inv
    rw [toBls_some hn] at rp
    have e := rps_bls rp
    subst e
    exact ⟨p, ns, rfl, SqL.of hp, k _ H (Same.refl H) (.bl _)⟩
  · cases hf
theorem sem_any : CallSem (fun vs H Q => ∀ K, rAny K vs H Q) fAny := fun P H vs ds d Q dom rs hf k K => by
  unfold fAny at hf
  split at hf
  · obtain ⟨ns, hn, hf⟩ := bind_some hf
    cases hf
    obtain ⟨v, rfl, r⟩ := rs.one
    obtain ⟨p, vs, rfl, hp, rp⟩ := r.lst_inv
    rw [toBls_some hn] at rp
    have e := rps_bls rp
    subst e
    exact ⟨p, ns, rfl, SqL.of hp, k _ H (Same.refl H) (.bl _)⟩
  · cases hf
def fMax2 : List D → Option D
  | [.int i, .int j] => some (.int (if j > i then j else i))
  | _ => none
def fMin2 : List D → Option D
  | [.int i, .int j] => some (.int (if j < i then j else i))
  | _ => none
theorem sem_max2 : CallSem (fun xs H Q => ∃ i j, xs = [.int i, .int j] ∧ Q (.int (if j > i then j else i)) H) fMax2 := fun P H vs ds d Q dom rs hf k => by
  unfold fMax2 at hf
  split at hf
  · cases hf
    obtain ⟨v, u, rfl, r, r'⟩ := rs.two
    exact ⟨_, _, by rw [r.int_inv, r'.int_inv], k _ H (Same.refl H) (.int _)⟩
  · cases hf
theorem sem_min2 : CallSem (fun xs H Q => ∃ i j, xs = [.int i, .int j] ∧ Q (.int (if j < i then j else i)) H) fMin2 := fun P H vs ds d Q dom rs hf k => by
  unfold fMin2 at hf
  split at hf
  · cases hf
    obtain ⟨v, u, rfl, r, r'⟩ := rs.two
    exact ⟨_, _, by rw [r.int_inv, r'.int_inv], k _ H (Same.refl H) (.int _)⟩
  · cases hf
/-- int(x) -/
def fInt : List D → Option D
  | [.int i] => some (.int i)
  | [.bl b] => some (.int (if b then 1 else 0))
  | [.str l] => if l.length ≤ 640 then (PySem.intText? ⟨l.toArray⟩).bind fun n => some (.int n) else none
  | _ => none
def rIntA : List V → Hp → VK → Prop := fun xs H Q => ((∃ i, xs = [.int i] ∧ Q (.int i) H) ∨ ∃ k, xs = [.bl k] ∧ Q (.int (if k then 1 else 0)) H) ∨ (∃ a n, xs = [.str a] ∧ PySem.intText? a = some n ∧ a.length ≤ 640 ∧ Q (.int n) H)
theorem cr_intA {X : Cx} : CallR X (.type "int") rIntA := CallR.or call_int1 call_int_str
theorem sem_int : CallSem rIntA fInt := fun P H vs ds d Q dom rs hf k => by
  unfold fInt at hf
  split at hf
  · cases hf
    obtain ⟨v, rfl, r⟩ := rs.one
    exact .inl (.inl ⟨_, by rw [r.int_inv], k _ H (Same.refl H) (.int _)⟩)
  · cases hf
    obtain ⟨v, rfl, r⟩ := rs.one
    exact .inl (.inr ⟨_, by rw [r.bl_inv], k _ H (Same.refl H) (.int _)⟩)
  · split at hf
    · rename_i l hl
      obtain ⟨n, hn, hf⟩ := bind_some hf
      cases hf
      obtain ⟨v, rfl, r⟩ := rs.one
      obtain ⟨z, rfl, ez, hz⟩ := r.str_inv
      have e : z = ⟨l.toArray⟩ := by
        cases z with
        | mk c => subst ez; simp
      refine .inr ⟨z, n, rfl, by rw [e]; exact hn, by rw [tl_tl, ez]; exact hl, k _ H (Same.refl H) (.int _)⟩
    · cases hf
  · cases hf
/-- str(n), n from 0 on -/
def fStr : List D → Option D
  | [.int i] => if 0 ≤ i ∧ i.natAbs < 1000000000000000000 then some (.str (TL.numL i.toNat)) else none
  | _ => none
theorem numL_ok (n : Nat) (h : n < 10 ^ 18) : SOk (TL.numL n) := ⟨fun c hc => by
  have := TL.numL_digits n
  have h2 : 48 ≤ c ∧ c ≤ 57 := by
    by_cases z : c < 48 ∨ 57 < c
    · exact absurd hc (TL.numL_free z)
    · omega
  omega, Nat.le_trans (TL.numL_len (by decide) h) (by decide)⟩
theorem sem_str : CallSem (fun xs H Q => ∃ i, xs = [.int i] ∧ i.natAbs.log2 < 1920 ∧ Q (.str (toString i)) H) fStr := fun P H vs ds d Q dom rs hf k => by
  unfold fStr at hf
  split at hf
  · rename_i i
    split at hf
    · rename_i hi
      cases hf
      obtain ⟨v, rfl, r⟩ := rs.one
      obtain ⟨n, rfl⟩ : ∃ n : Nat, i = (n : Int) := ⟨i.toNat, by omega⟩
      have hb : n < 10 ^ 18 := by have := hi.2; omega
      refine ⟨_, by rw [r.int_inv], ?_, k _ H (Same.refl H) ?_⟩
      · have : (n : Int).natAbs.log2 < 61 := by
          by_cases h0 : n = 0
          · subst h0; decide
          · rw [Int.natAbs_natCast]
            exact (Nat.log2_lt h0).mpr (Nat.lt_trans hb (by decide))
        omega
      · rw [Int.toNat_natCast]
        exact .mkStr' (TL.tl_num n) (numL_ok n hb)
    · cases hf
  · cases hf
end VS
namespace VS
open PySem PySem.Spec PyProof.Rows L2
/-! ### calls of the program's defs -/
def spP (n : Nat) (m : List D → Option D) : Sp := fun vs H Q _ => ∃ (P : Ow0) (ds : List D) (d : D), ds.length = n ∧ (∀ b, P b → H b ≠ none) ∧ Rps (lim P H) vs ds ∧ m ds = some d ∧ ∀ v H', Same H H' → Rp (lim P H') v d → Q v H'
section
variable {ι : Type} {X : Cxs ι} {O : List Nat} {e a b c : Expr} {es : List Expr} {g ga gb gc : Ev → Option D} {gs : Ev → Option (List D)} {pos p : Pos} {k : Nat}
theorem ep_call {n : Nat} {m : List D → Option D} {t : TA} (ha : EA O t gs) (hl : ∀ ds d, m ds = some d → ds.length = n) : EP O (tCall (spP n m) [] E0 t) (gF m gs) := fun P pf σ H δ d Q R hg k => by
  obtain ⟨x, hx, hg⟩ := bind_some hg
  refine ha P pf σ H δ x _ R hx fun vs H1 e1 r1 => ?_
  refine ⟨P, x, d, hl x d hg, (R.same e1).dom, by rw [List.append_nil]; exact r1, hg, fun v H' e2 r2 => k v H' (e1.trans e2) r2⟩
theorem q_call {f : Addr} {fd : FuncData} {ps : List Str} {n : Nat} {m : List D → Option D} {x : Str}
    (F : ∀ i, FnOk (X i).prog (X i).w (X i).K (X i).mg (X i).base CX0 k f fd ps (spP n m)) (hl : ∀ ds d, m ds = some d → ds.length = n) (hm : ∀ i, (X i).mg x = some (.ref f)) (hk : ∀ i, PySem.W.keepIn (X i).K (.ref f) = true) (hb : ∀ i, Binds (X i).K fd ps []) (hr : ∀ i, Room k (X i).A) (ha : QA X O (e :: es) gs)
    (hg : ∀ i, Gl (X i) x := by intro _; rfl) (hdb : (x == ("__debug__" : Str)) = false := by decide)
    (he : ∀ i, starEach (e :: es) (X i).env = (false, eval e (X i).env) :: starEach es (X i).env := by intro _; rfl) (hpl : ∀ i, (backTo pos (starEach es (X i).env)).any (·.1) = false := by intro _; rfl) : QE X O (.Call (.Name x p) (e :: es) [] pos) (gF m gs) := by
  obtain ⟨t, pa, ea⟩ := ha
  exact ⟨_, fun i => pe_call (F i) (hr i) (hg i) (hm i) (hk i) (hb i) .nil pass0 (pa i) hdb (he i) (hpl i), ep_call ea hl⟩
end
/-! ### statements -/
inductive Out where
  | nx (δ : Ev) | ret (d : D) | bk (δ : Ev) | ct (δ : Ev)
def PO' (P₀ : Ow0) (O : List Nat) (pf : Nat → Addr) : Ow0 := fun b => P₀ b ∨ ∃ i ∈ O, pf i = b
structure SI (P₀ : Ow0) (H₀ : Hp) (O : List Nat) (pf : Nat → Addr) (σ : L2.St) (H : Hp) (δ : Ev) : Prop where
  rs : RS O (PO' P₀ O pf) pf σ H δ
  ex : Same H₀ H
  fresh : ∀ i ∈ O, H₀ (pf i) = none
  inj : ∀ i ∈ O, ∀ j ∈ O, pf i = pf j → i = j
  d0 : ∀ b, P₀ b → H₀ b ≠ none
section
variable {P₀ : Ow0} {H₀ H H' : Hp} {O O' : List Nat} {pf : Nat → Addr} {σ : L2.St} {δ : Ev}
theorem SI.same (S : SI P₀ H₀ O pf σ H δ) (e : Same H H') : SI P₀ H₀ O pf σ H' δ := ⟨S.rs.same e, S.ex.trans e, S.fresh, S.inj, S.d0⟩
/-- what is owned is not of the entry's -/
theorem SI.nP0 (S : SI P₀ H₀ O pf σ H δ) {i : Nat} (hi : i ∈ O) : ¬ P₀ (pf i) := fun z => S.d0 _ z (S.fresh i hi)
/-- an owned thing is frozen -/
theorem SI.weak (S : SI P₀ H₀ O pf σ H δ) (hs : ∀ i ∈ O', i ∈ O) : SI P₀ H₀ O' pf σ H δ := by
  have hP : ∀ b, PO' P₀ O' pf b → PO' P₀ O pf b := fun b h => h.imp id fun ⟨i, hi, e⟩ => ⟨i, hs i hi, e⟩
  have sm : Same (lim (PO' P₀ O pf) H) (lim (PO' P₀ O' pf) H) := lim_mono hP
  refine ⟨⟨S.rs.len, fun b h => S.rs.dom b (hP b h), fun i hi => ?_, fun i d hi h n => ?_⟩, S.ex, fun i hi => S.fresh i (hs i hi), fun i hi j hj => S.inj i (hs i hi) j (hs j hj), S.d0⟩
  · obtain ⟨_, h, d, h1, h2⟩ := S.rs.own i (hs i hi)
    exact ⟨.inr ⟨i, hi, rfl⟩, h, d, h1, h2.ex sm rfl⟩
  · by_cases hO : i ∈ O
    · obtain ⟨_, h', d', h1, h2⟩ := S.rs.own i hO
      rw [h] at h1; cases h1
      refine ⟨_, h', (h2.ex sm rfl).rp (lim_in ?_)⟩
      rintro (z | ⟨j, hj, e⟩)
      · exact S.nP0 hO z
      · exact hi (S.inj j (hs j hj) i hO e ▸ hj)
    · obtain ⟨v, h1, h2⟩ := S.rs.frz i d hO h n
      exact ⟨v, h1, h2.ex sm⟩
theorem getD_set {α : Type} {l : List α} {i j : Nat} {x y : α} (h : (l.set i x)[j]? = some y) : (j = i ∧ y = x ∧ i < l.length) ∨ (j ≠ i ∧ l[j]? = some y) := by
  by_cases e : j = i
  · subst e
    by_cases hl : j < l.length
    · rw [List.getElem?_set_self hl] at h
      exact .inl ⟨rfl, (Option.some.inj h).symm, hl⟩
    · rw [List.getElem?_eq_none (by rw [List.length_set]; omega)] at h
      cases h
  · rw [List.getElem?_set_ne (Ne.symm e)] at h
    exact .inr ⟨e, h⟩
/-- x = e, the slot not owned -/
theorem SI.set (S : SI P₀ H₀ O pf σ H δ) {i : Nat} (hi : i ∉ O) {v : V} {d : D} (r : Rp (lim (PO' P₀ O pf) H) v d) : SI P₀ H₀ O pf (σ.set i (some v)) H (δ.set i d) := by
  refine ⟨⟨by rw [List.length_set, List.length_set]; exact S.rs.len, S.rs.dom, fun j hj => ?_, fun j d' hj h n => ?_⟩, S.ex, S.fresh, S.inj, S.d0⟩
  · obtain ⟨p, h, d', h1, h2⟩ := S.rs.own j hj
    have ne : j ≠ i := fun e => hi (e ▸ hj)
    exact ⟨p, by rw [List.getElem?_set_ne (Ne.symm ne)]; exact h, d', by rw [List.getElem?_set_ne (Ne.symm ne)]; exact h1, h2⟩
  · rcases getD_set h with ⟨e, ed, hl⟩ | ⟨ne, h⟩
    · subst e ed
      exact ⟨v, by rw [List.getElem?_set_self (by rw [S.rs.len]; exact hl)], r⟩
    · obtain ⟨u, h1, h2⟩ := S.rs.frz j d' hj h n
      exact ⟨u, by rw [List.getElem?_set_ne (Ne.symm ne)]; exact h1, h2⟩
def updF (pf : Nat → Addr) (i : Nat) (p : Addr) : Nat → Addr := fun j => if j = i then p else pf j
theorem updF_same {pf : Nat → Addr} {i : Nat} {p : Addr} : updF pf i p i = p := by unfold updF; rw [if_pos rfl]
theorem updF_ne {pf : Nat → Addr} {i j : Nat} {p : Addr} (h : j ≠ i) : updF pf i p j = pf j := by unfold updF; rw [if_neg h]
/-- x = a new thing: x owns it -/
theorem SI.own (S : SI P₀ H₀ O pf σ H δ) {i : Nat} (hi : i ∉ O) (hl : i < δ.length) {p : Addr} {d : D} (np : H p = none) (e : Same H H') (o : Ow (lim (fun b => PO' P₀ O pf b ∨ b = p) H') H' p d) :
    SI P₀ H₀ (i :: O) (updF pf i p) (σ.set i (some (.ref p))) H' (δ.set i d) := by
  have hne : ∀ j ∈ O, j ≠ i := fun j hj z => hi (by rw [← z]; exact hj)
  have hpf : ∀ j ∈ O, updF pf i p j = pf j := fun j hj => updF_ne (hne j hj)
  have hP : ∀ b, PO' P₀ (i :: O) (updF pf i p) b ↔ (PO' P₀ O pf b ∨ b = p) := fun b => by
    constructor
    · rintro (z | ⟨j, hj, ej⟩)
      · exact .inl (.inl z)
      · rcases List.mem_cons.mp hj with rfl | hj
        · rw [updF_same] at ej
          exact .inr ej.symm
        · rw [hpf j hj] at ej
          exact .inl (.inr ⟨j, hj, ej⟩)
    · rintro ((z | ⟨j, hj, ej⟩) | z)
      · exact .inl z
      · exact .inr ⟨j, List.mem_cons_of_mem _ hj, (hpf j hj).trans ej⟩
      · exact .inr ⟨i, List.mem_cons_self, by rw [updF_same]; exact z.symm⟩
  have hPe : PO' P₀ (i :: O) (updF pf i p) = fun b => PO' P₀ O pf b ∨ b = p := funext fun b => propext (hP b)
  have s1 : Same (lim (PO' P₀ O pf) H) (lim (fun b => PO' P₀ O pf b ∨ b = p) H') := fun b o' h => by
    obtain ⟨nb, hb⟩ := lim_some h
    have ne : b ≠ p := ne_of_none hb np
    rw [lim_in (fun z => z.elim nb ne)]
    exact e b o' hb
  have hp' : H' p ≠ none := o.there
  have np0 : H₀ p = none := S.ex.free np
  refine ⟨⟨by rw [List.length_set, List.length_set]; exact S.rs.len, fun b h => ?_, fun j hj => ?_, fun j d' hj h n => ?_⟩, S.ex.trans e, fun j hj => ?_, fun j hj j' hj' ej => ?_, S.d0⟩
  · rcases (hP b).mp h with z | z
    · rw [same_eq e (S.rs.dom b z)]
      exact S.rs.dom b z
    · rw [z]; exact hp'
  · rw [hPe]
    rcases List.mem_cons.mp hj with rfl | hj'
    · refine ⟨.inr updF_same, ?_, d, ?_, ?_⟩
      · rw [updF_same, List.getElem?_set_self (by rw [S.rs.len]; exact hl)]
      · rw [List.getElem?_set_self hl]
      · rw [updF_same]; exact o
    · have ne : j ≠ i := hne j hj'
      obtain ⟨q, h, d', h1, h2⟩ := S.rs.own j hj'
      rw [hpf j hj']
      exact ⟨.inl q, by rw [List.getElem?_set_ne (Ne.symm ne)]; exact h, d', by rw [List.getElem?_set_ne (Ne.symm ne)]; exact h1, h2.ex s1 (same_eq e h2.there)⟩
  · rw [hPe]
    have ne : j ≠ i := fun z => hj (by rw [z]; exact List.mem_cons_self)
    have hjO : j ∉ O := fun z => hj (List.mem_cons_of_mem _ z)
    rw [List.getElem?_set_ne (Ne.symm ne)] at h
    obtain ⟨u, h1, h2⟩ := S.rs.frz j d' hjO h n
    exact ⟨u, by rw [List.getElem?_set_ne (Ne.symm ne)]; exact h1, h2.ex s1⟩
  · rcases List.mem_cons.mp hj with rfl | hj'
    · rw [updF_same]; exact np0
    · rw [hpf j hj']; exact S.fresh j hj'
  · have key : ∀ j ∈ O, pf j ≠ p := fun j hj e => by
      obtain ⟨_, _, d', _, h2⟩ := S.rs.own j hj
      exact h2.there (by rw [e]; exact np)
    rcases List.mem_cons.mp hj with rfl | hj1
    · rcases List.mem_cons.mp hj' with rfl | hj2
      · rfl
      · rw [updF_same, hpf j' hj2] at ej
        exact absurd ej.symm (key j' hj2)
    · rcases List.mem_cons.mp hj' with rfl | hj2
      · rw [updF_same, hpf j hj1] at ej
        exact absurd ej (key j hj1)
      · rw [hpf j hj1, hpf j' hj2] at ej
        exact S.inj j hj1 j' hj2 ej
/-- what an owned slot holds is changed -/
theorem SI.mut (S : SI P₀ H₀ O pf σ H δ) {i : Nat} (hi : i ∈ O) {o : HO} {d : D} (w : Ow (lim (PO' P₀ O pf) H) (upd H (pf i) o) (pf i) d) : SI P₀ H₀ O pf σ (upd H (pf i) o) (δ.set i d) := by
  have el : lim (PO' P₀ O pf) (upd H (pf i) o) = lim (PO' P₀ O pf) H := funext fun b => by
    by_cases z : PO' P₀ O pf b
    · rw [lim_no z, lim_no z]
    · have ne : b ≠ pf i := fun q => z (q ▸ .inr ⟨i, hi, rfl⟩)
      rw [lim_in z, lim_in z, upd_ne ne]
  have hl : i < δ.length := by
    obtain ⟨_, _, d', h1, _⟩ := S.rs.own i hi
    exact (List.getElem?_eq_some_iff.mp h1).1
  refine ⟨⟨by rw [List.length_set]; exact S.rs.len, fun b h => ?_, fun j hj => ?_, fun j d' hj h n => ?_⟩, fun b u h => ?_, S.fresh, S.inj, S.d0⟩
  · by_cases ne : b = pf i
    · rw [ne, upd_same]; exact fun z => by cases z
    · rw [upd_ne ne]; exact S.rs.dom b h
  · obtain ⟨q, h, d', h1, h2⟩ := S.rs.own j hj
    by_cases e : j = i
    · subst e
      exact ⟨q, h, d, by rw [List.getElem?_set_self hl], by rw [el]; exact w⟩
    · have ne : pf j ≠ pf i := fun z => e (S.inj j hj i hi z)
      exact ⟨q, h, d', by rw [List.getElem?_set_ne (Ne.symm e)]; exact h1, h2.ex (by rw [el]; exact Same.refl _) (upd_ne ne)⟩
  · have ne : j ≠ i := fun z => hj (z ▸ hi)
    rw [List.getElem?_set_ne (Ne.symm ne)] at h
    rw [el]
    exact S.rs.frz j d' hj h n
  · have ne : b ≠ pf i := fun z => by rw [z, S.fresh i hi] at h; cases h
    rw [upd_ne ne]
    exact S.ex b u h
end
/-- what is wanted behind a statement -/
def EndsOk (P₀ : Ow0) (H₀ : Hp) (O Ob : List Nat) (Dn : Ends) : Out → Prop
  | .nx δ => ∀ pf σ H, SI P₀ H₀ O pf σ H δ → Dn.nx σ H
  | .ret d => ∀ v H, Same H₀ H → Rp (lim P₀ H) v d → Dn.rt v H
  | .bk δ => ∀ pf σ H, SI P₀ H₀ Ob pf σ H δ → Dn.bk σ H
  | .ct δ => ∀ pf σ H, SI P₀ H₀ Ob pf σ H δ → Dn.ct σ H
def ES (O O' Ob : List Nat) (t : TS) (F : Ev → Option Out) : Prop := ∀ (P₀ : Ow0) (H₀ : Hp) (pf : Nat → Addr) (σ : L2.St) (H : Hp) (δ : Ev) (Dn : Ends) (r : Out), SI P₀ H₀ O pf σ H δ → F δ = some r → EndsOk P₀ H₀ O' Ob Dn r → t Dn σ H
def QS {ι : Type} (X : Cxs ι) (O O' Ob : List Nat) (st : Stmt) (F : Ev → Option Out) : Prop := ∃ t, (∀ i, PS (X i) st t) ∧ ES O O' Ob t F
def QSs {ι : Type} (X : Cxs ι) (O O' Ob : List Nat) (st : List Stmt) (F : Ev → Option Out) : Prop := ∃ t, (∀ i, PSs (X i) st t) ∧ ES O O' Ob t F
section
variable {ι : Type} {X : Cxs ι} {O O1 O2 Ob : List Nat} {e a b c : Expr} {es : List Expr} {g ga gb gc : Ev → Option D} {gs : Ev → Option (List D)} {pos : Pos} {k : Nat} {st : Stmt} {rest body orelse : List Stmt} {F G : Ev → Option Out}
def sSet (i : Nat) (g : Ev → Option D) : Ev → Option Out := fun δ => (g δ).bind fun d => some (.nx (δ.set i d))
theorem nmem_of {O : List Nat} {i : Nat} (h : O.contains i = false) : i ∉ O := fun z => by
  have : O.contains i = true := List.contains_iff_mem.mpr z
  rw [h] at this; cases this
theorem es_set {i : Nat} {t : TE} (hi : O.contains i = false) (h : EP O t g) : ES O O Ob (tAsg t (gName i)) (sSet i g) := fun P₀ H₀ pf σ H δ Dn r S hF k => by
  obtain ⟨d, hd, hF⟩ := bind_some hF
  cases hF
  exact h _ pf σ H δ d _ S.rs hd fun v H' e r => k pf _ H' ((S.same e).set (nmem_of hi) r)
theorem qs_set (i : Nat) {x : Str} {px : Pos} (he : QE X O e g) (hN : ∀ k, (X k).N.Nodup) (hi : O.contains i = false := by rfl) (hx : ∀ k, (X k).N[i]? = some x := by intro _; rfl) (hl : ∀ k, Loc (X k).env.scope x := by intro _; first | exact Or.inl rfl | exact Or.inr rfl)
    (hs : ∀ k, swapsWith e (some (.Name x px)) pos.line (X k).env = pure false := by intro _; rfl) (hf : ∀ k, (X k).fn x = true ∨ (X k).env.scope.names.lookup x = some .local := by intro _; exact Or.inl rfl) : QS X O O Ob (.Assign [.Name x px] e pos) (sSet i g) := by
  obtain ⟨t, p, q⟩ := he
  exact ⟨_, fun k => ps_set (hN k) (hx k) (hl k) (p k) (hs k) (hf k), es_set hi q⟩
def sOwn (i : Nat) (g : Ev → Option D) : Ev → Option Out := fun δ => if i < δ.length then (g δ).bind fun d => some (.nx (δ.set i d)) else none
theorem es_own {i : Nat} {t : TE} (hi : O.contains i = false) (h : EF O t g) : ES O (i :: O) Ob (tAsg t (gName i)) (sOwn i g) := fun P₀ H₀ pf σ H δ Dn r S hF k => by
  unfold sOwn at hF
  split at hF
  · rename_i hl
    obtain ⟨d, hd, hF⟩ := bind_some hF
    cases hF
    exact h _ pf σ H δ d _ S.rs hd fun p H' np e o => k _ _ H' (S.own (nmem_of hi) hl np e o)
  · cases hF
theorem qs_own (i : Nat) {x : Str} {px : Pos} (he : QF X O e g) (hN : ∀ k, (X k).N.Nodup) (hi : O.contains i = false := by rfl) (hx : ∀ k, (X k).N[i]? = some x := by intro _; rfl) (hl : ∀ k, Loc (X k).env.scope x := by intro _; first | exact Or.inl rfl | exact Or.inr rfl)
    (hs : ∀ k, swapsWith e (some (.Name x px)) pos.line (X k).env = pure false := by intro _; rfl) (hf : ∀ k, (X k).fn x = true ∨ (X k).env.scope.names.lookup x = some .local := by intro _; exact Or.inl rfl) : QS X O (i :: O) Ob (.Assign [.Name x px] e pos) (sOwn i g) := by
  obtain ⟨t, p, q⟩ := he
  exact ⟨_, fun k => ps_set (hN k) (hx k) (hl k) (p k) (hs k) (hf k), es_own hi q⟩
/-- freeze ahead of a statement -/
theorem ES.frz {t : TS} (h : ES O1 O2 Ob t F) (hs : O1.all (fun i => O.contains i) = true) : ES O O2 Ob t F := fun P₀ H₀ pf σ H δ Dn r S hF k =>
  h P₀ H₀ pf σ H δ Dn r (S.weak fun i hi => List.contains_iff_mem.mp (List.all_eq_true.mp hs i hi)) hF k
theorem QS.frz (h : QS X O1 O2 Ob st F) (hs : O1.all (fun i => O.contains i) = true := by rfl) : QS X O O2 Ob st F := let ⟨t, p, q⟩ := h; ⟨t, p, q.frz hs⟩
theorem QSs.frz (h : QSs X O1 O2 Ob rest F) (hs : O1.all (fun i => O.contains i) = true := by rfl) : QSs X O O2 Ob rest F := let ⟨t, p, q⟩ := h; ⟨t, p, q.frz hs⟩
def sNil : Ev → Option Out := fun δ => some (.nx δ)
theorem es_nil : ES O O Ob tNext sNil := fun P₀ H₀ pf σ H δ Dn r S hF k => by
  cases hF
  exact k pf σ H S
theorem qss_nil : QSs X O O Ob [] sNil := ⟨_, fun _ => pss_nil, es_nil⟩
theorem qs_pass : QS X O O Ob (.Pass pos) sNil := ⟨_, fun _ => ps_pass, es_nil⟩
def sSeq (F G : Ev → Option Out) : Ev → Option Out := fun δ => (F δ).bind fun o => match o with
  | .nx δ' => G δ'
  | o => some o
theorem es_seq {t u : TS} (h : ES O O1 Ob t F) (h' : ES O1 O2 Ob u G) : ES O O2 Ob (tSeq t u) (sSeq F G) := fun P₀ H₀ pf σ H δ Dn r S hF k => by
  obtain ⟨o, ho, hF⟩ := bind_some hF
  refine h P₀ H₀ pf σ H δ { Dn with nx := u Dn } o S ho ?_
  cases o with
  | nx δ' => exact fun pf' σ' H' S' => h' P₀ H₀ pf' σ' H' δ' Dn r S' hF k
  | ret d => cases hF; exact k
  | bk δ' => cases hF; exact k
  | ct δ' => cases hF; exact k
theorem qss_cons (h : QS X O O1 Ob st F) (h' : QSs X O1 O2 Ob rest G) : QSs X O O2 Ob (st :: rest) (sSeq F G) := by
  obtain ⟨t, p, q⟩ := h
  obtain ⟨u, p', q'⟩ := h'
  exact ⟨_, fun i => pss_cons (p i) (p' i), es_seq q q'⟩
theorem qss_one (h : QS X O O1 Ob st F) : QSs X O O1 Ob [st] F := by
  obtain ⟨t, p, q⟩ := h
  exact ⟨_, fun i => pss_one (p i), q⟩
def sRet (g : Ev → Option D) : Ev → Option Out := fun δ => (g δ).bind fun d => some (.ret d)
theorem qs_ret (he : QE X O e g) : QS X O O1 Ob (.Return (some e) pos) (sRet g) := by
  obtain ⟨t, p, q⟩ := he
  refine ⟨_, fun i => ps_ret (p i), fun P₀ H₀ pf σ H δ Dn r S hF k => ?_⟩
  obtain ⟨d, hd, hF⟩ := bind_some hF
  cases hF
  exact q _ pf σ H δ d _ S.rs hd fun v H' e r => k v H' (S.ex.trans e) (r.ex (lim_mono fun b z => .inl z))
def sRetN : Ev → Option Out := fun δ => some (.ret .non)
theorem qs_retN : QS X O O1 Ob (.Return none pos) sRetN := ⟨_, fun i => ps_retN, fun P₀ H₀ pf σ H δ Dn r S hF k => by
  cases hF
  exact k .non H S.ex .non⟩
def sIf (t : Ev → Option Bool) (F G : Ev → Option Out) : Ev → Option Out := fun δ => (t δ).bind fun c => if c = true then F δ else G δ
theorem qs_if {gt : Ev → Option Bool} (hc : QT X O c gt) (ha : QSs X O O1 Ob body F) (hb : QSs X O O1 Ob orelse G) : QS X O O1 Ob (.If c body orelse pos) (sIf gt F G) := by
  obtain ⟨tc, pc, ec⟩ := hc
  obtain ⟨ta, pa, ea⟩ := ha
  obtain ⟨tb, pb, eb⟩ := hb
  refine ⟨_, fun i => ps_if (pc i) (pa i) (pb i), fun P₀ H₀ pf σ H δ Dn r S hF k => ?_⟩
  obtain ⟨x, hx, hF⟩ := bind_some hF
  refine ec _ pf σ H δ x _ S.rs hx fun H1 e1 => ?_
  cases x with
  | true =>
    rw [if_pos rfl] at hF ⊢
    exact ea P₀ H₀ pf σ H1 δ Dn r (S.same e1) hF k
  | false =>
    rw [if_neg (by decide)] at hF ⊢
    exact eb P₀ H₀ pf σ H1 δ Dn r (S.same e1) hF k
def sBk : Ev → Option Out := fun δ => some (.bk δ)
def sCt : Ev → Option Out := fun δ => some (.ct δ)
theorem qs_break (hs : Ob.all (fun i => O.contains i) = true := by rfl) : QS X O O1 Ob (.Break pos) sBk := ⟨_, fun i => ps_break, fun P₀ H₀ pf σ H δ Dn r S hF k => by
  cases hF
  exact k pf σ H (S.weak fun i hi => List.contains_iff_mem.mp (List.all_eq_true.mp hs i hi))⟩
theorem qs_continue (hs : Ob.all (fun i => O.contains i) = true := by rfl) : QS X O O1 Ob (.Continue pos) sCt := ⟨_, fun i => ps_continue, fun P₀ H₀ pf σ H δ Dn r S hF k => by
  cases hF
  exact k pf σ H (S.weak fun i hi => List.contains_iff_mem.mp (List.all_eq_true.mp hs i hi))⟩
/-- a whole def -/
def mkM (n k : Nat) (F : Ev → Option Out) : List D → Option D := fun ds => if ds.length = n then (F (ds ++ List.replicate (k - n) .bot)).bind fun o => match o with
  | .ret d => some d
  | .nx _ => some .non
  | _ => none
  else none
theorem mkM_len {n k : Nat} {F : Ev → Option Out} : ∀ ds d, mkM n k F ds = some d → ds.length = n := fun ds d h => by
  unfold mkM at h
  split at h
  · assumption
  · cases h
theorem start_RS {P : Ow0} {H : Hp} {N : List Str} {vs : List V} {ds : List D} (dom : ∀ b, P b → H b ≠ none) (r : Rps (lim P H) vs ds) : SI P H [] (fun _ => 0) (L2.start N vs) H (ds ++ List.replicate (N.length - ds.length) .bot) := by
  have eP : PO' P [] (fun _ => 0) = P := funext fun b => propext ⟨fun h => h.elim id fun ⟨i, hi, _⟩ => (nomatch hi), Or.inl⟩
  refine ⟨⟨?_, ?_, fun i hi => (nomatch hi), fun i d _ h n => ?_⟩, Same.refl H, fun i hi => (nomatch hi), fun i hi => (nomatch hi), dom⟩
  · unfold L2.start
    rw [List.length_append, List.length_map, List.length_replicate, List.length_append, List.length_replicate, r.length]
  · rw [eP]; exact dom
  · rw [eP]
    have hi : i < ds.length := by
      by_cases hi : i < ds.length
      · exact hi
      · rw [List.getElem?_append_right (by omega), List.getElem?_replicate] at h
        split at h
        · cases h; exact absurd rfl n
        · cases h
    rw [List.getElem?_append_left hi] at h
    obtain ⟨v, h1, h2⟩ := r.get h
    refine ⟨v, ?_, h2⟩
    unfold L2.start
    rw [List.getElem?_append_left (by rw [List.length_map, r.length]; exact hi), List.getElem?_map, h1]
    rfl
end
section
variable {P : Program} {w : World} {K : PySem.W.Frag} {mg : Str → Option Value} {base : Heap}
theorem Fun.okP {x qual : Str} {st : Stmt} {f : Addr} {fd : FuncData} {N ps : List Str} {k n nN : Nat} {F : Ev → Option Out} {O1 : List Nat} (Fn : Fun K x qual st f fd) (S : FnScope N ps (defScope st)) (hps : ps.length = n) (hN : N.length = nN)
    (hbody : ∀ (cdv : Value) (A : Around) (outer : List Env) (s : Shared) (H : Hp) (E : XK), Room k (A.deeper (envOfC qual (defScope st) s.heap.objs.size f cdv)) →
      QSs (fun (_ : Unit) => (cxOf CX0 P w K mg base N qual (defScope st) f cdv A outer s H E).nox) [] O1 [] (defBody st) F) : FnOk P w K mg base CX0 (k + 1) f fd ps (spP n (mkM n nN F)) := by
  refine Fn.ok S (fun vs H Q E h => ?_) (fun cdv A outer s H vs Q E hr h => ?_)
  · obtain ⟨P, ds, d, hn, dom, r, _⟩ := h
    rw [r.length, hn, hps]
  · obtain ⟨P, ds, d, hn, dom, r, hm, q⟩ := h
    obtain ⟨t, p, es⟩ := hbody cdv A outer s H E hr
    refine ⟨t, p (), ?_⟩
    unfold mkM at hm
    rw [if_pos hn] at hm
    obtain ⟨o, ho, hm⟩ := bind_some hm
    have S0 := start_RS (N := N) dom r
    rw [hN, hn] at S0
    refine es P H (fun _ => 0) _ H _ _ o S0 ho ?_
    cases o with
    | nx δ' =>
      cases hm
      exact fun pf σ H' S' => q .non H' S'.ex .non
    | ret d' =>
      cases hm
      exact fun v H' e r' => q v H' e r'
    | bk δ' => cases hm
    | ct δ' => cases hm
end
end VS
namespace VS
open PySem PySem.Spec PyProof.Rows L2
/-! ### what is walked -/
def ItOk (P : Ow0) (J : It) (H0 : Hp) (ds : List D) : Prop := ∀ H : Hp, Same (lim P H0) H → ∀ i : Nat,
  (∀ d, ds[i]? = some d → J.go i H ∧ ∀ x H', J.yld i H x H' → Same H H' ∧ ∀ P' : Ow0, (∀ b, P' b → H b ≠ none) → Same (lim P H0) (lim P' H) → Rp (lim P' H') x d) ∧ (ds.length ≤ i → J.stop i H)
def EI (O : List Nat) (wi : TI) (its : Ev → Option (List D)) : Prop := ∀ (P : Ow0) (pf : Nat → Addr) (σ : L2.St) (H : Hp) (δ : Ev) (ds : List D) (R : It → Hp → Prop), RS O P pf σ H δ → its δ = some ds →
  (∀ J H', Same H H' → ItOk P J H' ds → R J H') → wi σ H R
def QI {ι : Type} (X : Cxs ι) (O : List Nat) (tg iter : Expr) (its : Ev → Option (List D)) : Prop := ∃ wi, (∀ i, PI (X i) tg iter wi) ∧ EI O wi its
section
variable {ι : Type} {X : Cxs ι} {O : List Nat} {tg e a b c : Expr} {es : List Expr} {g ga gb gc : Ev → Option D} {gs : Ev → Option (List D)} {pos p : Pos} {k : Nat} {K : PySem.W.Frag}
def toL : D → Option (List D)
  | .lst l => some l
  | _ => none
def toT : D → Option (List D)
  | .tup l => some l
  | _ => none
def iL (g : Ev → Option D) : Ev → Option (List D) := fun δ => (g δ).bind toL
def iT (g : Ev → Option D) : Ev → Option (List D) := fun δ => (g δ).bind toT
theorem toL_some {d : D} {l : List D} (h : toL d = some l) : d = .lst l := by
  unfold toL at h
  split at h
  · cases h; rfl
  · cases h
theorem toT_some {d : D} {l : List D} (h : toT d = some l) : d = .tup l := by
  unfold toT at h
  split at h
  · cases h; rfl
  · cases h
theorem sqL_inj {H : Hp} {a : Addr} {xs ys : List V} (K : PySem.W.Frag) (h : H a = some (.lst xs)) (hk : K.lookup a = none) (q : SqL K H a ys) : ys = xs := by
  rcases q with (q | ⟨o, q⟩) | ⟨o, its, n, q, _⟩
  · rw [h] at q; cases q; rfl
  · rw [h] at q; cases q
  · rw [hk] at q; cases q
theorem ei_list {t : TE} (h : EP O t g) : EI O (iList K t) (iL g) := fun P pf σ H δ ds R S hg k => by
  obtain ⟨d, hd, hg⟩ := bind_some hg
  obtain rfl := toL_some hg
  refine h P pf σ H δ _ _ S hd fun v H1 e1 r1 => ?_
  obtain ⟨a, vs, rfl, ha, r⟩ := r1.lst_inv
  refine ⟨a, rfl, ⟨vs, SqL.of (lim_get ha)⟩, k _ H1 e1 fun H' sm i => ⟨fun d hd => ?_, fun hl => ⟨vs, SqL.of (sm a _ ha), by rw [r.length]; exact hl⟩⟩⟩
  obtain ⟨v, h1, h2⟩ := r.get hd
  refine ⟨⟨vs, v, SqL.of (sm a _ ha), h1⟩, fun x H2 hy => ?_⟩
  obtain ⟨rfl, hy⟩ := hy
  have e := hy vs (SqL.of (sm a _ ha))
  rw [h1] at e
  cases e
  exact ⟨Same.refl _, fun P' _ s' => h2.ex s'⟩
theorem ei_tup {t : TE} (h : EP O t g) : EI O (iTup K t) (iT g) := fun P pf σ H δ ds R S hg k => by
  obtain ⟨d, hd, hg⟩ := bind_some hg
  obtain rfl := toT_some hg
  refine h P pf σ H δ _ _ S hd fun v H1 e1 r1 => ?_
  obtain ⟨a, vs, rfl, ha, r⟩ := r1.tup_inv
  refine ⟨a, rfl, ⟨vs, SqT.of (lim_get ha)⟩, k _ H1 e1 fun H' sm i => ⟨fun d hd => ?_, fun hl => ⟨vs, SqT.of (sm a _ ha), by rw [r.length]; exact hl⟩⟩⟩
  obtain ⟨v, h1, h2⟩ := r.get hd
  refine ⟨⟨vs, v, SqT.of (sm a _ ha), h1⟩, fun x H2 hy => ?_⟩
  obtain ⟨rfl, hy⟩ := hy
  have e := hy vs (SqT.of (sm a _ ha))
  rw [h1] at e
  cases e
  exact ⟨Same.refl _, fun P' _ s' => h2.ex s'⟩
theorem qi_list (h : QE X O e g) (hK : ∀ i, (X i).K = K := by intro _; rfl) : QI X O tg e (iL g) := by
  obtain ⟨t, pa, q⟩ := h
  exact ⟨iList K t, fun i => by rw [← hK i]; exact pi_list (pa i), ei_list q⟩
theorem qi_tup (h : QE X O e g) (hK : ∀ i, (X i).K = K := by intro _; rfl) : QI X O tg e (iT g) := by
  obtain ⟨t, pa, q⟩ := h
  exact ⟨iTup K t, fun i => by rw [← hK i]; exact pi_tup (pa i), ei_tup q⟩
/-! texts -/
def iS (g : Ev → Option D) : Ev → Option (List D) := fun δ => (g δ).bind fun d => match d with
  | .str l => some (l.map fun c => .str [c])
  | _ => none
theorem ei_str {t : TE} (h : EP O t g) : EI O (iStr t) (iS g) := fun P pf σ H δ ds R S hg k => by
  obtain ⟨d, hd, hg⟩ := bind_some hg
  split at hg
  · rename_i l
    cases hg
    refine h P pf σ H δ _ _ S hd fun v H1 e1 r1 => ?_
    obtain ⟨x, rfl, ex, hx⟩ := r1.str_inv
    have hsz : x.cps.size = l.length := by rw [← ex]; simp
    refine ⟨x, rfl, k _ H1 e1 fun H' sm i => ⟨fun d hd => ?_, fun hl => by show x.cps.size ≤ i; rw [hsz]; simpa using hl⟩⟩
    rw [List.getElem?_map] at hd
    obtain ⟨c, hc, rfl⟩ := Option.map_eq_some_iff.mp hd
    have hi : i < l.length := (List.getElem?_eq_some_iff.mp hc).1
    refine ⟨by show i < x.cps.size; rw [hsz]; exact hi, fun y H2 hy => ?_⟩
    obtain ⟨rfl, c', hc', rfl⟩ := hy
    have e : c' = c := by
      rw [← ex, Array.getElem?_toList] at hc
      rw [hc] at hc'
      exact (Option.some.inj hc').symm
    subst e
    refine ⟨Same.refl _, fun P' _ s' => Rp.mkStr (l := [c']) ⟨fun z hz => ?_, by simp⟩⟩
    rw [List.mem_singleton.mp hz]
    exact hx.1 c' (List.mem_of_getElem? hc)
  · cases hg
theorem qi_str (h : QE X O e g) : QI X O tg e (iS g) := by
  obtain ⟨t, pa, q⟩ := h
  exact ⟨iStr t, fun i => pi_str (pa i), ei_str q⟩
/-! ranges -/
def rngD (lo : Int) (n : Nat) : List D := (List.range n).map fun (i : Nat) => .int (lo + (i : Int))
theorem itr_ok {P : Ow0} {H : Hp} {lo : Int} {n : Nat} : ItOk P (Itr lo n) H (rngD lo n) := fun H' sm i => by
  unfold rngD
  refine ⟨fun d hd => ?_, fun hl => by show n ≤ i; simpa using hl⟩
  rw [List.getElem?_map] at hd
  obtain ⟨c, hc, rfl⟩ := Option.map_eq_some_iff.mp hd
  obtain ⟨hi, ei⟩ := List.getElem?_eq_some_iff.mp hc
  rw [List.getElem_range] at ei
  subst ei
  rw [List.length_range] at hi
  refine ⟨hi, fun x H2 hy => ?_⟩
  obtain ⟨rfl, rfl⟩ := hy
  exact ⟨Same.refl _, fun P' _ s' => .int _⟩
def iR1 (g : Ev → Option D) : Ev → Option (List D) := fun δ => (g δ).bind fun d => match d with
  | .int n => if n.natAbs < 4611686018427387904 then some (rngD 0 n.toNat) else none
  | _ => none
def iR2 (ga gb : Ev → Option D) : Ev → Option (List D) := fun δ => (ga δ).bind fun a => (gb δ).bind fun b => match a, b with
  | .int i, .int j => if i.natAbs < 4611686018427387904 ∧ j.natAbs < 4611686018427387904 then some (rngD i (j - i).toNat) else none
  | _, _ => none
theorem qi_rng1 (ha : QE X O a ga) (hm : ∀ i, (X i).mg "range" = none) (hg : ∀ i, Gl (X i) "range" := by intro _; rfl) (hs : ∀ i, starEach [a] (X i).env = [(false, eval a (X i).env)] := by intro _; rfl) : QI X O tg (.Call (.Name "range" p) [a] [] pos) (iR1 ga) := by
  obtain ⟨t, pa, q⟩ := ha
  refine ⟨iRng1 (tCons t tNil), fun i => pi_range1 (hg i) (hm i) (pa_cons (pa i) pa_nil ((hs i).trans rfl)) (hs i), fun P pf σ H δ ds R S hg k => ?_⟩
  obtain ⟨d, hd, hg⟩ := bind_some hg
  split at hg
  · rename_i n
    split at hg
    · rename_i hn
      cases hg
      refine q P pf σ H δ _ _ S hd fun v H1 e1 r1 => ?_
      exact ⟨n, by rw [r1.int_inv], by omega, by omega, k _ H1 e1 itr_ok⟩
    · cases hg
  · cases hg
theorem qi_rng2 (ha : QE X O a ga) (hb : QE X O b gb) (hm : ∀ i, (X i).mg "range" = none) (hg : ∀ i, Gl (X i) "range" := by intro _; rfl) (hs : ∀ i, starEach [a, b] (X i).env = [(false, eval a (X i).env), (false, eval b (X i).env)] := by intro _; rfl) (hs2 : ∀ i, starEach [b] (X i).env = [(false, eval b (X i).env)] := by intro _; rfl) :
    QI X O tg (.Call (.Name "range" p) [a, b] [] pos) (iR2 ga gb) := by
  obtain ⟨t, pa, q⟩ := ha
  obtain ⟨u, pb, q'⟩ := hb
  refine ⟨iRng2 (tCons t (tCons u tNil)), fun i => pi_range2 (hg i) (hm i) (pa_cons (pa i) (pa_cons (pb i) pa_nil ((hs2 i).trans rfl)) (by rw [hs i, hs2 i])) (hs i) (hs2 i), fun P pf σ H δ ds R S hg k => ?_⟩
  obtain ⟨d, hd, hg⟩ := bind_some hg
  obtain ⟨d', hd', hg⟩ := bind_some hg
  split at hg
  · rename_i i j _
    split at hg
    · rename_i hn
      cases hg
      refine q P pf σ H δ _ _ S hd fun v H1 e1 r1 => ?_
      refine q' P pf σ H1 δ _ _ (S.same e1) hd' fun v' H2 e2 r2 => ?_
      exact ⟨i, j, by rw [r1.int_inv, r2.int_inv], by omega, k _ H2 (e1.trans e2) itr_ok⟩
    · cases hg
  · cases hg
end
/-! ### targets -/
theorem RS.set {O : List Nat} {P : Ow0} {pf : Nat → Addr} {σ : L2.St} {H : Hp} {δ : Ev} (S : RS O P pf σ H δ) {i : Nat} (hi : i ∉ O) {v : V} {d : D} (r : Rp (lim P H) v d) : RS O P pf (σ.set i (some v)) H (δ.set i d) := by
  refine ⟨by rw [List.length_set, List.length_set]; exact S.len, S.dom, fun j hj => ?_, fun j d' hj h n => ?_⟩
  · obtain ⟨p, h, d', h1, h2⟩ := S.own j hj
    have ne : j ≠ i := fun e => hi (by rw [← e]; exact hj)
    exact ⟨p, by rw [List.getElem?_set_ne (Ne.symm ne)]; exact h, d', by rw [List.getElem?_set_ne (Ne.symm ne)]; exact h1, h2⟩
  · rcases getD_set h with ⟨e, ed, hl⟩ | ⟨ne, h⟩
    · subst e ed
      exact ⟨v, by rw [List.getElem?_set_self (by rw [S.len]; exact hl)], r⟩
    · obtain ⟨u, h1, h2⟩ := S.frz j d' hj h n
      exact ⟨u, by rw [List.getElem?_set_ne (Ne.symm ne)]; exact h1, h2⟩
theorem RS.unset {O : List Nat} {P : Ow0} {pf : Nat → Addr} {σ : L2.St} {H : Hp} {δ : Ev} (S : RS O P pf σ H δ) {i : Nat} (hi : i ∉ O) : RS O P pf (σ.set i none) H (δ.set i .bot) := by
  refine ⟨by rw [List.length_set, List.length_set]; exact S.len, S.dom, fun j hj => ?_, fun j d' hj h n => ?_⟩
  · obtain ⟨p, h, d', h1, h2⟩ := S.own j hj
    have ne : j ≠ i := fun e => hi (by rw [← e]; exact hj)
    exact ⟨p, by rw [List.getElem?_set_ne (Ne.symm ne)]; exact h, d', by rw [List.getElem?_set_ne (Ne.symm ne)]; exact h1, h2⟩
  · rcases getD_set h with ⟨e, ed, hl⟩ | ⟨ne, h⟩
    · exact absurd ed n
    · obtain ⟨u, h1, h2⟩ := S.frz j d' hj h n
      exact ⟨u, by rw [List.getElem?_set_ne (Ne.symm ne)]; exact h1, h2⟩
def wipeE (δ : Ev) : List Nat → Ev
  | [] => δ
  | v :: vs => (wipeE δ vs).set v .bot
theorem RS.wipe {O : List Nat} {P : Ow0} {pf : Nat → Addr} {σ : L2.St} {H : Hp} {δ : Ev} (S : RS O P pf σ H δ) : ∀ {vs : List Nat}, (∀ v ∈ vs, v ∉ O) → RS O P pf (L2.wipe σ vs) H (wipeE δ vs)
  | [], _ => S
  | v :: vs, h => (RS.wipe S (vs := vs) fun u hu => h u (List.mem_cons_of_mem _ hu)).unset (h v List.mem_cons_self)
theorem wipe_set {σ : L2.St} {j : Nat} {y : Option V} : ∀ {vs : List Nat}, j ∈ vs → L2.wipe (σ.set j y) vs = L2.wipe σ vs
  | v :: vs, h => by
    unfold L2.wipe
    by_cases e : j ∈ vs
    · rw [wipe_set e]
    · have ej : j = v := by
        rcases List.mem_cons.mp h with z | z
        · exact z
        · exact absurd z e
      subst ej
      apply List.ext_getElem?
      intro n
      have key : ∀ {us : List Nat}, j ∉ us → ∀ n, n ≠ j → (L2.wipe (σ.set j y) us)[n]? = (L2.wipe σ us)[n]? := by
        intro us
        induction us with
        | nil =>
          intro _ n hn
          show (σ.set j y)[n]? = σ[n]?
          rw [List.getElem?_set_ne (Ne.symm hn)]
        | cons u us ih =>
          intro hu n hn
          have hu1 : j ∉ us := fun z => hu (List.mem_cons_of_mem _ z)
          show ((L2.wipe (σ.set j y) us).set u none)[n]? = ((L2.wipe σ us).set u none)[n]?
          rw [List.getElem?_set, List.getElem?_set, ih hu1 n hn, wipe_length, wipe_length, List.length_set]
      rw [List.getElem?_set, List.getElem?_set, wipe_length, wipe_length, List.length_set]
      by_cases hn : j = n
      · rw [if_pos hn, if_pos hn]
      · rw [if_neg hn, if_neg hn]
        exact key e n (Ne.symm hn)
theorem wipe_wipe {σ : L2.St} {vs : List Nat} : ∀ {us : List Nat}, (∀ u ∈ us, u ∈ vs) → L2.wipe (L2.wipe σ us) vs = L2.wipe σ vs
  | [], _ => rfl
  | u :: us, h => by
    show L2.wipe ((L2.wipe σ us).set u none) vs = _
    rw [wipe_set (h u List.mem_cons_self), wipe_wipe fun z hz => h z (List.mem_cons_of_mem _ hz)]
/-- js: the slots that are set -/
def EG (O js : List Nat) (t : TG) (b : D → Ev → Option Ev) : Prop := ∀ (P : Ow0) (pf : Nat → Addr) (σ : L2.St) (H : Hp) (δ δ' : Ev) (v : V) (d : D) (Q : L2.St → Hp → Prop), RS O P pf σ H δ → Rp (lim P H) v d → b d δ = some δ' →
  (∀ σ', RS O P pf σ' H δ' → (∀ vs : List Nat, (∀ j ∈ js, j ∈ vs) → L2.wipe σ' vs = L2.wipe σ vs) → Q σ' H) → t v σ H Q
def QG {ι : Type} (X : Cxs ι) (O js : List Nat) (tg : Expr) (b : D → Ev → Option Ev) : Prop := ∃ t, (∀ i, PG (X i) tg t) ∧ EG O js t b
def EGs (O js : List Nat) (t : TGs) (b : List D → Ev → Option Ev) : Prop := ∀ (P : Ow0) (pf : Nat → Addr) (σ : L2.St) (H : Hp) (δ δ' : Ev) (vs : List V) (ds : List D) (Q : L2.St → Hp → Prop), RS O P pf σ H δ → Rps (lim P H) vs ds → b ds δ = some δ' →
  (∀ σ', RS O P pf σ' H δ' → (∀ vs : List Nat, (∀ j ∈ js, j ∈ vs) → L2.wipe σ' vs = L2.wipe σ vs) → Q σ' H) → t vs σ H Q
def QGs {ι : Type} (X : Cxs ι) (O js : List Nat) (tgs : List Expr) (b : List D → Ev → Option Ev) : Prop := ∃ t, (∀ i, PGs (X i) tgs t) ∧ EGs O js t b
section
variable {ι : Type} {X : Cxs ι} {O js js' : List Nat} {tg e : Expr} {es : List Expr} {pos p : Pos} {K : PySem.W.Frag}
def bName (j : Nat) : D → Ev → Option Ev := fun d δ => some (δ.set j d)
theorem qg_name (j : Nat) {x : Str} {pos : Pos} (hN : ∀ k, (X k).N.Nodup) (hi : ∀ k, (X k).N[j]? = some x := by intro _; rfl) (hx : ∀ k, Loc (X k).env.scope x := by intro _; first | exact Or.inl rfl | exact Or.inr rfl) (hj : O.contains j = false := by rfl)
    (hf : ∀ k, (X k).fn x = true ∨ (X k).env.scope.names.lookup x = some .local := by intro _; first | exact Or.inl rfl | exact Or.inr rfl) : QG X O [j] (.Name x pos) (bName j) :=
  ⟨_, fun k => pg_name (hN k) (hi k) (hx k) (hf k), fun P pf σ H δ δ' v d Q R r hb k => by
    cases hb
    exact k _ (R.set (nmem_of hj) r) fun vs h => wipe_set (h j List.mem_cons_self)⟩
def bNil : List D → Ev → Option Ev
  | [], δ => some δ
  | _, _ => none
def bCons (b : D → Ev → Option Ev) (bs : List D → Ev → Option Ev) : List D → Ev → Option Ev
  | d :: r, δ => (b d δ).bind fun δ1 => bs r δ1
  | [], _ => none
theorem qgs_nil : QGs X O [] [] bNil := ⟨_, fun _ => pgs_nil, fun P pf σ H δ δ' vs ds Q R r hb k => by
  unfold bNil at hb
  split at hb
  · cases hb
    cases r
    exact ⟨rfl, k σ R fun vs _ => rfl⟩
  · cases hb⟩
theorem qgs_cons {b : D → Ev → Option Ev} {bs : List D → Ev → Option Ev} (h : QG X O js e b) (h' : QGs X O js' es bs) (hs : ∀ k, (assignEach (e :: es) (X k).env).map (·.2) = assign e (X k).env :: (assignEach es (X k).env).map (·.2) := by intro _; rfl) : QGs X O (js ++ js') (e :: es) (bCons b bs) := by
  obtain ⟨t, pt, et⟩ := h
  obtain ⟨u, pu, eu⟩ := h'
  refine ⟨_, fun k => pgs_cons (pt k) (pu k) (hs k), fun P pf σ H δ δ' vs ds Q R r hb k => ?_⟩
  unfold bCons at hb
  split at hb
  · rename_i d r'
    obtain ⟨δ1, h1, h2⟩ := bind_some hb
    cases r with
    | cons r0 rs =>
      refine ⟨_, _, rfl, et P pf σ H δ δ1 _ d _ R r0 h1 fun σ1 R1 w1 => ?_⟩
      refine eu P pf σ1 H δ1 δ' _ r' _ R1 rs h2 fun σ2 R2 w2 => k σ2 R2 fun vs hv => ?_
      rw [w2 vs fun j hj => hv j (List.mem_append_right _ hj), w1 vs fun j hj => hv j (List.mem_append_left _ hj)]
  · cases hb
def bTup (n : Nat) (bs : List D → Ev → Option Ev) : D → Ev → Option Ev := fun d δ => (toT d).bind fun l => if l.length = n then bs l δ else none
theorem qg_tup {k : Nat} {n : Nat} {bs : List D → Ev → Option Ev} (h : QGs X O js es bs) (hc : ∀ i, (X i).calm = true := by intro _; rfl) (hn : ∀ i, (assignEach es (X i).env).length = n := by intro _; rfl) (hst : ∀ i, (assignEach es (X i).env).findIdx? (·.1) = none := by intro _; rfl) (hK : ∀ i, (X i).K = K := by intro _; rfl) : QG X O js (.Tuple es k pos) (bTup n bs) := by
  obtain ⟨t, pt, et⟩ := h
  refine ⟨L2.gTup K n t, fun i => by rw [← hK i]; exact pg_tup (hc i) (pt i) (hn i) (hst i), fun P pf σ H δ δ' v d Q R r hb k => ?_⟩
  obtain ⟨l, hl, hb2⟩ := bind_some hb
  have e := toT_some hl
  subst e
  clear hb
  split at hb2
  · rename_i hln
    obtain ⟨a, vs, rfl, ha, rv⟩ := r.tup_inv
    exact ⟨a, vs, rfl, SqT.of (lim_get ha), by rw [rv.length]; exact hln, et P pf σ H δ δ' vs l Q R rv hb2 k⟩
  · cases hb2
end
end VS
namespace VS
open PySem PySem.Spec PyProof.Rows L2
/-! ### for -/
def forL (b : D → Ev → Option Ev) (F : Ev → Option Out) : List D → Ev → Option Out
  | [], δ => some (.nx δ)
  | d :: r, δ => (b d δ).bind fun δ1 => (F δ1).bind fun o => match o with
    | .nx δ2 => forL b F r δ2
    | .ct δ2 => forL b F r δ2
    | .bk δ2 => some (.nx δ2)
    | .ret d => some (.ret d)
def sFor (its : Ev → Option (List D)) (b : D → Ev → Option Ev) (F : Ev → Option Out) : Ev → Option Out := fun δ => (its δ).bind fun l => forL b F l δ
/-- the heap at a loop's start without what is owned -/
noncomputable def unown (O : List Nat) (pf : Nat → Addr) (H : Hp) : Hp := lim (fun b => ∃ i ∈ O, pf i = b) H
section
variable {P₀ : Ow0} {H₀ H H' : Hp} {O O' : List Nat} {pf : Nat → Addr} {σ : L2.St} {δ : Ev}
theorem SI.unown (S : SI P₀ H₀ O pf σ H δ) : SI P₀ (unown O pf H) O pf σ H δ := by
  refine ⟨S.rs, lim_le, fun i hi => lim_no ⟨i, hi, rfl⟩, S.inj, fun b h => ?_⟩
  unfold VS.unown
  rw [lim_in (fun ⟨i, hi, e⟩ => S.nP0 hi (by rw [e]; exact h))]
  exact S.rs.dom b (.inl h)
theorem SI.same0 (S : SI P₀ H₀ O pf σ H δ) : Same H₀ (VS.unown O pf H) := fun b o h => by
  unfold VS.unown
  rw [lim_in (fun ⟨i, hi, e⟩ => by rw [← e, S.fresh i hi] at h; cases h)]
  exact S.ex b o h
theorem SI.back {H1 : Hp} {pf' : Nat → Addr} (S : SI P₀ H1 O' pf' σ H δ) (e : Same H₀ H1) (d0 : ∀ b, P₀ b → H₀ b ≠ none) : SI P₀ H₀ O' pf' σ H δ := ⟨S.rs, e.trans S.ex, fun i hi => e.free (S.fresh i hi), S.inj, d0⟩
end
section
variable {ι : Type} {X : Cxs ι} {O O1 O2 Ob js : List Nat} {tg iter e a b c : Expr} {es : List Expr} {g ga gb gc : Ev → Option D} {gs : Ev → Option (List D)} {pos : Pos} {k : Nat} {st : Stmt} {rest body orelse : List Stmt} {F G : Ev → Option Out}
theorem es_for {wi : TI} {tb : TS} {t : TG} {its : Ev → Option (List D)} {bd : D → Ev → Option Ev} (hi : EI O wi its) (hg : EG O js t bd) (hb : ES O O O tb F) : ES O O Ob (tFor wi t tb) (sFor its bd F) := fun P₀ H₀ pf σ H δ Dn r S hF k => by
  obtain ⟨ds, hds, hF⟩ := bind_some hF
  refine hi _ pf σ H δ ds _ S.rs hds fun J H1 e1 ok => ?_
  have S1 := S.same e1
  have U := S1.unown
  have sU : Same (lim (PO' P₀ O pf) H1) (VS.unown O pf H1) := fun b o h => by
    obtain ⟨nb, hb⟩ := lim_some h
    unfold VS.unown
    rw [lim_in (fun z => nb (.inr z))]
    exact hb
  refine ⟨fun i m σ H => m = ds.length - i ∧ i ≤ ds.length ∧ ∃ pf' δ, SI P₀ (VS.unown O pf H1) O pf' σ H δ ∧ forL bd F (ds.drop i) δ = some r, ⟨_, rfl, Nat.zero_le _, pf, δ, U, hF⟩, ?_⟩
  rintro i m σ' H' ⟨rfl, hil, pf', δ', S', hL⟩
  have s1 : Same (lim (PO' P₀ O pf) H1) H' := sU.trans S'.ex
  have s2 : Same (lim (PO' P₀ O pf) H1) (lim (PO' P₀ O pf') H') := fun b o h => by
    obtain ⟨nb, _⟩ := lim_some h
    rw [lim_in ?_]
    · exact s1 b o h
    · rintro (z | ⟨j, hj, ej⟩)
      · exact nb (.inl z)
      · have f := S'.fresh j hj
        rw [ej, sU b o h] at f
        cases f
  have back : ∀ {pf2 : Nat → Addr} {σ2 : L2.St} {H2 : Hp} {δ2 : Ev}, SI P₀ (VS.unown O pf H1) O pf2 σ2 H2 δ2 → SI P₀ H₀ O pf2 σ2 H2 δ2 := fun s => s.back S1.same0 S.d0
  obtain ⟨ok1, ok2⟩ := ok H' s1 i
  by_cases hlt : i < ds.length
  · right
    obtain ⟨g1, y1⟩ := ok1 ds[i] (List.getElem?_eq_getElem hlt)
    rw [List.drop_eq_getElem_cons hlt] at hL
    obtain ⟨δ1, hb1, hL⟩ := bind_some hL
    obtain ⟨o, ho, hL⟩ := bind_some hL
    refine ⟨g1, fun σ3 H3 => ∃ pf' δ, SI P₀ (VS.unown O pf H1) O pf' σ3 H3 δ ∧ forL bd F (ds.drop (i + 1)) δ = some r, fun σ3 H3 ⟨p3, d3, s3, l3⟩ => ⟨ds.length - (i + 1), by omega, rfl, hlt, p3, d3, s3, l3⟩, fun x H2 hy => ?_⟩
    obtain ⟨e2, rx⟩ := y1 x H2 hy
    have rx := rx (PO' P₀ O pf') S'.rs.dom s2
    have S2 := S'.same e2
    refine hg _ pf' σ' H2 δ' δ1 x _ _ S2.rs rx hb1 fun σ3 R3 _ => ?_
    have S3 : SI P₀ (VS.unown O pf H1) O pf' σ3 H2 δ1 := ⟨R3, S2.ex, S2.fresh, S2.inj, S2.d0⟩
    refine hb P₀ _ pf' σ3 H2 δ1 _ o S3 ho ?_
    cases o with
    | nx δ2 => exact fun pf4 σ4 H4 s4 => ⟨pf4, δ2, s4, hL⟩
    | ct δ2 => exact fun pf4 σ4 H4 s4 => ⟨pf4, δ2, s4, hL⟩
    | bk δ2 =>
      cases hL
      exact fun pf4 σ4 H4 s4 => k pf4 σ4 H4 (back s4)
    | ret d =>
      cases hL
      exact fun v H4 e4 r4 => k v H4 (S1.same0.trans e4) r4
  · left
    refine ⟨ok2 (by omega), ?_⟩
    rw [List.drop_eq_nil_of_le (by omega)] at hL
    cases hL
    exact k pf' σ' H' (back S')
theorem qs_for {its : Ev → Option (List D)} {bd : D → Ev → Option Ev} (hi : QI X O tg iter its) (hg : QG X O js tg bd) (hb : QSs X O O O body F) (hp : ∀ i, PassesOwn (model (X i).prog (X i).w) (X i).A (X i).env (X i).xe := by intro _; exact PassesOwn.never) (hc : ∀ i, (X i).calm = true := by intro _; rfl) (hs : ∀ i x, foldedSetIterable iter (X i).env x = pure x := by intro _ _; rfl) : QS X O O Ob (.For tg iter body [] pos) (sFor its bd F) := by
  obtain ⟨wi, pi, ei⟩ := hi
  obtain ⟨t, pt, et⟩ := hg
  obtain ⟨tb, pb, eb⟩ := hb
  exact ⟨_, fun i => ps_for (hp i) (hc i) (pi i) (pt i) (pb i) (hs i), es_for ei et eb⟩
/-! ### while -/
def whileF (c : Ev → Option Bool) (F : Ev → Option Out) : Nat → Ev → Option Out
  | 0, _ => none
  | n + 1, δ => (c δ).bind fun b => if b = true then (F δ).bind fun o => match o with
      | .nx δ2 => whileF c F n δ2
      | .ct δ2 => whileF c F n δ2
      | .bk δ2 => some (.nx δ2)
      | .ret d => some (.ret d)
    else some (.nx δ)
theorem es_while {tc : TT} {tb : TS} {gt : Ev → Option Bool} (n : Nat) (hc : ET O tc gt) (hb : ES O O O tb F) : ES O O Ob (tWhile tc tb) (whileF gt F n) := fun P₀ H₀ pf σ H δ Dn r S hF k => by
  refine ⟨fun m σ H => ∃ pf δ, SI P₀ H₀ O pf σ H δ ∧ whileF gt F m δ = some r, ⟨n, pf, δ, S, hF⟩, ?_⟩
  rintro m σ' H' ⟨pf', δ', S', hL⟩
  cases m with
  | zero => cases hL
  | succ m =>
    obtain ⟨x, hx, hL⟩ := bind_some hL
    refine hc _ pf' σ' H' δ' x _ S'.rs hx fun H1 e1 => ?_
    have S1 := S'.same e1
    cases x with
    | false =>
      rw [if_neg (by decide)] at hL ⊢
      cases hL
      exact k pf' σ' H1 S1
    | true =>
      rw [if_pos rfl] at hL ⊢
      obtain ⟨o, ho, hL⟩ := bind_some hL
      refine ⟨fun σ3 H3 => ∃ pf' δ, SI P₀ H₀ O pf' σ3 H3 δ ∧ whileF gt F m δ = some r, fun σ3 H3 z => ⟨m, Nat.lt_succ_self m, z⟩, ?_⟩
      refine hb P₀ H₀ pf' σ' H1 δ' _ o S1 ho ?_
      cases o with
      | nx δ2 => exact fun pf4 σ4 H4 s4 => ⟨pf4, δ2, s4, hL⟩
      | ct δ2 => exact fun pf4 σ4 H4 s4 => ⟨pf4, δ2, s4, hL⟩
      | bk δ2 =>
        cases hL
        exact k
      | ret d =>
        cases hL
        exact k
theorem qs_while {gt : Ev → Option Bool} (n : Nat) (hc : QT X O c gt) (hb : QSs X O O O body F) (hp : ∀ i, PassesOwn (model (X i).prog (X i).w) (X i).A (X i).env (X i).xe := by intro _; exact PassesOwn.never) : QS X O O Ob (.While c body [] pos) (whileF gt F n) := by
  obtain ⟨tc, pc, ec⟩ := hc
  obtain ⟨tb, pb, eb⟩ := hb
  exact ⟨_, fun i => ps_while (hp i) (pc i) (pb i), es_while n ec eb⟩
end
/-! ### list comprehensions -/
def compL (bd : D → Ev → Option Ev) (c : Ev → Option Bool) (e : Ev → Option D) (δw : Ev) : List D → Option (List D)
  | [] => some []
  | d :: r => (bd d δw).bind fun δ1 => (c δ1).bind fun k => if k = true then (e δ1).bind fun y => (compL bd c e δw r).bind fun l => some (y :: l) else compL bd c e δw r
def gLc (its : Ev → Option (List D)) (bd : D → Ev → Option Ev) (c : Ev → Option Bool) (e : Ev → Option D) (vs : List Nat) : Ev → Option D := fun δ => (its δ).bind fun ds => if ds.length ≤ 1000000 then (compL bd c e (wipeE δ vs) ds).bind fun l => some (.lst l) else none
/-- the block of a comprehension -/
abbrev Blk {ι : Type} (X : Cxs ι) (scope : Scope) : Cxs (ι × Shared × Hp × Addr × List (Str × Addr) × List Addr) := fun q => (X q.1).blk q.2.1 q.2.2.1 scope (compEnvC scope q.2.2.2.2.1 q.2.2.2.1 (X q.1).env) q.2.2.2.2.2
def QTs {ι : Type} (X : Cxs ι) (O : List Nat) (es : List Expr) (g : Ev → Option Bool) : Prop := ∃ t, (∀ i, PTs (X i) es t) ∧ ET O t g
def cYes : Ev → Option Bool := fun _ => some true
section
variable {ι : Type} {X : Cxs ι} {O js : List Nat} {tg iter e elt c : Expr} {ifs : List Expr} {g : Ev → Option D} {gc : Ev → Option Bool} {its : Ev → Option (List D)} {bd : D → Ev → Option Ev} {pos : Pos} {scope : Scope}
theorem qts_nil : QTs X O [] cYes := ⟨_, fun _ => pts_nil, fun P pf σ H δ b Q R hg k => by cases hg; exact k H (Same.refl H)⟩
theorem qts_one (h : QT X O c gc) : QTs X O [c] gc := by
  obtain ⟨t, p, q⟩ := h
  exact ⟨_, fun i => pts_one (p i), q⟩
theorem RS.grow {P : Ow0} {pf : Nat → Addr} {σ : L2.St} {H1 H : Hp} {δ : Ev} {A : Addr} (R : RS O P pf σ H1 δ) (e : Same H1 H) (nA : H1 A = none) (hA : H A ≠ none) : RS O (fun b => P b ∨ b = A) pf σ H δ := by
  have s : Same (lim P H1) (lim (fun b => P b ∨ b = A) H) := fun b o h => by
    obtain ⟨nb, hb⟩ := lim_some h
    have ne : b ≠ A := ne_of_none hb nA
    rw [lim_in (fun z => z.elim nb ne)]
    exact e b o hb
  refine ⟨R.len, fun b h => ?_, fun i hi => ?_, fun i d hi h n => ?_⟩
  · rcases h with h | h
    · rw [same_eq e (R.dom b h)]; exact R.dom b h
    · rw [h]; exact hA
  · obtain ⟨p, h, d, h1, h2⟩ := R.own i hi
    exact ⟨.inl p, h, d, h1, h2.ex s (same_eq e h2.there)⟩
  · obtain ⟨v, h1, h2⟩ := R.frz i d hi h n
    exact ⟨v, h1, h2.ex s⟩
theorem lim_updA {P : Ow0} {H : Hp} {A : Addr} {o : HO} : lim (fun b => P b ∨ b = A) (upd H A o) = lim (fun b => P b ∨ b = A) H := funext fun b => by
  by_cases z : P b ∨ b = A
  · rw [lim_no (P := fun b => P b ∨ b = A) z, lim_no (P := fun b => P b ∨ b = A) z]
  · rw [lim_in (P := fun b => P b ∨ b = A) z, lim_in (P := fun b => P b ∨ b = A) z, upd_ne (fun e => z (.inr e))]
theorem ef_lc {wi : TI} {t : TG} {tt : TT} {te : TE} {vs : List Nat} (hv : vs.all (fun v => !O.contains v) = true) (hj : js.all (fun j => vs.contains j) = true) (hi : EI O wi its) (hg : EG O js t bd) (ht : ET O tt gc) (he : EP O te g) : EF O (tLc wi t tt te vs) (gLc its bd gc g vs) := fun P pf σ H δ d Q R hG k => by
  obtain ⟨ds, hds, hG⟩ := bind_some hG
  split at hG
  · rename_i hlen
    obtain ⟨res, hres, hG⟩ := bind_some hG
    cases hG
    refine hi P pf σ H δ ds _ R hds fun J H1 e1 ok A nA => ?_
    have hv' : ∀ v ∈ vs, v ∉ O := fun v h => nmem_of (by simpa using List.all_eq_true.mp hv v h)
    have hj' : ∀ j ∈ js, j ∈ vs := fun j h => List.contains_iff_mem.mp (List.all_eq_true.mp hj j h)
    have R1 : RS O P pf (L2.wipe σ vs) H1 (wipeE δ vs) := (R.same e1).wipe hv'
    refine ⟨fun i m H' => m = ds.length - i ∧ i ≤ ds.length ∧ Same H1 H' ∧ ∃ acc accd restd, H' A = some (.lst acc) ∧ Rps (lim (fun b => P b ∨ b = A) H') acc accd ∧ acc.length ≤ i ∧ compL bd gc g (wipeE δ vs) (ds.drop i) = some restd ∧ accd ++ restd = res,
      ⟨_, rfl, Nat.zero_le _, same_new nA, [], [], res, upd_same, .nil, Nat.le_refl _, hres, rfl⟩, ?_⟩
    rintro i m H' ⟨rfl, hil, sm, acc, accd, restd, hA, ra, hal, hc, hap⟩
    have s1 : Same (lim P H1) H' := lim_le.trans sm
    have hA' : H' A ≠ none := by rw [hA]; exact fun z => by cases z
    have R' := R1.grow sm nA hA'
    have s2 : Same (lim P H1) (lim (fun b => P b ∨ b = A) H') := fun b o h => by
      obtain ⟨nb, hb⟩ := lim_some h
      have ne : b ≠ A := ne_of_none hb nA
      rw [lim_in (fun z => z.elim nb ne)]
      exact sm b o hb
    obtain ⟨ok1, ok2⟩ := ok H' s1 i
    by_cases hlt : i < ds.length
    · right
      obtain ⟨g1, y1⟩ := ok1 ds[i] (List.getElem?_eq_getElem hlt)
      rw [List.drop_eq_getElem_cons hlt] at hc
      obtain ⟨δ1, hb1, hc⟩ := bind_some hc
      obtain ⟨x, hx, hc⟩ := bind_some hc
      refine ⟨g1, fun H3 => Same H1 H3 ∧ ∃ acc accd restd, H3 A = some (.lst acc) ∧ Rps (lim (fun b => P b ∨ b = A) H3) acc accd ∧ acc.length ≤ i + 1 ∧ compL bd gc g (wipeE δ vs) (ds.drop (i + 1)) = some restd ∧ accd ++ restd = res,
        fun H3 h3 => ⟨ds.length - (i + 1), by omega, rfl, hlt, h3⟩, fun y H2 hy => ?_⟩
      obtain ⟨e2, rx⟩ := y1 y H2 hy
      have rx := rx (fun b => P b ∨ b = A) R'.dom s2
      refine hg _ pf _ H2 _ δ1 y _ _ (R'.same e2) rx hb1 fun σ3 R3 w3 => ⟨?_, ?_⟩
      · rw [w3 vs hj', wipe_wipe fun u hu => hu]
      · refine ht _ pf σ3 H2 δ1 x _ R3 hx fun H3 e3 => ?_
        have e23 := e2.trans e3
        cases x with
        | true =>
          rw [if_pos rfl] at hc ⊢
          obtain ⟨z, hz, hc⟩ := bind_some hc
          obtain ⟨l, hl, hc⟩ := bind_some hc
          cases hc
          refine he _ pf σ3 H3 δ1 z _ (R3.same e3) hz fun v H4 e4 r4 => ?_
          have e24 := e23.trans e4
          have hA4 : H4 A = some (.lst acc) := e24 A _ hA
          refine ⟨acc, hA4, by rw [sizeLine_eq]; omega, fun b o hb => ?_, acc ++ [v], accd ++ [z], l, upd_same, ?_, by rw [List.length_append, List.length_singleton]; omega, hl, by rw [List.append_assoc]; exact hap⟩
          · rw [upd_ne (ne_of_none hb nA)]
            exact e24 b o (sm b o hb)
          · rw [lim_updA]
            exact (ra.ex (lim_same e24)).append (.cons r4 .nil)
        | false =>
          rw [if_neg (by decide)] at hc ⊢
          exact ⟨sm.trans e23, acc, accd, restd, e23 A _ hA, ra.ex (lim_same e23), by omega, hc, hap⟩
    · left
      refine ⟨ok2 (by omega), ?_⟩
      rw [List.drop_eq_nil_of_le (by omega)] at hc
      cases hc
      rw [List.append_nil] at hap
      subst hap
      exact k A H' (e1.free nA) (e1.trans sm) (.lst hA ra)
  · cases hG
theorem qf_lc (own : List (Str × Nat)) (hi : QI X O tg iter its) (hg : QG (Blk X scope) O js tg bd) (ht : QTs (Blk X scope) O ifs gc) (he : QE (Blk X scope) O elt g) {N : List Str} {sc : Scope} (hN : ∀ i, (X i).N.Nodup) (ok : blkC N sc scope own = true) (hXN : ∀ i, (X i).N = N := by intro _; rfl) (hXs : ∀ i, (X i).env.scope = sc := by intro _; rfl) (hc : ∀ i, (X i).calm = true := by intro _; rfl)
    (hv : (own.map (·.2)).all (fun v => !O.contains v) = true := by rfl) (hj : js.all (fun j => (own.map (·.2)).contains j) = true := by rfl) (hs : ∀ i x, foldedSetIterable iter (X i).env x = pure x := by intro _ _; rfl) : QF X O (.ListComp elt [⟨tg, iter, ifs, 0⟩] scope pos) (gLc its bd gc g (own.map (·.2))) := by
  obtain ⟨wi, pi, ei⟩ := hi
  obtain ⟨t, pt, et⟩ := hg
  obtain ⟨tt, ptt, ett⟩ := ht
  obtain ⟨te, pe, ee⟩ := he
  exact ⟨_, fun i => pe_lc (hc i) (hN i) (pi i) (blkOk_by (by rw [hXN i, hXs i]; exact ok)) (fun s H C cl fp => pt (i, s, H, C, cl, fp)) (fun s H C cl fp => ptt (i, s, H, C, cl, fp)) (fun s H C cl fp => pe (i, s, H, C, cl, fp)) (hs i), ef_lc hv hj ei et ett ee⟩
/-- x = [..] on one line, x a local: x owns it -/
theorem qs_ownLc {Ob : List Nat} {px spos : Pos} (i : Nat) {x : Str} (own : List (Str × Nat)) (hi : QI X O tg iter its) (hg : QG (Blk X scope) O js tg bd) (ht : QTs (Blk X scope) O ifs gc) (he : QE (Blk X scope) O elt g) {N : List Str} {sc : Scope} (hN : ∀ i, (X i).N.Nodup) (ok : blkC N sc scope own = true) (hXN : ∀ i, (X i).N = N := by intro _; rfl) (hXs : ∀ i, (X i).env.scope = sc := by intro _; rfl)
    (hx : ∀ k, (X k).N[i]? = some x := by intro _; rfl) (hl : ∀ k, (X k).env.scope.names.lookup x = some .local := by intro _; rfl) (hO : O.contains i = false := by rfl)
    (hsw : ∀ k, swapsWith (.ListComp elt [⟨tg, iter, ifs, 0⟩] scope pos) (some (.Name x px)) spos.line (X k).env = pure true := by intro _; exact sw_true rfl rfl rfl (by decide +kernel)) (hc : ∀ i, (X i).calm = true := by intro _; rfl)
    (hv : (own.map (·.2)).all (fun v => !O.contains v) = true := by rfl) (hj : js.all (fun j => (own.map (·.2)).contains j) = true := by rfl) (hs : ∀ i x, foldedSetIterable iter (X i).env x = pure x := by intro _ _; rfl) : QS X O (i :: O) Ob (.Assign [.Name x px] (.ListComp elt [⟨tg, iter, ifs, 0⟩] scope pos) spos) (sOwn i (gLc its bd gc g (own.map (·.2)))) := by
  obtain ⟨wi, pi, ei⟩ := hi
  obtain ⟨t, pt, et⟩ := hg
  obtain ⟨tt, ptt, ett⟩ := ht
  obtain ⟨te, pe, ee⟩ := he
  exact ⟨_, fun k => ps_setLc (hc k) (hN k) (hx k) (hl k) (hsw k) (pi k) (blkOk_by (by rw [hXN k, hXs k]; exact ok)) (fun s H C cl fp => pt (k, s, H, C, cl, fp)) (fun s H C cl fp => ptt (k, s, H, C, cl, fp)) (fun s H C cl fp => pe (k, s, H, C, cl, fp)) (hs k), es_own hO (ef_lc hv hj ei et ett ee)⟩
end
end VS
namespace VS
open PySem PySem.Spec PyProof.Rows L2
section
variable {ι : Type} {X : Cxs ι} {O O1 O2 Ob js : List Nat} {tg iter e a b c : Expr} {es : List Expr} {g ga gb gc : Ev → Option D} {gs : Ev → Option (List D)} {pos p : Pos} {k : Nat} {st : Stmt} {rest body orelse : List Stmt} {F G : Ev → Option Out} {K : PySem.W.Frag}
/-! ### assignments -/
def sAsg (g : Ev → Option D) (b : D → Ev → Option Ev) : Ev → Option Out := fun δ => (g δ).bind fun d => (b d δ).bind fun δ' => some (.nx δ')
theorem qs_asg {bd : D → Ev → Option Ev} (he : QE X O e g) (hg : QG X O js tg bd) (hs : ∀ k, swapsWithSole [tg] e pos.line (X k).env = pure false := by intro _; rfl) (hw : ∀ k, swappedStores [tg] e (X k).env = pure none := by intro _; rfl)
    (h1 : ∀ k, (assignEach [tg] (X k).env).map (·.2) = [assign tg (X k).env] := by intro _; rfl) : QS X O O Ob (.Assign [tg] e pos) (sAsg g bd) := by
  obtain ⟨t, p, q⟩ := he
  obtain ⟨u, pu, eu⟩ := hg
  refine ⟨_, fun k => ps_asg (p k) (pu k) (hs k) (hw k) (h1 k), fun P₀ H₀ pf σ H δ Dn r S hF k => ?_⟩
  obtain ⟨d, hd, hF⟩ := bind_some hF
  obtain ⟨δ', hδ, hF⟩ := bind_some hF
  cases hF
  refine q _ pf σ H δ d _ S.rs hd fun v H' e r => ?_
  have S' := S.same e
  exact eu _ pf σ H' δ δ' v d _ S'.rs r hδ fun σ' R' _ => k pf σ' H' ⟨R', S'.ex, S'.fresh, S'.inj, S'.d0⟩
def sPar2 (i j : Nat) (ga gb : Ev → Option D) : Ev → Option Out := fun δ => (ga δ).bind fun a => (gb δ).bind fun b => some (.nx ((δ.set i a).set j b))
theorem qs_par2 (i j : Nat) {x y : Str} {px py pt : Pos} {kt k2 pt2} (ha : QE X O a ga) (hb : QE X O b gb) (hN : ∀ k, (X k).N.Nodup) (hi : ∀ k, (X k).N[i]? = some x := by intro _; rfl) (hj : ∀ k, (X k).N[j]? = some y := by intro _; rfl) (hij : i ≠ j := by decide)
    (hx : ∀ k, (X k).env.scope.names.lookup x = some .local := by intro _; rfl) (hy : ∀ k, (X k).env.scope.names.lookup y = some .local := by intro _; rfl) (hiO : O.contains i = false := by rfl) (hjO : O.contains j = false := by rfl)
    (hw : ∀ k, swappedStores [.Tuple [.Name x px, .Name y py] kt pt] (.Tuple [a, b] k2 pt2) (X k).env = pure (some [x, y]) := by intro _; rfl)
    (hs : ∀ k, swapsWithSole [.Tuple [.Name x px, .Name y py] kt pt] (.Tuple [a, b] k2 pt2) pos.line (X k).env = pure false := by intro _; rfl) (hc : ∀ i, (X i).calm = true := by intro _; rfl)
    (h1 : ∀ i, starEach [a, b] (X i).env = (false, eval a (X i).env) :: starEach [b] (X i).env := by intro _; rfl) (h2 : ∀ i, starEach [b] (X i).env = (false, eval b (X i).env) :: starEach [] (X i).env := by intro _; rfl) :
    QS X O O Ob (.Assign [.Tuple [.Name x px, .Name y py] kt pt] (.Tuple [a, b] k2 pt2) pos) (sPar2 i j ga gb) := by
  obtain ⟨ta, pa, ea⟩ := ha
  obtain ⟨tb, pb, eb⟩ := hb
  refine ⟨_, fun k => ps_par (hc k) (hN k) (hi k) (hj k) hij (hx k) (hy k) (pa_cons (pa k) (pa_cons (pb k) pa_nil (h2 k)) (h1 k)) (hw k) (hs k), fun P₀ H₀ pf σ H δ Dn r S hF k => ?_⟩
  obtain ⟨d, hd, hF⟩ := bind_some hF
  obtain ⟨d', hd', hF⟩ := bind_some hF
  cases hF
  refine ea _ pf σ H δ d _ S.rs hd fun v H1 e1 r1 => ?_
  have S1 := S.same e1
  refine eb _ pf σ H1 δ d' _ S1.rs hd' fun v' H2 e2 r2 => ?_
  have S2 := S1.same e2
  exact ⟨v, v', rfl, k pf _ H2 ((S2.set (nmem_of hiO) (r1.ex (lim_same e2))).set (nmem_of hjO) r2)⟩
def sPar3 (i j l : Nat) (ga gb gc : Ev → Option D) : Ev → Option Out := fun δ => (ga δ).bind fun a => (gb δ).bind fun b => (gc δ).bind fun c => some (.nx (((δ.set i a).set j b).set l c))
theorem qs_par3 (i j l : Nat) {x y z : Str} {px py pz pt : Pos} {kt k2 pt2} (ha : QE X O a ga) (hb : QE X O b gb) (hc' : QE X O c gc) (hN : ∀ k, (X k).N.Nodup) (hi : ∀ k, (X k).N[i]? = some x := by intro _; rfl) (hj : ∀ k, (X k).N[j]? = some y := by intro _; rfl) (hl : ∀ k, (X k).N[l]? = some z := by intro _; rfl) (hij : i ≠ j := by decide) (hil : i ≠ l := by decide) (hjl : j ≠ l := by decide)
    (hx : ∀ k, (X k).env.scope.names.lookup x = some .local := by intro _; rfl) (hy : ∀ k, (X k).env.scope.names.lookup y = some .local := by intro _; rfl) (hz : ∀ k, (X k).env.scope.names.lookup z = some .local := by intro _; rfl) (hiO : O.contains i = false := by rfl) (hjO : O.contains j = false := by rfl) (hlO : O.contains l = false := by rfl)
    (hw : ∀ k, swappedStores [.Tuple [.Name x px, .Name y py, .Name z pz] kt pt] (.Tuple [a, b, c] k2 pt2) (X k).env = pure (some [x, y, z]) := by intro _; rfl)
    (hs : ∀ k, swapsWithSole [.Tuple [.Name x px, .Name y py, .Name z pz] kt pt] (.Tuple [a, b, c] k2 pt2) pos.line (X k).env = pure false := by intro _; rfl) (hc : ∀ i, (X i).calm = true := by intro _; rfl)
    (h1 : ∀ i, starEach [a, b, c] (X i).env = (false, eval a (X i).env) :: starEach [b, c] (X i).env := by intro _; rfl) (h2 : ∀ i, starEach [b, c] (X i).env = (false, eval b (X i).env) :: starEach [c] (X i).env := by intro _; rfl) (h3 : ∀ i, starEach [c] (X i).env = (false, eval c (X i).env) :: starEach [] (X i).env := by intro _; rfl) :
    QS X O O Ob (.Assign [.Tuple [.Name x px, .Name y py, .Name z pz] kt pt] (.Tuple [a, b, c] k2 pt2) pos) (sPar3 i j l ga gb gc) := by
  obtain ⟨ta, pa, ea⟩ := ha
  obtain ⟨tb, pb, eb⟩ := hb
  obtain ⟨tc, pc, ec⟩ := hc'
  refine ⟨_, fun k => ps_par3 (hc k) (hN k) (hi k) (hj k) (hl k) hij hil hjl (hx k) (hy k) (hz k) (pa_cons (pa k) (pa_cons (pb k) (pa_cons (pc k) pa_nil (h3 k)) (h2 k)) (h1 k)) (hw k) (hs k), fun P₀ H₀ pf σ H δ Dn r S hF k => ?_⟩
  obtain ⟨d, hd, hF⟩ := bind_some hF
  obtain ⟨d', hd', hF⟩ := bind_some hF
  obtain ⟨d2, hd2, hF⟩ := bind_some hF
  cases hF
  refine ea _ pf σ H δ d _ S.rs hd fun v H1 e1 r1 => ?_
  have S1 := S.same e1
  refine eb _ pf σ H1 δ d' _ S1.rs hd' fun v' H2 e2 r2 => ?_
  have S2 := S1.same e2
  refine ec _ pf σ H2 δ d2 _ S2.rs hd2 fun v2 H3 e3 r3 => ?_
  have S3 := S2.same e3
  exact ⟨v, v', v2, rfl, k pf _ H3 (((S3.set (nmem_of hiO) (r1.ex (lim_same (e2.trans e3)))).set (nmem_of hjO) (r2.ex (lim_same e3))).set (nmem_of hlO) r3)⟩
/-! x op= e, x a name -/
def sAug (i : Nat) (f : D → D → Option D) (g : Ev → Option D) : Ev → Option Out := fun δ => (gVar i δ).bind fun x => (g δ).bind fun y => (f x y).bind fun z => some (.nx (δ.set i z))
theorem qs_aug (i : Nat) {op : Operator} {r : R2} {f : D → D → Option D} {x : Str} {px : Pos} (ho : ∀ k, OpR (X k) (inplaceOp op) r) (hr : OpSem r f) (he : QE X O e g) (hN : ∀ k, (X k).N.Nodup) (hi : ∀ k, (X k).N[i]? = some x := by intro _; rfl) (hx : ∀ k, Loc (X k).env.scope x := by intro _; first | exact Or.inl rfl | exact Or.inr rfl) (hiO : O.contains i = false := by rfl)
    (hf : ∀ k, (X k).fn x = true ∨ (X k).env.scope.names.lookup x = some .local := by intro _; first | exact Or.inl rfl | exact Or.inr rfl) : QS X O O Ob (.AugAssign (.Name x px) op e pos) (sAug i f g) := by
  obtain ⟨t, p, q⟩ := he
  refine ⟨_, fun k => ps_aug (hN k) (hi k) (hx k) (p k) (ho k) (hf k), fun P₀ H₀ pf σ H δ Dn r S hF k => ?_⟩
  obtain ⟨x, hx, hF⟩ := bind_some hF
  obtain ⟨y, hy, hF⟩ := bind_some hF
  obtain ⟨z, hz, hF⟩ := bind_some hF
  cases hF
  obtain ⟨h1, h2⟩ := gVar_some hx
  obtain ⟨v, h3, h4⟩ := S.rs.frz i x (nmem_of hiO) h1 h2
  refine ⟨v, h3, q _ pf σ H δ y _ S.rs hy fun u H1 e1 r1 => ?_⟩
  have S1 := S.same e1
  exact hr _ H1 v u x y z _ S1.rs.dom (h4.ex (lim_same e1)) r1 hz fun w H2 e2 r2 => k pf _ H2 ((S1.same e2).set (nmem_of hiO) r2)
def dAddS : D → D → Option D
  | .int i, .int j => some (.int (i + j))
  | .str a, .str b => if a.length + b.length ≤ 16777216 then some (.str (a ++ b)) else none
  | _, _ => none
def rIAdd : R2 := fun x y H Q => rI0 (fun i j => .int (i + j)) x y H Q ∨ rAddS x y H Q
theorem iop_addA {Y : Cx} : OpR Y (inplaceOp .Add) rIAdd := iop_add.or iop_add_str
theorem sem_iadd : OpSem rIAdd dAddS := fun P H x y a b d Q dom rx ry hf k => by
  unfold dAddS at hf
  split at hf
  · cases hf
    exact .inl ⟨_, _, rx.int_inv, ry.int_inv, k _ H (Same.refl H) (.int _)⟩
  · split at hf
    · rename_i hl
      cases hf
      obtain ⟨i, rfl, ei, hi⟩ := rx.str_inv
      obtain ⟨j, rfl, ej, hj⟩ := ry.str_inv
      exact .inr ⟨i, j, rfl, rfl, by rw [sizeLine_eq, tl_tl, tl_tl, ei, ej]; exact hl, k _ H (Same.refl H) (.mkStr' (by rw [tl_app, ei, ej]) (hi.append hj hl))⟩
    · cases hf
  · cases hf
theorem qs_iadd (i : Nat) {x : Str} {px : Pos} (he : QE X O e g) (hN : ∀ k, (X k).N.Nodup) (hi : ∀ k, (X k).N[i]? = some x := by intro _; rfl) (hx : ∀ k, Loc (X k).env.scope x := by intro _; first | exact Or.inl rfl | exact Or.inr rfl) (hiO : O.contains i = false := by rfl)
    (hf : ∀ k, (X k).fn x = true ∨ (X k).env.scope.names.lookup x = some .local := by intro _; first | exact Or.inl rfl | exact Or.inr rfl) : QS X O O Ob (.AugAssign (.Name x px) .Add e pos) (sAug i dAddS g) := qs_aug i (fun _ => iop_addA) sem_iadd he hN hi hx hiO hf
theorem qs_isub (i : Nat) {x : Str} {px : Pos} (he : QE X O e g) (hN : ∀ k, (X k).N.Nodup) (hi : ∀ k, (X k).N[i]? = some x := by intro _; rfl) (hx : ∀ k, Loc (X k).env.scope x := by intro _; first | exact Or.inl rfl | exact Or.inr rfl) (hiO : O.contains i = false := by rfl)
    (hf : ∀ k, (X k).fn x = true ∨ (X k).env.scope.names.lookup x = some .local := by intro _; first | exact Or.inl rfl | exact Or.inr rfl) : QS X O O Ob (.AugAssign (.Name x px) .Sub e pos) (sAug i dSub g) := qs_aug i (fun _ => iop_sub) sem_sub he hN hi hx hiO hf
/-! ### what an owned list undergoes -/
def lstAt (i : Nat) : Ev → Option (List D) := fun δ => match δ[i]? with | some (.lst l) => some l | _ => none
theorem lstAt_some {i : Nat} {δ : Ev} {l : List D} (h : lstAt i δ = some l) : δ[i]? = some (.lst l) := by
  unfold lstAt at h
  split at h
  · rename_i l' e
    cases h
    exact e
  · cases h
theorem SI.lst {P₀ : Ow0} {H₀ H : Hp} {pf : Nat → Addr} {σ : L2.St} {δ : Ev} {i : Nat} {l : List D} (S : SI P₀ H₀ O pf σ H δ) (hi : O.contains i = true) (h : lstAt i δ = some l) : i ∈ O ∧ σ[i]? = some (some (.ref (pf i))) ∧ ∃ vs, H (pf i) = some (.lst vs) ∧ Rps (lim (PO' P₀ O pf) H) vs l := by
  have hi := List.contains_iff_mem.mp hi
  obtain ⟨_, h1, d, h2, o⟩ := S.rs.own i hi
  rw [lstAt_some h] at h2
  cases h2
  refine ⟨hi, h1, ?_⟩
  cases o with
  | lst h r => exact ⟨_, h, r⟩
def sApp (i : Nat) (g : Ev → Option D) : Ev → Option Out := fun δ => (g δ).bind fun d => (lstAt i δ).bind fun l => if l.length < 1000000 then some (.nx (δ.set i (.lst (l ++ [d])))) else none
theorem ow_lim {P : Ow0} {H : Hp} {a : Addr} {o : HO} (ha : P a) : lim P (upd H a o) = lim P H := funext fun b => by
  by_cases z : P b
  · rw [lim_no z, lim_no z]
  · rw [lim_in z, lim_in z, upd_ne (fun e => z (by rw [e]; exact ha))]
theorem qs_append (i : Nat) {x : Str} {px apos : Pos} (he : QE X O e g) (hi : ∀ k, (X k).N[i]? = some x := by intro _; rfl) (hv : ∀ k, Vis (X k).env.scope x := by intro _; first | exact Or.inl rfl | exact Or.inr (Or.inl rfl) | exact Or.inr (Or.inr rfl)) (hiO : O.contains i = true := by rfl)
    (hK : ∀ i, (X i).K = K := by intro _; rfl) (hd : (x == ("__debug__" : Str)) = false := by decide) (hcd : (x == ("__classdict__" : Str)) = false := by decide)
    (hsw : ∀ k, swapsWith (.Call (.Attribute (.Name x px) "append" apos) [e] [] pos) none pos.line (X k).env = pure false := by intro _; rfl)
    (hbase : ∀ k, attributeBase (.Name x px) "append" (X k).env (eval (.Name x px) (X k).env) = eval (.Name x px) (X k).env := by intro _; rfl)
    (hfew : ∀ k, ((backTo pos (starEach [e] (X k).env)).all (fun x => !x.1) && (backToKw pos (keywordEach [] (X k).env)).all (fun x => x.1.isSome) && decide (([e] : List Expr).length + ([] : List Keyword).length + (if ([] : List Keyword).isEmpty then 0 else 1) < 30)) = true := by intro _; rfl)
    (hline : (apos.endLine == pos.line) = true := by rfl) (hst : ∀ k, starEach [e] (X k).env = (false, eval e (X k).env) :: starEach [] (X k).env := by intro _; rfl) (hplain : ∀ k, (backTo pos (starEach [] (X k).env)).any (·.1) = false := by intro _; rfl) :
    QS X O O Ob (.Expr (.Call (.Attribute (.Name x px) "append" apos) [e] [] pos) pos) (sApp i g) := by
  obtain ⟨t, p, q⟩ := he
  refine ⟨tDrop (tBM K "list" rAppend (tVar i) (tCons t tNil)), fun k => by rw [← hK k]; exact ps_expr (pe_bm PySem.F.plainAttrs_list PySem.F.slot_list_append PySem.F.type_list_append mt_append (pe_var (hi k) (hv k) hd hcd) (pa_cons (p k) pa_nil (hst k)) (hbase k) (hfew k) hline (hst k) (hplain k)) (hsw k), fun P₀ H₀ pf σ H δ Dn r S hF k => ?_⟩
  obtain ⟨d, hd, hF⟩ := bind_some hF
  obtain ⟨l, hl, hF⟩ := bind_some hF
  split at hF
  · rename_i hlen
    cases hF
    obtain ⟨hi, h1, vs, h2, h3⟩ := S.lst hiO hl
    refine ⟨_, h1, .inl ⟨rfl, _, SqL.of h2⟩, q _ pf σ H δ d _ S.rs hd fun v H1 e1 r1 => ?_⟩
    have S1 := S.same e1
    refine ⟨_, vs, v, rfl, rfl, e1 _ _ h2, by rw [h3.length, sizeLine_eq]; omega, k pf σ _ (S1.mut hi (.lst upd_same ?_))⟩
    exact (h3.ex (lim_same e1)).append (.cons r1 .nil)
  · cases hF
def sExt (i : Nat) (g : Ev → Option D) : Ev → Option Out := fun δ => (g δ).bind fun d => (toL d).bind fun m => (lstAt i δ).bind fun l => if l.length + m.length < 1000000 then some (.nx (δ.set i (.lst (l ++ m)))) else none
theorem qs_extend (i : Nat) {x : Str} {px apos : Pos} (he : QE X O e g) (hi : ∀ k, (X k).N[i]? = some x := by intro _; rfl) (hv : ∀ k, Vis (X k).env.scope x := by intro _; first | exact Or.inl rfl | exact Or.inr (Or.inl rfl) | exact Or.inr (Or.inr rfl)) (hiO : O.contains i = true := by rfl)
    (hK : ∀ i, (X i).K = K := by intro _; rfl) (hd : (x == ("__debug__" : Str)) = false := by decide) (hcd : (x == ("__classdict__" : Str)) = false := by decide)
    (hsw : ∀ k, swapsWith (.Call (.Attribute (.Name x px) "extend" apos) [e] [] pos) none pos.line (X k).env = pure false := by intro _; rfl)
    (hbase : ∀ k, attributeBase (.Name x px) "extend" (X k).env (eval (.Name x px) (X k).env) = eval (.Name x px) (X k).env := by intro _; rfl)
    (hfew : ∀ k, ((backTo pos (starEach [e] (X k).env)).all (fun x => !x.1) && (backToKw pos (keywordEach [] (X k).env)).all (fun x => x.1.isSome) && decide (([e] : List Expr).length + ([] : List Keyword).length + (if ([] : List Keyword).isEmpty then 0 else 1) < 30)) = true := by intro _; rfl)
    (hline : (apos.endLine == pos.line) = true := by rfl) (hst : ∀ k, starEach [e] (X k).env = (false, eval e (X k).env) :: starEach [] (X k).env := by intro _; rfl) (hplain : ∀ k, (backTo pos (starEach [] (X k).env)).any (·.1) = false := by intro _; rfl) :
    QS X O O Ob (.Expr (.Call (.Attribute (.Name x px) "extend" apos) [e] [] pos) pos) (sExt i g) := by
  obtain ⟨t, p, q⟩ := he
  refine ⟨tDrop (tBM K "list" rExtend (tVar i) (tCons t tNil)), fun k => by rw [← hK k]; exact ps_expr (pe_bm PySem.F.plainAttrs_list PySem.F.slot_list_extend PySem.F.type_list_extend mt_extend (pe_var (hi k) (hv k) hd hcd) (pa_cons (p k) pa_nil (hst k)) (hbase k) (hfew k) hline (hst k) (hplain k)) (hsw k), fun P₀ H₀ pf σ H δ Dn r S hF k => ?_⟩
  obtain ⟨d, hd, hF⟩ := bind_some hF
  obtain ⟨m, hm, hF⟩ := bind_some hF
  obtain ⟨l, hl, hF⟩ := bind_some hF
  split at hF
  · rename_i hlen
    cases hF
    have e := toL_some hm
    subst e
    obtain ⟨hi, h1, vs, h2, h3⟩ := S.lst hiO hl
    refine ⟨_, h1, .inl ⟨rfl, _, SqL.of h2⟩, q _ pf σ H δ _ _ S.rs hd fun v H1 e1 r1 => ?_⟩
    have S1 := S.same e1
    obtain ⟨p, ws, rfl, hp, rp⟩ := r1.lst_inv
    refine ⟨_, p, vs, ws, rfl, rfl, e1 _ _ h2, lim_get hp, by rw [h3.length, rp.length, sizeLine_eq]; omega, k pf σ _ (S1.mut hi (.lst upd_same ?_))⟩
    exact (h3.ex (lim_same e1)).append rp
  · cases hF
/-! x[i] = e of a list -/
def sSetI (i : Nat) (gi g : Ev → Option D) : Ev → Option Out := fun δ => (g δ).bind fun d => (gi δ).bind fun j => (lstAt i δ).bind fun l => (toI j).bind fun z => (ixN l.length z).bind fun n => some (.nx (δ.set i (.lst (l.set n d))))
theorem qs_setI (i : Nat) {ix : Expr} {gi : Ev → Option D} {x : Str} {px ps : Pos} (he : QE X O e g) (hix : QE X O ix gi) (hi : ∀ k, (X k).N[i]? = some x := by intro _; rfl) (hv : ∀ k, Vis (X k).env.scope x := by intro _; first | exact Or.inl rfl | exact Or.inr (Or.inl rfl) | exact Or.inr (Or.inr rfl)) (hiO : O.contains i = true := by rfl)
    (hd : (x == ("__debug__" : Str)) = false := by decide) (hcd : (x == ("__classdict__" : Str)) = false := by decide)
    (hs : ∀ k, swapsWithSole [.Subscript (.Name x px) ix ps] e pos.line (X k).env = pure false := by intro _; rfl) (hw : ∀ k, swappedStores [.Subscript (.Name x px) ix ps] e (X k).env = pure none := by intro _; rfl)
    (h1 : ∀ k, (assignEach [.Subscript (.Name x px) ix ps] (X k).env).map (·.2) = [assign (.Subscript (.Name x px) ix ps) (X k).env] := by intro _; rfl) 
    (hsub : ∀ k {to ti : TE} {t : TSet}, PE (X k) (.Name x px) to → PE (X k) ix ti → PSet (X k) t → PG (X k) (.Subscript (.Name x px) ix ps) (gSub to ti t) := by intro _ _ _ _ h1 h2 h3; exact pg_sub h1 h2 h3) : QS X O O Ob (.Assign [.Subscript (.Name x px) ix ps] e pos) (sSetI i gi g) := by
  obtain ⟨t, p, q⟩ := he
  obtain ⟨ti, pi, qi⟩ := hix
  refine ⟨tAsg t (gSub (tVar i) ti rSetL), fun k => ps_asg (p k) (hsub k (pe_var (hi k) (hv k) hd hcd) (pi k) set_list) (hs k) (hw k) (h1 k), fun P₀ H₀ pf σ H δ Dn r S hF k => ?_⟩
  obtain ⟨d, hd, hF⟩ := bind_some hF
  obtain ⟨j, hj, hF⟩ := bind_some hF
  obtain ⟨l, hl, hF⟩ := bind_some hF
  obtain ⟨z, hz, hF⟩ := bind_some hF
  obtain ⟨n, hn, hF⟩ := bind_some hF
  cases hF
  refine q _ pf σ H δ d _ S.rs hd fun v H1 e1 r1 => ?_
  have S1 := S.same e1
  obtain ⟨hi, h1, vs, h2, h3⟩ := S1.lst hiO hl
  refine ⟨_, h1, qi _ pf σ H1 δ j _ S1.rs hj fun u H2 e2 r2 => ?_⟩
  have S2 := S1.same e2
  have hu : u = .int z := by
    unfold toI at hz
    split at hz
    · cases hz; exact r2.int_inv
    · cases hz
  refine ⟨_, vs, z, n, rfl, hu, e2 _ _ h2, by rw [h3.length]; exact hn, k pf σ _ (S2.mut hi (.lst upd_same ?_))⟩
  exact (h3.ex (lim_same e2)).set (r1.ex (lim_same e2)) n
/-! isinstance -/
def tyD : D → Option String
  | .non => some "NoneType"
  | .bl _ => some "bool"
  | .int _ => some "int"
  | .str _ => some "str"
  | .lst _ => some "list"
  | .tup _ => some "tuple"
  | .dct _ => some "dict"
  | .obj _ => none
  | .bot => none
def isTy (T : String) (d : D) : Option D := match d, T with
  | .int _, "int" => some (.bl true)
  | .bl _, "int" => some (.bl true)
  | .bl _, "bool" => some (.bl true)
  | .str _, "str" => some (.bl true)
  | .lst _, "list" => some (.bl true)
  | .tup _, "tuple" => some (.bl true)
  | .non, "int" | .str _, "int" | .lst _, "int" | .tup _, "int" => some (.bl false)
  | .non, "bool" | .int _, "bool" | .str _, "bool" | .lst _, "bool" | .tup _, "bool" => some (.bl false)
  | .non, "str" | .int _, "str" | .bl _, "str" | .lst _, "str" | .tup _, "str" => some (.bl false)
  | .non, "tuple" | .int _, "tuple" | .bl _, "tuple" | .lst _, "tuple" | .str _, "tuple" => some (.bl false)
  | _, _ => none
theorem rp_ty {F H : Hp} (e : Same F H) {v : V} {d : D} {T : String} (r : Rp F v d) (h : tyD d = some T) : ∀ K, TyX K H v (.type T) := by
  cases r with
  | non => cases h; exact fun K => .base .non
  | bl b => cases h; exact fun K => .base (.bl b)
  | int i => cases h; exact fun K => .base (.int i)
  | str x _ => cases h; exact fun K => .base (.str x)
  | obj a => cases h
  | tup q _ => cases h; exact fun K => .base (.tup (e _ _ q))
  | lst q _ => cases h; exact fun K => .base (.lst (e _ _ q))
  | dK q _ => cases h; exact fun K => .base (.dK (e _ _ q))
  | dT q _ => cases h; exact fun K => .base (.dT (e _ _ q))
theorem isTy_kit {T : String} {d z : D} (h : isTy T d = some z) : ∃ k S, z = .bl k ∧ tyD d = some S ∧ kitB S T = some k := by
  unfold isTy at h
  split at h <;> first | (cases h; done) | (cases h; exact ⟨_, _, rfl, rfl, by decide +kernel⟩)
theorem q_isinst (T : String) {x : Str} {px : Pos} (he : QE X O e g) (hbt : bootBuiltins x = some (.type T)) (hm : ∀ i, (X i).mg "isinstance" = none) (hmx : ∀ i, (X i).mg x = none)
    (hg : ∀ i, Gl (X i) "isinstance" := by intro _; rfl) (hgx : ∀ i, Gl (X i) x := by intro _; rfl) (hn : x ≠ "__name__" := by decide) (hdb : (x == ("__debug__" : Str)) = false := by decide)
    (h1 : ∀ i, starEach [e, .Name x px] (X i).env = (false, eval e (X i).env) :: starEach [.Name x px] (X i).env := by intro _; rfl) (h2 : ∀ i, starEach [.Name x px] (X i).env = (false, eval (.Name x px) (X i).env) :: starEach [] (X i).env := by intro _; rfl)
    (hpl : ∀ i, (backTo pos (starEach [.Name x px] (X i).env)).any (·.1) = false := by intro _; rfl) : QE X O (.Call (.Name "isinstance" p) [e, .Name x px] [] pos) (g1 (isTy T) g) := by
  obtain ⟨t, pa, q⟩ := he
  refine ⟨tCB (fun vs H Q => ∀ K, rIsi K vs H Q) (tCons t (tCons (tC (.ty T)) tNil)), fun i => pe_callB (CallR.allK (r := rIsi) call_isi) (hg i) (hm i) PyProof.Rows.boot_isinstance (pa_cons (pa i) (pa_cons (pe_bltn (hgx i) (hmx i) hbt rfl hn hdb) pa_nil (h2 i)) (h1 i)) (by decide) (by decide) (h1 i) (hpl i), fun P pf σ H δ d Q R hg k => ?_⟩
  obtain ⟨y, hy, hg⟩ := bind_some hg
  refine q P pf σ H δ y _ R hy fun v H1 e1 r1 => fun K => ?_
  obtain ⟨kb, S, rfl, hS, hk⟩ := isTy_kit hg
  have ty := rp_ty lim_le r1 hS
  exact ⟨v, .ty T, .type S, .type T, kb, rfl, .ty T, ty K, kit_ty hk, k _ H1 e1 (.bl _)⟩
/-! tuple(x), list(x) -/
def fTuple : List D → Option D
  | [.lst l] => some (.tup l)
  | [.tup l] => some (.tup l)
  | _ => none
def rTupleOf (K : PySem.W.Frag) : List V → Hp → VK → Prop := fun xs H Q => ∃ p ys, xs = [.ref p] ∧ ((SqL K H p ys ∧ ∀ l, H l = none → Q (.ref l) (upd H l (.tup ys))) ∨ (SqT K H p ys ∧ Q (.ref p) H))
theorem sem_tuple : CallSem (fun vs H Q => ∀ K, rTupleOf K vs H Q) fTuple := fun P H vs ds d Q dom rs hf k K => by
  unfold fTuple at hf
  split at hf
  · cases hf
    obtain ⟨v, rfl, r⟩ := rs.one
    obtain ⟨p, vs, rfl, hp, rp⟩ := r.lst_inv
    exact ⟨p, vs, rfl, .inl ⟨SqL.of hp, fun l hl => k _ _ (same_new hl) (rp_newT dom hl rp)⟩⟩
  · cases hf
    obtain ⟨v, rfl, r⟩ := rs.one
    obtain ⟨p, vs, rfl, hp, hp', rp⟩ := r.tup_inv
    exact ⟨p, vs, rfl, .inr ⟨SqT.of hp, k _ H (Same.refl H) (.tup hp' rp)⟩⟩
  · cases hf
def fList : List D → Option D
  | [.lst l] => some (.lst l)
  | [.tup l] => some (.lst l)
  | _ => none
def rListOf (K : PySem.W.Frag) : List V → Hp → VK → Prop := fun xs H Q => ∃ p ys, xs = [.ref p] ∧ (SqL K H p ys ∨ SqT K H p ys) ∧ ∀ l, H l = none → Q (.ref l) (upd H l (.lst ys))
/-- a call that gives a new thing -/
def CallSemF (r : List V → Hp → VK → Prop) (f : List D → Option D) : Prop := ∀ (P : Ow0) (H : Hp) (vs : List V) (ds : List D) (d : D) (Q : VK), (∀ b, P b → H b ≠ none) → Bps P H vs ds → f ds = some d →
  (∀ p H', H p = none → Same H H' → Ow (lim (fun b => P b ∨ b = p) H') H' p d → Q (.ref p) H') → r vs H Q
theorem sem_list : CallSemF (fun vs H Q => ∀ K, rListOf K vs H Q) fList := fun P H vs ds d Q dom rs hf k K => by
  unfold fList at hf
  split at hf
  · cases hf
    obtain ⟨v, rfl, r⟩ := rs.one
    obtain ⟨p, vs, rfl, hp, rp⟩ := r.lst_inv
    exact ⟨p, vs, rfl, .inl (SqL.of hp), fun l hl => k _ _ hl (same_new hl) (ow_newL hl rp)⟩
  · cases hf
    obtain ⟨v, rfl, r⟩ := rs.one
    obtain ⟨p, vs, rfl, hp, hp', rp⟩ := r.tup_inv
    exact ⟨p, vs, rfl, .inr (SqT.of hp), fun l hl => k _ _ hl (same_new hl) (ow_newL hl rp)⟩
  · cases hf
theorem ef_cb {r : List V → Hp → VK → Prop} {f : List D → Option D} {t : TA} (hr : CallSemF r f) (ha : EAB O t gs) : EF O (tCB r t) (gF f gs) := fun P pf σ H δ d Q R hg k => by
  obtain ⟨x, hx, hg⟩ := bind_some hg
  exact ha P pf σ H δ x _ R hx fun vs H1 e1 r1 => hr P H1 vs x d Q (R.same e1).dom r1 hg fun p H2 np e2 o => k p H2 (e1.free np) (e1.trans e2) o
theorem qf_callTy {id : String} {x : Str} {r : List V → Hp → VK → Prop} {f : List D → Option D} (hc : ∀ i, CallR (X i) (.type id) r) (hs : CallSemF r f) (hv : bootBuiltins x = some (.type id)) (ha : QAB X O (e :: es) gs) (hm : ∀ i, (X i).mg x = none)
    (hg : ∀ i, Gl (X i) x := by intro _; rfl) (hn : x ≠ "__name__" := by decide) (hdb : (x == ("__debug__" : Str)) = false := by decide)
    (he : ∀ i, starEach (e :: es) (X i).env = (false, eval e (X i).env) :: starEach es (X i).env := by intro _; rfl) (hpl : ∀ i, (backTo pos (starEach es (X i).env)).any (·.1) = false := by intro _; rfl) : QF X O (.Call (.Name x p) (e :: es) [] pos) (gF f gs) := by
  obtain ⟨t, pa, ea⟩ := ha
  exact ⟨_, fun i => pe_callTy (hc i) (hg i) (hm i) hv (pa i) hn hdb (he i) (hpl i), ef_cb hs ea⟩
theorem qf_callB {id : String} {x : Str} {r : List V → Hp → VK → Prop} {f : List D → Option D} (hc : ∀ i, CallR (X i) (.builtin id) r) (hs : CallSemF r f) (hv : bootBuiltins x = some (.builtin id)) (ha : QAB X O (e :: es) gs) (hm : ∀ i, (X i).mg x = none)
    (hg : ∀ i, Gl (X i) x := by intro _; rfl) (hn : x ≠ "__name__" := by decide) (hdb : (x == ("__debug__" : Str)) = false := by decide)
    (he : ∀ i, starEach (e :: es) (X i).env = (false, eval e (X i).env) :: starEach es (X i).env := by intro _; rfl) (hpl : ∀ i, (backTo pos (starEach es (X i).env)).any (·.1) = false := by intro _; rfl) : QF X O (.Call (.Name x p) (e :: es) [] pos) (gF f gs) := by
  obtain ⟨t, pa, ea⟩ := ha
  exact ⟨_, fun i => pe_callB (hc i) (hg i) (hm i) hv (pa i) hn hdb (he i) (hpl i), ef_cb hs ea⟩
/-! a built-in's name and its rule in one -/
theorem q_len (ha : QAB X O (e :: es) gs) (hm : ∀ i, (X i).mg "len" = none) (hg : ∀ i, Gl (X i) "len" := by intro _; rfl) (he : ∀ i, starEach (e :: es) (X i).env = (false, eval e (X i).env) :: starEach es (X i).env := by intro _; rfl) (hpl : ∀ i, (backTo pos (starEach es (X i).env)).any (·.1) = false := by intro _; rfl) :
    QE X O (.Call (.Name "len" p) (e :: es) [] pos) (gF fLen gs) := q_callB (fun _ => cr_lenA) sem_len PySem.boot_len ha hm hg (by decide) (by decide) he hpl
theorem q_abs (ha : QAB X O (e :: es) gs) (hm : ∀ i, (X i).mg "abs" = none) (hg : ∀ i, Gl (X i) "abs" := by intro _; rfl) (he : ∀ i, starEach (e :: es) (X i).env = (false, eval e (X i).env) :: starEach es (X i).env := by intro _; rfl) (hpl : ∀ i, (backTo pos (starEach es (X i).env)).any (·.1) = false := by intro _; rfl) :
    QE X O (.Call (.Name "abs" p) (e :: es) [] pos) (gF fAbs gs) := q_callB (fun _ => call_abs) sem_abs (by decide +kernel) ha hm hg (by decide) (by decide) he hpl
theorem q_sum (ha : QAB X O (e :: es) gs) (hm : ∀ i, (X i).mg "sum" = none) (hc : ∀ i, (X i).calm = true := by intro _; rfl) (hg : ∀ i, Gl (X i) "sum" := by intro _; rfl) (he : ∀ i, starEach (e :: es) (X i).env = (false, eval e (X i).env) :: starEach es (X i).env := by intro _; rfl) (hpl : ∀ i, (backTo pos (starEach es (X i).env)).any (·.1) = false := by intro _; rfl) :
    QE X O (.Call (.Name "sum" p) (e :: es) [] pos) (gF fSum gs) := q_callB (fun i => CallR.allK (r := rSum) (cr_sum (hc i))) sem_sum (by decide +kernel) ha hm hg (by decide) (by decide) he hpl
theorem q_all (ha : QAB X O (e :: es) gs) (hm : ∀ i, (X i).mg "all" = none) (hc : ∀ i, (X i).calm = true := by intro _; rfl) (hg : ∀ i, Gl (X i) "all" := by intro _; rfl) (he : ∀ i, starEach (e :: es) (X i).env = (false, eval e (X i).env) :: starEach es (X i).env := by intro _; rfl) (hpl : ∀ i, (backTo pos (starEach es (X i).env)).any (·.1) = false := by intro _; rfl) :
    QE X O (.Call (.Name "all" p) (e :: es) [] pos) (gF fAll gs) := q_callB (fun i => CallR.allK (r := rAll) (cr_all (hc i))) sem_all (by decide +kernel) ha hm hg (by decide) (by decide) he hpl
theorem q_any (ha : QAB X O (e :: es) gs) (hm : ∀ i, (X i).mg "any" = none) (hc : ∀ i, (X i).calm = true := by intro _; rfl) (hg : ∀ i, Gl (X i) "any" := by intro _; rfl) (he : ∀ i, starEach (e :: es) (X i).env = (false, eval e (X i).env) :: starEach es (X i).env := by intro _; rfl) (hpl : ∀ i, (backTo pos (starEach es (X i).env)).any (·.1) = false := by intro _; rfl) :
    QE X O (.Call (.Name "any" p) (e :: es) [] pos) (gF fAny gs) := q_callB (fun i => CallR.allK (r := rAny) (cr_any (hc i))) sem_any (by decide +kernel) ha hm hg (by decide) (by decide) he hpl
theorem q_max2 (ha : QAB X O (e :: es) gs) (hm : ∀ i, (X i).mg "max" = none) (hc : ∀ i, (X i).calm = true := by intro _; rfl) (hg : ∀ i, Gl (X i) "max" := by intro _; rfl) (he : ∀ i, starEach (e :: es) (X i).env = (false, eval e (X i).env) :: starEach es (X i).env := by intro _; rfl) (hpl : ∀ i, (backTo pos (starEach es (X i).env)).any (·.1) = false := by intro _; rfl) :
    QE X O (.Call (.Name "max" p) (e :: es) [] pos) (gF fMax2 gs) := q_callB (fun i => call_max2 (hc i)) sem_max2 (by decide +kernel) ha hm hg (by decide) (by decide) he hpl
theorem q_min2 (ha : QAB X O (e :: es) gs) (hm : ∀ i, (X i).mg "min" = none) (hc : ∀ i, (X i).calm = true := by intro _; rfl) (hg : ∀ i, Gl (X i) "min" := by intro _; rfl) (he : ∀ i, starEach (e :: es) (X i).env = (false, eval e (X i).env) :: starEach es (X i).env := by intro _; rfl) (hpl : ∀ i, (backTo pos (starEach es (X i).env)).any (·.1) = false := by intro _; rfl) :
    QE X O (.Call (.Name "min" p) (e :: es) [] pos) (gF fMin2 gs) := q_callB (fun i => call_min2 (hc i)) sem_min2 (by decide +kernel) ha hm hg (by decide) (by decide) he hpl
theorem q_int (ha : QAB X O (e :: es) gs) (hm : ∀ i, (X i).mg "int" = none) (hg : ∀ i, Gl (X i) "int" := by intro _; rfl) (he : ∀ i, starEach (e :: es) (X i).env = (false, eval e (X i).env) :: starEach es (X i).env := by intro _; rfl) (hpl : ∀ i, (backTo pos (starEach es (X i).env)).any (·.1) = false := by intro _; rfl) :
    QE X O (.Call (.Name "int" p) (e :: es) [] pos) (gF fInt gs) := q_callTy (fun _ => cr_intA) sem_int PyProof.Rows.boot_int ha hm hg (by decide) (by decide) he hpl
theorem q_str (ha : QAB X O (e :: es) gs) (hm : ∀ i, (X i).mg "str" = none) (hg : ∀ i, Gl (X i) "str" := by intro _; rfl) (he : ∀ i, starEach (e :: es) (X i).env = (false, eval e (X i).env) :: starEach es (X i).env := by intro _; rfl) (hpl : ∀ i, (backTo pos (starEach es (X i).env)).any (·.1) = false := by intro _; rfl) :
    QE X O (.Call (.Name "str" p) (e :: es) [] pos) (gF fStr gs) := q_callTy (fun _ => call_str_int) sem_str PyProof.Rows.boot_str ha hm hg (by decide) (by decide) he hpl
theorem q_tuple (ha : QAB X O (e :: es) gs) (hm : ∀ i, (X i).mg "tuple" = none) (hg : ∀ i, Gl (X i) "tuple" := by intro _; rfl) (he : ∀ i, starEach (e :: es) (X i).env = (false, eval e (X i).env) :: starEach es (X i).env := by intro _; rfl) (hpl : ∀ i, (backTo pos (starEach es (X i).env)).any (·.1) = false := by intro _; rfl) :
    QE X O (.Call (.Name "tuple" p) (e :: es) [] pos) (gF fTuple gs) := q_callTy (fun i => CallR.allK (r := rTupleOf) call_tuple_of) sem_tuple PyProof.Rows.boot_tuple ha hm hg (by decide) (by decide) he hpl
theorem qf_list (ha : QAB X O (e :: es) gs) (hm : ∀ i, (X i).mg "list" = none) (hg : ∀ i, Gl (X i) "list" := by intro _; rfl) (he : ∀ i, starEach (e :: es) (X i).env = (false, eval e (X i).env) :: starEach es (X i).env := by intro _; rfl) (hpl : ∀ i, (backTo pos (starEach es (X i).env)).any (·.1) = false := by intro _; rfl) :
    QF X O (.Call (.Name "list" p) (e :: es) [] pos) (gF fList gs) := qf_callTy (fun i => CallR.allK (r := rListOf) call_list_of) sem_list PyProof.Rows.boot_list ha hm hg (by decide) (by decide) he hpl
end
end VS
namespace VS
open PySem PySem.Spec PyProof.Rows L2
theorem fn0 {P : Program} {w : World} {K : PySem.W.Frag} {mg : Str → Option Value} {base : Heap} {k n : Nat} {f : Addr} {fd : FuncData} {ps : List Str} : FnOk P w K mg base CX0 k f fd ps (spP n fun _ => none) :=
  ⟨fun vs H Q E h => (by obtain ⟨_, _, _, _, _, _, hm, _⟩ := h; cases hm), fun A outer s H args us vs Q E _ _ _ _ h => (by obtain ⟨_, _, _, _, _, _, hm, _⟩ := h; cases hm)⟩
section
variable {ι : Type} {X : Cxs ι} {O O1 O2 Ob : List Nat} {st : Stmt} {rest : List Stmt} {F : Ev → Option Out}
theorem ES.weak {t : TS} (h : ES O O1 Ob t F) (hs : O2.all (fun i => O1.contains i) = true) : ES O O2 Ob t F := fun P₀ H₀ pf σ H δ Dn r S hF k => by
  refine h P₀ H₀ pf σ H δ Dn r S hF ?_
  cases r with
  | nx δ' => exact fun pf σ H S' => k pf σ H (S'.weak fun i hi => List.contains_iff_mem.mp (List.all_eq_true.mp hs i hi))
  | ret d => exact k
  | bk δ' => exact k
  | ct δ' => exact k
theorem QS.weak (h : QS X O O1 Ob st F) (hs : O2.all (fun i => O1.contains i) = true := by rfl) : QS X O O2 Ob st F := let ⟨t, p, q⟩ := h; ⟨t, p, q.weak hs⟩
theorem QSs.weak (h : QSs X O O1 Ob rest F) (hs : O2.all (fun i => O1.contains i) = true := by rfl) : QSs X O O2 Ob rest F := let ⟨t, p, q⟩ := h; ⟨t, p, q.weak hs⟩
end
end VS
namespace VS
open PySem PySem.Spec PyProof.Rows L2
section
variable {ι : Type} {X : Cxs ι} {O js js1 : List Nat} {tg iter tg1 iter1 e a b elt c : Expr} {elts : List Expr} {ifs ifs1 : List Expr} {g ga gb : Ev → Option D} {gc gc1 : Ev → Option Bool} {its its1 : Ev → Option (List D)} {bd bd1 : D → Ev → Option Ev} {pos p tpos : Pos} {kk : Nat} {scope : Scope} {K : PySem.W.Frag}
/-! ### zip of two lists, of two tuples -/
def zipD (l m : List D) : List D := l.zipWith (fun x y => .tup [x, y]) m
def iZip (ga gb : Ev → Option D) : Ev → Option (List D) := fun δ => (ga δ).bind fun a => (gb δ).bind fun b => match a, b with
  | .lst l, .lst m => some (zipD l m)
  | .tup l, .tup m => some (zipD l m)
  | _, _ => none
theorem zipD_get {l m : List D} {i : Nat} {d : D} (h : (zipD l m)[i]? = some d) : ∃ x y, l[i]? = some x ∧ m[i]? = some y ∧ d = .tup [x, y] := by
  unfold zipD at h
  rw [List.getElem?_zipWith] at h
  cases h1 : l[i]? with
  | none => rw [h1] at h; simp at h
  | some x =>
    cases h2 : m[i]? with
    | none => rw [h1, h2] at h; simp at h
    | some y =>
      rw [h1, h2] at h
      simp at h
      exact ⟨x, y, rfl, rfl, h.symm⟩
theorem zipD_len {l m : List D} {i : Nat} (h : (zipD l m).length ≤ i) : l.length ≤ i ∨ m.length ≤ i := by
  unfold zipD at h
  rw [List.length_zipWith] at h
  omega
theorem qi_zip (ha : QE X O a ga) (hb : QE X O b gb) (hm : ∀ i, (X i).mg "zip" = none) (hK : ∀ i, (X i).K = K := by intro _; rfl) (hg : ∀ i, Gl (X i) "zip" := by intro _; rfl)
    (h1 : ∀ i, starEach [a, b] (X i).env = (false, eval a (X i).env) :: starEach [b] (X i).env := by intro _; rfl) (h2 : ∀ i, starEach [b] (X i).env = (false, eval b (X i).env) :: starEach [] (X i).env := by intro _; rfl) (hpl : ∀ i, (backTo pos (starEach [b] (X i).env)).any (·.1) = false := by intro _; rfl) :
    QI X O (.Tuple elts kk tpos) (.Call (.Name "zip" p) [a, b] [] pos) (iZip ga gb) := by
  obtain ⟨ta, pa, ea⟩ := ha
  obtain ⟨tb, pb, eb⟩ := hb
  refine ⟨RZ.iZipA K (tCons ta (tCons tb tNil)), fun i => by rw [← hK i]; exact RZ.pi_zipA (hg i) (hm i) (pa_cons (pa i) (pa_cons (pb i) pa_nil (h2 i)) (h1 i)) (h1 i) (hpl i), fun P pf σ H δ ds R S hg k => ?_⟩
  obtain ⟨x, hx, hg⟩ := bind_some hg
  obtain ⟨y, hy, hg⟩ := bind_some hg
  refine ea P pf σ H δ x _ S hx fun v H1 e1 r1 => ?_
  refine eb P pf σ H1 δ y _ (S.same e1) hy fun u H2 e2 r2 => ?_
  have r1 := r1.ex (lim_same e2)
  split at hg
  · rename_i l m _ _
    cases hg
    obtain ⟨p, vs, rfl, hp, rp⟩ := r1.lst_inv
    obtain ⟨q, ws, rfl, hq, rq⟩ := r2.lst_inv
    refine ⟨p, q, vs, ws, rfl, .inl ⟨SqL.of (lim_get hp), SqL.of (lim_get hq), k _ H2 (e1.trans e2) fun H' sm i => ⟨fun d hd => ?_, fun hl => ?_⟩⟩⟩
    · obtain ⟨x, y, h1, h2, rfl⟩ := zipD_get hd
      obtain ⟨vx, h3, h4⟩ := rp.get h1
      obtain ⟨vy, h5, h6⟩ := rq.get h2
      refine ⟨⟨vs, ws, vx, vy, SqL.of (sm _ _ hp), SqL.of (sm _ _ hq), h3, h5⟩, fun z H3 hy => ?_⟩
      obtain ⟨T, x', y', rfl, nT, rfl, hx', hy'⟩ := hy
      have ex := hx' vs (SqL.of (sm _ _ hp))
      have ey := hy' ws (SqL.of (sm _ _ hq))
      rw [h3] at ex; rw [h5] at ey
      cases ex; cases ey
      exact ⟨same_new nT, fun P' dom' s' => rp_newT dom' nT (.cons (h4.ex s') (.cons (h6.ex s') .nil))⟩
    · refine ⟨vs, ws, SqL.of (sm _ _ hp), SqL.of (sm _ _ hq), ?_⟩
      rw [rp.length, rq.length]
      exact zipD_len hl
  · rename_i l m _ _
    cases hg
    obtain ⟨p, vs, rfl, hp, rp⟩ := r1.tup_inv
    obtain ⟨q, ws, rfl, hq, rq⟩ := r2.tup_inv
    refine ⟨p, q, vs, ws, rfl, .inr ⟨SqT.of (lim_get hp), SqT.of (lim_get hq), k _ H2 (e1.trans e2) fun H' sm i => ⟨fun d hd => ?_, fun hl => ?_⟩⟩⟩
    · obtain ⟨x, y, h1, h2, rfl⟩ := zipD_get hd
      obtain ⟨vx, h3, h4⟩ := rp.get h1
      obtain ⟨vy, h5, h6⟩ := rq.get h2
      refine ⟨⟨vs, ws, vx, vy, SqT.of (sm _ _ hp), SqT.of (sm _ _ hq), h3, h5⟩, fun z H3 hy => ?_⟩
      obtain ⟨T, x', y', rfl, nT, rfl, hx', hy'⟩ := hy
      have ex := hx' vs (SqT.of (sm _ _ hp))
      have ey := hy' ws (SqT.of (sm _ _ hq))
      rw [h3] at ex; rw [h5] at ey
      cases ex; cases ey
      exact ⟨same_new nT, fun P' dom' s' => rp_newT dom' nT (.cons (h4.ex s') (.cons (h6.ex s') .nil))⟩
    · refine ⟨vs, ws, SqT.of (sm _ _ hp), SqT.of (sm _ _ hq), ?_⟩
      rw [rp.length, rq.length]
      exact zipD_len hl
  · cases hg
/-! ### list comprehensions with two for -/
def compL2 (bd : D → Ev → Option Ev) (c : Ev → Option Bool) (its1 : Ev → Option (List D)) (bd1 : D → Ev → Option Ev) (c1 : Ev → Option Bool) (e : Ev → Option D) (vs1 : List Nat) (δw : Ev) : List D → Option (List D)
  | [] => some []
  | d :: r => (bd d δw).bind fun δ1 => (c δ1).bind fun k => if k = true then (its1 δ1).bind fun ds1 => (compL bd1 c1 e (wipeE δ1 vs1) ds1).bind fun l1 => (compL2 bd c its1 bd1 c1 e vs1 δw r).bind fun l => some (l1 ++ l) else compL2 bd c its1 bd1 c1 e vs1 δw r
def gLc2 (its : Ev → Option (List D)) (bd : D → Ev → Option Ev) (c : Ev → Option Bool) (its1 : Ev → Option (List D)) (bd1 : D → Ev → Option Ev) (c1 : Ev → Option Bool) (e : Ev → Option D) (vs vs1 : List Nat) : Ev → Option D := fun δ => (its δ).bind fun ds =>
  (compL2 bd c its1 bd1 c1 e vs1 (wipeE δ vs) ds).bind fun l => if l.length ≤ 1000000 then some (.lst l) else none
theorem ef_lc2 {wi wi1 : TI} {t t1 : TG} {tt tt1 : TT} {te : TE} {vs vs1 : List Nat} (hv : vs.all (fun v => !O.contains v) = true) (hv1 : vs1.all (fun v => !O.contains v) = true) (hj : js.all (fun j => vs.contains j) = true) (hj1 : js1.all (fun j => vs1.contains j) = true)
    (hi : EI O wi its) (hg : EG O js t bd) (ht : ET O tt gc) (hi1 : EI O wi1 its1) (hg1 : EG O js1 t1 bd1) (ht1 : ET O tt1 gc1) (he : EP O te g) : EF O (tLc2 wi t tt wi1 t1 tt1 te vs vs1) (gLc2 its bd gc its1 bd1 gc1 g vs vs1) := fun P pf σ H δ d Q R hG k => by
  obtain ⟨ds, hds, hG⟩ := bind_some hG
  obtain ⟨res, hres, hG⟩ := bind_some hG
  split at hG
  · rename_i hlen
    cases hG
    refine hi P pf σ H δ ds _ R hds fun J H1 e1 ok A nA => ?_
    have hv' : ∀ v ∈ vs, v ∉ O := fun v h => nmem_of (by simpa using List.all_eq_true.mp hv v h)
    have hv1' : ∀ v ∈ vs1, v ∉ O := fun v h => nmem_of (by simpa using List.all_eq_true.mp hv1 v h)
    have hj' : ∀ j ∈ js, j ∈ vs := fun j h => List.contains_iff_mem.mp (List.all_eq_true.mp hj j h)
    have hj1' : ∀ j ∈ js1, j ∈ vs1 := fun j h => List.contains_iff_mem.mp (List.all_eq_true.mp hj1 j h)
    have R1 : RS O P pf (L2.wipe σ vs) H1 (wipeE δ vs) := (R.same e1).wipe hv'
    refine ⟨fun i m H' => m = ds.length - i ∧ i ≤ ds.length ∧ Same H1 H' ∧ ∃ acc accd restd, H' A = some (.lst acc) ∧ Rps (lim (fun b => P b ∨ b = A) H') acc accd ∧ compL2 bd gc its1 bd1 gc1 g vs1 (wipeE δ vs) (ds.drop i) = some restd ∧ accd ++ restd = res,
      ⟨_, rfl, Nat.zero_le _, same_new nA, [], [], res, upd_same, .nil, hres, rfl⟩, ?_⟩
    rintro i m H' ⟨rfl, hil, sm, acc, accd, restd, hA, ra, hc, hap⟩
    have s1 : Same (lim P H1) H' := lim_le.trans sm
    have hA' : H' A ≠ none := by rw [hA]; exact fun z => by cases z
    have R' := R1.grow sm nA hA'
    have s2 : Same (lim P H1) (lim (fun b => P b ∨ b = A) H') := fun b o h => by
      obtain ⟨nb, hb⟩ := lim_some h
      have ne : b ≠ A := ne_of_none hb nA
      rw [lim_in (fun z => z.elim nb ne)]
      exact sm b o hb
    obtain ⟨ok1, ok2⟩ := ok H' s1 i
    by_cases hlt : i < ds.length
    · right
      obtain ⟨g1, y1⟩ := ok1 ds[i] (List.getElem?_eq_getElem hlt)
      rw [List.drop_eq_getElem_cons hlt] at hc
      obtain ⟨δ1, hb1, hc⟩ := bind_some hc
      obtain ⟨x, hx, hc⟩ := bind_some hc
      refine ⟨g1, fun H3 => Same H1 H3 ∧ ∃ acc accd restd, H3 A = some (.lst acc) ∧ Rps (lim (fun b => P b ∨ b = A) H3) acc accd ∧ compL2 bd gc its1 bd1 gc1 g vs1 (wipeE δ vs) (ds.drop (i + 1)) = some restd ∧ accd ++ restd = res,
        fun H3 h3 => ⟨ds.length - (i + 1), by omega, rfl, hlt, h3⟩, fun y H2 hy => ?_⟩
      obtain ⟨e2, rx⟩ := y1 y H2 hy
      have rx := rx (fun b => P b ∨ b = A) R'.dom s2
      refine hg _ pf _ H2 _ δ1 y _ _ (R'.same e2) rx hb1 fun σ3 R3 w3 => ⟨?_, ?_⟩
      · rw [w3 vs hj', wipe_wipe fun u hu => hu]
      · refine ht _ pf σ3 H2 δ1 x _ R3 hx fun H3 e3 => ?_
        have e23 := e2.trans e3
        cases x with
        | true =>
          rw [if_pos rfl] at hc ⊢
          obtain ⟨ds1, hds1, hc⟩ := bind_some hc
          obtain ⟨l1, hl1, hc⟩ := bind_some hc
          obtain ⟨l, hl, hc⟩ := bind_some hc
          cases hc
          refine hi1 _ pf σ3 H3 δ1 ds1 _ (R3.same e3) hds1 fun J1 H4 e4 okI => ?_
          have e24 := e23.trans e4
          have R4 := (R3.same e3).same e4
          -- what stands at the inner loop's start, the list at A taken away
          refine ⟨fun j k H5 => k = ds1.length - j ∧ j ≤ ds1.length ∧ Same H1 H5 ∧ Same (lim (fun b => b = A) H4) H5 ∧ ∃ acc accd r1, H5 A = some (.lst acc) ∧ Rps (lim (fun b => P b ∨ b = A) H5) acc accd ∧ compL bd1 gc1 g (wipeE δ1 vs1) (ds1.drop j) = some r1 ∧ accd ++ (r1 ++ l) = res,
            ⟨_, rfl, Nat.zero_le _, sm.trans e24, lim_le, acc, accd, l1, e24 A _ hA, ra.ex (lim_same e24), hl1, hap⟩, ?_⟩
          rintro j k5 H5 ⟨rfl, hjl, sm5, sm45, acc5, accd5, r5, hA5, ra5, hc5, hap5⟩
          have hA5' : H5 A ≠ none := by rw [hA5]; exact fun z => by cases z
          have s45 : Same (lim (fun b => P b ∨ b = A) H4) H5 := fun b o h => by
            obtain ⟨nb, hb⟩ := lim_some h
            exact sm45 b o (by rw [lim_in (P := fun b => b = A) (fun z => nb (.inr z))]; exact hb)
          have s45' : Same (lim (fun b => P b ∨ b = A) H4) (lim (fun b => P b ∨ b = A) H5) := fun b o h => by
            obtain ⟨nb, _⟩ := lim_some h
            rw [lim_in (P := fun b => P b ∨ b = A) nb]
            exact s45 b o h
          have R5 : RS O (fun b => P b ∨ b = A) pf σ3 H5 δ1 := by
            refine ⟨R4.len, fun b h => ?_, fun i hi => ?_, fun i d hi h n => ?_⟩
            · rcases h with h | h
              · have := R4.dom b (.inl h)
                by_cases ne : b = A
                · rw [ne]; exact hA5'
                · have q : lim (fun b => b = A) H4 b = H4 b := lim_in (P := fun b => b = A) ne
                  rw [same_eq sm45 (by rw [q]; exact this), q]; exact this
              · rw [h]; exact hA5'
            · obtain ⟨p, h, d, h1, h2⟩ := R4.own i hi
              have ne : pf i ≠ A := fun z => by
                obtain ⟨_, _, d', _, h2'⟩ := R1.own i hi
                exact h2'.there (by rw [z]; exact nA)
              have q : lim (fun b => b = A) H4 (pf i) = H4 (pf i) := lim_in (P := fun b => b = A) ne
              refine ⟨p, h, d, h1, h2.ex s45' ?_⟩
              rw [same_eq sm45 (by rw [q]; exact h2.there), q]
            · obtain ⟨v, h1, h2⟩ := R4.frz i d hi h n
              exact ⟨v, h1, h2.ex s45'⟩
          obtain ⟨okI1, okI2⟩ := okI H5 s45 j
          by_cases hlt1 : j < ds1.length
          · right
            obtain ⟨gI, yI⟩ := okI1 ds1[j] (List.getElem?_eq_getElem hlt1)
            rw [List.drop_eq_getElem_cons hlt1] at hc5
            obtain ⟨δ2, hb2, hc5⟩ := bind_some hc5
            obtain ⟨x2, hx2, hc5⟩ := bind_some hc5
            refine ⟨gI, fun H6 => Same H1 H6 ∧ Same (lim (fun b => b = A) H4) H6 ∧ ∃ acc accd r1, H6 A = some (.lst acc) ∧ Rps (lim (fun b => P b ∨ b = A) H6) acc accd ∧ compL bd1 gc1 g (wipeE δ1 vs1) (ds1.drop (j + 1)) = some r1 ∧ accd ++ (r1 ++ l) = res,
              fun H6 h6 => ⟨ds1.length - (j + 1), by omega, rfl, hlt1, h6⟩, fun y2 H6 hy2 => ?_⟩
            obtain ⟨e6, rx6⟩ := yI y2 H6 hy2
            have rx6 := rx6 (fun b => P b ∨ b = A) R5.dom s45'
            refine hg1 _ pf _ H6 _ δ2 y2 _ _ ((R5.wipe hv1').same e6) rx6 hb2 fun σ4 R6 w6 => ⟨?_, ?_⟩
            · rw [w6 vs1 hj1', wipe_wipe fun u hu => hu]
            · refine ht1 _ pf σ4 H6 δ2 x2 _ R6 hx2 fun H7 e7 => ?_
              have e67 := e6.trans e7
              cases x2 with
              | true =>
                rw [if_pos rfl] at hc5 ⊢
                obtain ⟨z, hz, hc5⟩ := bind_some hc5
                obtain ⟨r6, hr6, hc5⟩ := bind_some hc5
                cases hc5
                refine he _ pf σ4 H7 δ2 z _ (R6.same e7) hz fun v H8 e8 r8 => ?_
                have e68 := e67.trans e8
                have hA8 : H8 A = some (.lst acc5) := e68 A _ hA5
                have hlen5 : acc5.length < res.length := by
                  rw [← hap5, ra5.length, List.length_append, List.cons_append, List.length_cons]
                  omega
                refine ⟨acc5, hA8, by rw [sizeLine_eq]; omega, fun b o hb => ?_, fun b o hb => ?_, acc5 ++ [v], accd5 ++ [z], r6, upd_same, ?_, hr6, by rw [List.append_assoc]; exact hap5⟩
                · rw [upd_ne (ne_of_none hb nA)]
                  exact e68 b o (sm5 b o hb)
                · have nb : b ≠ A := (lim_some hb).1
                  rw [upd_ne nb]
                  exact e68 b o (sm45 b o hb)
                · rw [lim_updA]
                  exact (ra5.ex (lim_same e68)).append (.cons r8 .nil)
              | false =>
                rw [if_neg (by decide)] at hc5 ⊢
                exact ⟨sm5.trans e67, sm45.trans e67, acc5, accd5, r5, e67 A _ hA5, ra5.ex (lim_same e67), hc5, hap5⟩
          · left
            refine ⟨okI2 (by omega), ?_⟩
            rw [List.drop_eq_nil_of_le (by omega)] at hc5
            cases hc5
            rw [List.nil_append] at hap5
            exact ⟨sm5, acc5, accd5, l, hA5, ra5, hl, hap5⟩
        | false =>
          rw [if_neg (by decide)] at hc ⊢
          exact ⟨sm.trans e23, acc, accd, restd, e23 A _ hA, ra.ex (lim_same e23), hc, hap⟩
    · left
      refine ⟨ok2 (by omega), ?_⟩
      rw [List.drop_eq_nil_of_le (by omega)] at hc
      cases hc
      rw [List.append_nil] at hap
      subst hap
      exact k A H' (e1.free nA) (e1.trans sm) (.lst hA ra)
  · cases hG
theorem qf_lc2 (own : List (Str × Nat)) (vs1 : List Nat) (hi : QI X O tg iter its) (hg : QG (Blk X scope) O js tg bd) (ht : QTs (Blk X scope) O ifs gc) (hi1 : QI (Blk X scope) O tg1 iter1 its1) (hg1 : QG (Blk X scope) O js1 tg1 bd1) (ht1 : QTs (Blk X scope) O ifs1 gc1) (he : QE (Blk X scope) O elt g)
    {N : List Str} {sc : Scope} (hN : ∀ i, (X i).N.Nodup) (ok : blkC N sc scope own = true) (hXN : ∀ i, (X i).N = N := by intro _; rfl) (hXs : ∀ i, (X i).env.scope = sc := by intro _; rfl) (hc : ∀ i, (X i).calm = true := by intro _; rfl)
    (hv : (own.map (·.2)).all (fun v => !O.contains v) = true := by rfl) (hv1 : vs1.all (fun v => !O.contains v) = true := by rfl) (hvs : vs1.all (fun v => (own.map (·.2)).contains v) = true := by rfl) (hj : js.all (fun j => (own.map (·.2)).contains j) = true := by rfl) (hj1 : js1.all (fun j => vs1.contains j) = true := by rfl)
    (hs : ∀ i x, foldedSetIterable iter (X i).env x = pure x := by intro _ _; rfl) (hs1 : ∀ env x, foldedSetIterable iter1 env x = pure x := by intro _ _; rfl) : QF X O (.ListComp elt [⟨tg, iter, ifs, 0⟩, ⟨tg1, iter1, ifs1, 0⟩] scope pos) (gLc2 its bd gc its1 bd1 gc1 g (own.map (·.2)) vs1) := by
  obtain ⟨wi, pi, ei⟩ := hi
  obtain ⟨t, pt, et⟩ := hg
  obtain ⟨tt, ptt, ett⟩ := ht
  obtain ⟨wi1, pi1, ei1⟩ := hi1
  obtain ⟨t1, pt1, et1⟩ := hg1
  obtain ⟨tt1, ptt1, ett1⟩ := ht1
  obtain ⟨te, pe, ee⟩ := he
  exact ⟨_, fun i => pe_lc2 (hc i) (hN i) (pi i) (blkOk_by (by rw [hXN i, hXs i]; exact ok)) (fun v h => List.contains_iff_mem.mp (List.all_eq_true.mp hvs v h)) (fun s H C cl fp => pt (i, s, H, C, cl, fp)) (fun s H C cl fp => ptt (i, s, H, C, cl, fp)) (fun s H C cl fp => pi1 (i, s, H, C, cl, fp)) (fun s H C cl fp => pt1 (i, s, H, C, cl, fp)) (fun s H C cl fp => ptt1 (i, s, H, C, cl, fp)) (fun s H C cl fp => pe (i, s, H, C, cl, fp)) (hs i) hs1, ef_lc2 hv hv1 hj hj1 ei et ett ei1 et1 ett1 ee⟩
theorem qs_ownLc2 {Ob : List Nat} {px spos : Pos} (i : Nat) {x : Str} (own : List (Str × Nat)) (vs1 : List Nat) (hi : QI X O tg iter its) (hg : QG (Blk X scope) O js tg bd) (ht : QTs (Blk X scope) O ifs gc) (hi1 : QI (Blk X scope) O tg1 iter1 its1) (hg1 : QG (Blk X scope) O js1 tg1 bd1) (ht1 : QTs (Blk X scope) O ifs1 gc1) (he : QE (Blk X scope) O elt g)
    {N : List Str} {sc : Scope} (hN : ∀ i, (X i).N.Nodup) (ok : blkC N sc scope own = true) (hXN : ∀ i, (X i).N = N := by intro _; rfl) (hXs : ∀ i, (X i).env.scope = sc := by intro _; rfl)
    (hx : ∀ k, (X k).N[i]? = some x := by intro _; rfl) (hl : ∀ k, (X k).env.scope.names.lookup x = some .local := by intro _; rfl) (hO : O.contains i = false := by rfl)
    (hsw : ∀ k, swapsWith (.ListComp elt [⟨tg, iter, ifs, 0⟩, ⟨tg1, iter1, ifs1, 0⟩] scope pos) (some (.Name x px)) spos.line (X k).env = pure true := by intro _; exact sw_true rfl rfl rfl (by decide +kernel)) (hc : ∀ i, (X i).calm = true := by intro _; rfl)
    (hv : (own.map (·.2)).all (fun v => !O.contains v) = true := by rfl) (hv1 : vs1.all (fun v => !O.contains v) = true := by rfl) (hvs : vs1.all (fun v => (own.map (·.2)).contains v) = true := by rfl) (hj : js.all (fun j => (own.map (·.2)).contains j) = true := by rfl) (hj1 : js1.all (fun j => vs1.contains j) = true := by rfl)
    (hs : ∀ i x, foldedSetIterable iter (X i).env x = pure x := by intro _ _; rfl) (hs1 : ∀ env x, foldedSetIterable iter1 env x = pure x := by intro _ _; rfl) : QS X O (i :: O) Ob (.Assign [.Name x px] (.ListComp elt [⟨tg, iter, ifs, 0⟩, ⟨tg1, iter1, ifs1, 0⟩] scope pos) spos) (sOwn i (gLc2 its bd gc its1 bd1 gc1 g (own.map (·.2)) vs1)) := by
  obtain ⟨wi, pi, ei⟩ := hi
  obtain ⟨t, pt, et⟩ := hg
  obtain ⟨tt, ptt, ett⟩ := ht
  obtain ⟨wi1, pi1, ei1⟩ := hi1
  obtain ⟨t1, pt1, et1⟩ := hg1
  obtain ⟨tt1, ptt1, ett1⟩ := ht1
  obtain ⟨te, pe, ee⟩ := he
  exact ⟨_, fun k => ps_setLc2 (hc k) (hN k) (hx k) (hl k) (hsw k) (pi k) (blkOk_by (by rw [hXN k, hXs k]; exact ok)) (fun v h => List.contains_iff_mem.mp (List.all_eq_true.mp hvs v h)) (fun s H C cl fp => pt (k, s, H, C, cl, fp)) (fun s H C cl fp => ptt (k, s, H, C, cl, fp)) (fun s H C cl fp => pi1 (k, s, H, C, cl, fp)) (fun s H C cl fp => pt1 (k, s, H, C, cl, fp)) (fun s H C cl fp => ptt1 (k, s, H, C, cl, fp)) (fun s H C cl fp => pe (k, s, H, C, cl, fp)) (hs k) hs1, es_own hO (ef_lc2 hv hv1 hj hj1 ei et ett ei1 et1 ett1 ee)⟩
end
end VS
namespace VS
open PySem PySem.Spec PyProof.Rows L2
/-! ### code that draws: the dict w, {"draws": .., "at": ..}, at pw, its list at pl -/
def kDraws : Key := .inr (Str.ofString "draws")
def kAt : Key := .inr (Str.ofString "at")
/-- the dict at pw is a dict of draws -/
def WI (pw pl : Addr) (L : List Int) (H : Hp) : Prop := ∃ n : Int, 0 ≤ n ∧ H pw = some (.dK [(kDraws, .ref pl), (kAt, .int n)]) ∧ H pl = some (.lst (L.map V.int))
def SameW (pw : Addr) (H H' : Hp) : Prop := ∀ b o, b ≠ pw → H b = some o → H' b = some o
theorem SameW.refl (pw : Addr) (H : Hp) : SameW pw H H := fun _ _ _ h => h
theorem SameW.trans {pw : Addr} {H H1 H2 : Hp} (a : SameW pw H H1) (b : SameW pw H1 H2) : SameW pw H H2 := fun c o n h => b c o n (a c o n h)
theorem SameW.of {pw : Addr} {H H' : Hp} (e : Same H H') : SameW pw H H' := fun b o _ h => e b o h
theorem WI.same {pw pl : Addr} {L : List Int} {H H' : Hp} (w : WI pw pl L H) (e : Same H H') : WI pw pl L H' := by
  obtain ⟨n, h0, h1, h2⟩ := w
  exact ⟨n, h0, e _ _ h1, e _ _ h2⟩
theorem lim_sameW {pw : Addr} {P : Ow0} {H H' : Hp} (e : SameW pw H H') (h : P pw) : Same (lim P H) (lim P H') := fun b o q => by
  obtain ⟨p, q⟩ := lim_some q
  have ne : b ≠ pw := fun z => p (by rw [z]; exact h)
  rw [lim_in p]; exact e b o ne q
structure SW (pw pl : Addr) (L : List Int) (P₀ : Ow0) (H₀ : Hp) (O : List Nat) (pf : Nat → Addr) (σ : L2.St) (H : Hp) (δ : Ev) : Prop where
  rs : RS O (PO' P₀ O pf) pf σ H δ
  ex : SameW pw H₀ H
  fresh : ∀ i ∈ O, H₀ (pf i) = none
  inj : ∀ i ∈ O, ∀ j ∈ O, pf i = pf j → i = j
  d0 : ∀ b, P₀ b → H₀ b ≠ none
  inv : WI pw pl L H
  pw0 : P₀ pw
  pl0 : P₀ pl
section
variable {pw pl : Addr} {L : List Int} {P₀ : Ow0} {H₀ H H' : Hp} {O O' : List Nat} {pf : Nat → Addr} {σ : L2.St} {δ : Ev}
theorem SW.same (S : SW pw pl L P₀ H₀ O pf σ H δ) (e : Same H H') : SW pw pl L P₀ H₀ O pf σ H' δ := ⟨S.rs.same e, S.ex.trans (.of e), S.fresh, S.inj, S.d0, S.inv.same e, S.pw0, S.pl0⟩
theorem SW.si (S : SW pw pl L P₀ H₀ O pf σ H δ) : SI P₀ (unown O pf H) O pf σ H δ := by
  refine ⟨S.rs, lim_le, fun i hi => lim_no ⟨i, hi, rfl⟩, S.inj, fun b h => ?_⟩
  unfold VS.unown
  rw [lim_in (fun ⟨i, hi, e⟩ => S.d0 b h (by rw [← e]; exact S.fresh i hi))]
  exact S.rs.dom b (.inl h)
/-- behind a statement that does not draw -/
theorem SW.after {pf' : Nat → Addr} {σ' : L2.St} {δ' : Ev} (S : SW pw pl L P₀ H₀ O pf σ H δ) (S' : SI P₀ (unown O pf H) O' pf' σ' H' δ') : SW pw pl L P₀ H₀ O' pf' σ' H' δ' := by
  have own0 : ∀ b, P₀ b → VS.unown O pf H b = H b := fun b h => by
    unfold VS.unown
    rw [lim_in (fun ⟨i, hi, e⟩ => S.d0 b h (by rw [← e]; exact S.fresh i hi))]
  have keep0 : ∀ b, P₀ b → H' b = H b := fun b h => by
    have hb := S.rs.dom b (.inl h)
    rw [same_eq S'.ex (by rw [own0 b h]; exact hb), own0 b h]
  refine ⟨S'.rs, fun b o n h => ?_, fun i hi => ?_, S'.inj, S.d0, ?_, S.pw0, S.pl0⟩
  · refine S'.ex b o ?_
    unfold VS.unown
    rw [lim_in (fun ⟨i, hi, e⟩ => by rw [← e, S.fresh i hi] at h; cases h)]
    exact S.ex b o n h
  · have f := S'.fresh i hi
    cases q : H₀ (pf' i) with
    | none => rfl
    | some o =>
      by_cases ne : pf' i = pw
      · rw [ne, own0 pw S.pw0] at f
        exact absurd f (S.rs.dom pw (.inl S.pw0))
      · have h2 := S.ex _ o ne q
        unfold VS.unown at f
        rw [lim_in (fun ⟨j, hj, e⟩ => by rw [← e, S.fresh j hj] at q; cases q)] at f
        rw [h2] at f
        cases f
  · obtain ⟨n, h0, h1, h2⟩ := S.inv
    exact ⟨n, h0, by rw [keep0 pw S.pw0]; exact h1, by rw [keep0 pl S.pl0]; exact h2⟩
theorem SW.weak (S : SW pw pl L P₀ H₀ O pf σ H δ) (hs : ∀ i ∈ O', i ∈ O) : SW pw pl L P₀ H₀ O' pf σ H δ := S.after (S.si.weak hs)
theorem SW.set (S : SW pw pl L P₀ H₀ O pf σ H δ) {i : Nat} (hi : i ∉ O) {v : V} {d : D} (r : Rp (lim (PO' P₀ O pf) H) v d) : SW pw pl L P₀ H₀ O pf (σ.set i (some v)) H (δ.set i d) := S.after (S.si.set hi r)
/-- the dict of draws has turned -/
theorem SW.turn (S : SW pw pl L P₀ H₀ O pf σ H δ) (e : SameW pw H H') (w : WI pw pl L H') : SW pw pl L P₀ H₀ O pf σ H' δ := by
  have sm : Same (lim (PO' P₀ O pf) H) (lim (PO' P₀ O pf) H') := lim_sameW e (.inl S.pw0)
  have npw : ∀ i ∈ O, pf i ≠ pw := fun i hi z => S.d0 pw S.pw0 (by rw [← z]; exact S.fresh i hi)
  have kp : ∀ b, b ≠ pw → H b ≠ none → H' b = H b := fun b n h => by
    cases q : H b with
    | none => exact absurd q h
    | some o => exact e b o n q
  refine ⟨⟨S.rs.len, fun b h => ?_, fun i hi => ?_, fun i d hi h n => ?_⟩, S.ex.trans e, S.fresh, S.inj, S.d0, w, S.pw0, S.pl0⟩
  · by_cases ne : b = pw
    · obtain ⟨n, _, h1, _⟩ := w
      rw [ne, h1]; exact fun z => by cases z
    · rw [kp b ne (S.rs.dom b h)]; exact S.rs.dom b h
  · obtain ⟨p, h, d, h1, h2⟩ := S.rs.own i hi
    exact ⟨p, h, d, h1, h2.ex sm (kp _ (npw i hi) h2.there)⟩
  · obtain ⟨v, h1, h2⟩ := S.rs.frz i d hi h n
    exact ⟨v, h1, h2.ex sm⟩
end
/-- the step from H to H' keeps what is read -/
def Kp (P₀ : Ow0) (O : List Nat) (pf : Nat → Addr) (pw : Addr) (H H' : Hp) : Prop := SameW pw H H'
abbrev WE := Addr → Ev → (D → Prop) → Prop
def EW (O : List Nat) (t : TE) (φ : WE) : Prop := ∀ (pw pl : Addr) (L : List Int) (P₀ : Ow0) (H₀ : Hp) (pf : Nat → Addr) (σ : L2.St) (H : Hp) (δ : Ev) (R : D → Prop) (Q : VK), SW pw pl L P₀ H₀ O pf σ H δ → φ pw δ R →
  (∀ d v H', R d → SW pw pl L P₀ H₀ O pf σ H' δ → SameW pw H H' → Rp (lim (PO' P₀ O pf) H') v d → Q v H') → t σ H Q
def QW' {ι : Type} (X : Cxs ι) (O : List Nat) (e : Expr) (φ : WE) : Prop := ∃ t, (∀ i, PE (X i) e t) ∧ EW O t φ
def wP (g : Ev → Option D) : WE := fun _ δ R => ∃ d, g δ = some d ∧ R d
section
variable {ι : Type} {X : Cxs ι} {O js : List Nat} {tg iter e a b c elt : Expr} {es ifs : List Expr} {g ga gb gc : Ev → Option D} {gs : Ev → Option (List D)} {pos p : Pos} {k : Nat} {φ φa φb : WE}
theorem qw_pure (h : QE X O e g) : QW' X O e (wP g) := by
  obtain ⟨t, p, q⟩ := h
  refine ⟨t, p, fun pw pl L P₀ H₀ pf σ H δ R Q S hφ k => ?_⟩
  obtain ⟨d, hd, hR⟩ := hφ
  exact q _ pf σ H δ d Q S.rs hd fun v H' e r => k d v H' hR (S.same e) (.of e) r
/-! operators -/
def w2 (f : D → D → Option D) (φa φb : WE) : WE := fun pw δ R => φa pw δ fun a => φb pw δ fun b => ∃ d, f a b = some d ∧ R d
theorem rp_turn {pw pl : Addr} {L : List Int} {P₀ : Ow0} {H₀ H H' : Hp} {pf : Nat → Addr} {σ : L2.St} {δ : Ev} (S : SW pw pl L P₀ H₀ O pf σ H δ) (e : SameW pw H H') {v : V} {d : D} (r : Rp (lim (PO' P₀ O pf) H) v d) : Rp (lim (PO' P₀ O pf) H') v d := r.ex (lim_sameW e (.inl S.pw0))
theorem bp_turn {pw pl : Addr} {L : List Int} {P₀ : Ow0} {H₀ H H' : Hp} {pf : Nat → Addr} {σ : L2.St} {δ : Ev} (S : SW pw pl L P₀ H₀ O pf σ H δ) (S' : SW pw pl L P₀ H₀ O pf σ H' δ) (e : SameW pw H H') {v : V} {d : D} (r : Bp (PO' P₀ O pf) H v d) (hw : v ≠ .ref pw) : Bp (PO' P₀ O pf) H' v d := by
  rcases r with r | ⟨a, rfl, o⟩
  · exact .inl (rp_turn S e r)
  · refine .inr ⟨a, rfl, o.ex (lim_sameW e (.inl S.pw0)) ?_⟩
    have ne : a ≠ pw := fun z => hw (by rw [z])
    cases q : H a with
    | none => exact absurd q o.there
    | some o' => exact e a o' ne q
theorem qw_op {op : Operator} {r : R2} {f : D → D → Option D} (ho : ∀ i, OpR (X i) (binaryOp op) r) (hr : OpSem r f) (ha : QW' X O a φa) (hb : QW' X O b φb) : QW' X O (.BinOp a op b pos) (w2 f φa φb) := by
  obtain ⟨ta, pa, ea⟩ := ha
  obtain ⟨tb, pb, eb⟩ := hb
  refine ⟨_, fun i => pe_op (ho i) (pa i) (pb i), fun pw pl L P₀ H₀ pf σ H δ R Q S hφ k => ?_⟩
  refine ea pw pl L P₀ H₀ pf σ H δ _ _ S hφ fun x v H1 hx S1 e1 r1 => ?_
  refine eb pw pl L P₀ H₀ pf σ H1 δ _ _ S1 hx fun y u H2 hy S2 e2 r2 => ?_
  obtain ⟨d, hd, hR⟩ := hy
  exact hr _ H2 v u x y d Q S2.rs.dom (rp_turn S1 e2 r1) r2 hd fun z H3 e3 r3 => k d z H3 hR (S2.same e3) ((e1.trans e2).trans (.of e3)) r3
theorem qw_add (ha : QW' X O a φa) (hb : QW' X O b φb) : QW' X O (.BinOp a .Add b pos) (w2 dAdd φa φb) := qw_op (fun _ => op_addA) sem_addA ha hb
theorem qw_sub (ha : QW' X O a φa) (hb : QW' X O b φb) : QW' X O (.BinOp a .Sub b pos) (w2 dSub φa φb) := qw_op (fun _ => op_sub) sem_sub ha hb
theorem qw_mul (ha : QW' X O a φa) (hb : QW' X O b φb) : QW' X O (.BinOp a .Mult b pos) (w2 dMul φa φb) := qw_op (fun _ => op_mulA) sem_mulA ha hb
theorem qw_mod (ha : QW' X O a φa) (hb : QW' X O b φb) : QW' X O (.BinOp a .Mod b pos) (w2 dMod φa φb) := qw_op (fun _ => op_mod) sem_mod ha hb
/-! tuples, lists of parts -/
def QWA {ι : Type} (X : Cxs ι) (O : List Nat) (es : List Expr) (φ : Addr → Ev → (List D → Prop) → Prop) : Prop := ∃ t, (∀ i, PA (X i) es t) ∧ ∀ (pw pl : Addr) (L : List Int) (P₀ : Ow0) (H₀ : Hp) (pf : Nat → Addr) (σ : L2.St) (H : Hp) (δ : Ev) (R : List D → Prop) (Q : List V → Hp → Prop), SW pw pl L P₀ H₀ O pf σ H δ → φ pw δ R →
  (∀ d v H', R d → SW pw pl L P₀ H₀ O pf σ H' δ → SameW pw H H' → Rps (lim (PO' P₀ O pf) H') v d → Q v H') → t σ H Q
def wNil : Addr → Ev → (List D → Prop) → Prop := fun _ _ R => R []
def wCons (φ : WE) (ψ : Addr → Ev → (List D → Prop) → Prop) : Addr → Ev → (List D → Prop) → Prop := fun pw δ R => φ pw δ fun d => ψ pw δ fun ds => R (d :: ds)
theorem qwa_nil : QWA X O [] wNil := ⟨_, fun _ => pa_nil, fun pw pl L P₀ H₀ pf σ H δ R Q S hφ k => k [] [] H hφ S (SameW.refl _ _) .nil⟩
theorem qwa_cons {ψ : Addr → Ev → (List D → Prop) → Prop} (ha : QW' X O e φ) (hr : QWA X O es ψ) (hs : ∀ i, starEach (e :: es) (X i).env = (false, eval e (X i).env) :: starEach es (X i).env := by intro _; rfl) : QWA X O (e :: es) (wCons φ ψ) := by
  obtain ⟨ta, pa, ea⟩ := ha
  obtain ⟨tb, pb, eb⟩ := hr
  refine ⟨_, fun i => pa_cons (pa i) (pb i) (hs i), fun pw pl L P₀ H₀ pf σ H δ R Q S hφ k => ?_⟩
  refine ea pw pl L P₀ H₀ pf σ H δ _ _ S hφ fun x v H1 hx S1 e1 r1 => ?_
  refine eb pw pl L P₀ H₀ pf σ H1 δ _ _ S1 hx fun y u H2 hy S2 e2 r2 => ?_
  exact k _ _ H2 hy S2 (e1.trans e2) (.cons (rp_turn S1 e2 r1) r2)
def wTup (ψ : Addr → Ev → (List D → Prop) → Prop) : WE := fun pw δ R => ψ pw δ fun l => l.length ≤ 1000 ∧ R (.tup l)
theorem qw_tup {x1} {ψ : Addr → Ev → (List D → Prop) → Prop} (h : QWA X O es ψ) : QW' X O (.Tuple es x1 pos) (wTup ψ) := by
  obtain ⟨ta, pa, ea⟩ := h
  refine ⟨_, fun i => pe_tup (pa i), fun pw pl L P₀ H₀ pf σ H δ R Q S hφ k => ?_⟩
  refine ea pw pl L P₀ H₀ pf σ H δ _ _ S hφ fun l vs H1 hx S1 e1 r1 => ?_
  exact ⟨by rw [r1.length, sizeLine_eq]; have := hx.1; omega, fun q nq => k _ _ _ hx.2 (S1.same (same_new nq)) (e1.trans (.of (same_new nq))) (rp_newT S1.rs.dom nq r1)⟩
/-! a read, its place drawn -/
def wIx (ga : Ev → Option D) (φb : WE) : WE := fun pw δ R => ∃ a, ga δ = some a ∧ (∃ l, a = .lst l ∨ a = .tup l ∨ ∃ s, a = .str s) ∧ φb pw δ fun b => ∃ d, dIdx a b = some d ∧ R d
theorem bp_ne {pw pl : Addr} {L : List Int} {P₀ : Ow0} {H₀ H : Hp} {pf : Nat → Addr} {σ : L2.St} {δ : Ev} (S : SW pw pl L P₀ H₀ O pf σ H δ) {v : V} {d : D} (r : Bp (PO' P₀ O pf) H v d) (h : ∃ l, d = .lst l ∨ d = .tup l ∨ ∃ s, d = .str s) : v ≠ .ref pw := fun e => by
  subst e
  obtain ⟨n, _, h1, _⟩ := S.inv
  obtain ⟨l, rfl | rfl | ⟨s, rfl⟩⟩ := h
  · obtain ⟨a, vs, e, h2, _⟩ := r.lst_inv
    cases e
    rw [h1] at h2; cases h2
  · obtain ⟨a, vs, e, h2, _⟩ := r.tup_inv
    cases e
    rw [h1] at h2; cases h2
  · obtain ⟨x, e, _⟩ := r.str_inv
    cases e
theorem qw_ix (ha : QB X O a ga) (hb : QW' X O b φb) (hs : PlainIx b := by exact fun _ _ => rfl) : QW' X O (.Subscript a b pos) (wIx ga φb) := by
  obtain ⟨ta, pa, ea⟩ := ha
  obtain ⟨tb, pb, eb⟩ := hb
  refine ⟨_, fun i => pe_ix ix_A (pa i) (pb i) hs, fun pw pl L P₀ H₀ pf σ H δ R Q S hφ k => ?_⟩
  obtain ⟨x, hx, hk, hφ⟩ := hφ
  refine ea _ pf σ H δ x _ S.rs hx fun v H1 e1 r1 => ?_
  have S1 := S.same e1
  refine eb pw pl L P₀ H₀ pf σ H1 δ _ _ S1 hφ fun y u H2 hy S2 e2 r2 => ?_
  obtain ⟨d, hd, hR⟩ := hy
  exact sem_ix _ H2 v u x y d Q S2.rs.dom (bp_turn S1 S2 e2 r1 (bp_ne S1 r1 hk)) (.inl r2) hd fun z H3 e3 r3 => k d z H3 hR (S2.same e3) (((SameW.of e1).trans e2).trans (.of e3)) r3
/-! a slice up to a drawn place -/
def wTo (ga : Ev → Option D) (φb : WE) : WE := fun pw δ R => ∃ a, ga δ = some a ∧ φb pw δ fun b => ∃ i, b = .int i ∧ ∃ d, dCut a none (some i) = some d ∧ R d
theorem qw_to {p2 : Pos} (ha : QE X O a ga) (hb : QW' X O b φb) : QW' X O (.Subscript a (.Slice none (some b) none p2) pos) (wTo ga φb) := by
  obtain ⟨ta, pa, ea⟩ := ha
  obtain ⟨tb, pb, eb⟩ := hb
  refine ⟨_, fun i => pe_slice sl_A (pa i) po_none (po_some (pb i)), fun pw pl L P₀ H₀ pf σ H δ R Q S hφ k => ?_⟩
  obtain ⟨x, hx, hφ⟩ := hφ
  refine ea _ pf σ H δ x _ S.rs hx fun v H1 e1 r1 => ?_
  have S1 := S.same e1
  show tb σ H1 (fun x H2 => ∃ i, x = .int i ∧ rCutA v none (some i) H2 Q)
  refine eb pw pl L P₀ H₀ pf σ H1 δ _ _ S1 hφ fun y u H2 hy S2 e2 r2 => ?_
  obtain ⟨i, rfl, d, hd, hR⟩ := hy
  refine ⟨i, r2.int_inv, ?_⟩
  have r3 := rp_turn S1 e2 r1
  have dom := S2.rs.dom
  have e12 := (SameW.of (pw := pw) e1).trans e2
  unfold dCut at hd
  split at hd
  · cases hd
    obtain ⟨p, vs, rfl, hp, rp⟩ := r3.lst_inv
    exact .inl fun K => ⟨p, vs, rfl, SqL.of (lim_get hp), fun q nq => k _ _ _ hR (S2.same (same_new nq)) (e12.trans (.of (same_new nq))) (rp_newL dom nq (cut_rps rp _ _))⟩
  · cases hd
    obtain ⟨p, vs, rfl, hp, rp⟩ := r3.tup_inv
    refine .inr (.inl fun K => ⟨p, vs, rfl, SqT.of (lim_get hp), fun hw => ?_, fun _ q nq => k _ _ _ hR (S2.same (same_new nq)) (e12.trans (.of (same_new nq))) (rp_newT dom nq (cut_rps rp _ _))⟩)
    rw [rp.length] at hw
    rw [cut_all _ _ _ hw] at hR
    exact k _ _ H2 hR S2 e12 (.tup hp rp)
  · cases hd
    obtain ⟨z, rfl, ez, hz⟩ := r3.str_inv
    refine .inr (.inr ⟨z, rfl, by rw [sizeLine_eq, tl_tl, ez]; exact hz.2, k _ _ H2 hR S2 e12 ?_⟩)
    unfold cutS
    rw [tl_tl, ez]
    exact .mkStr (hz.sub (fun c hc => List.mem_of_mem_drop (List.mem_of_mem_take hc)) (cut_len _ _ _))
  · cases hd
/-! a call of a built-in with one drawn argument -/
def wF (f : List D → Option D) (φ : WE) : WE := fun pw δ R => φ pw δ fun a => ∃ d, f [a] = some d ∧ R d
theorem qw_callB {id : String} {x : Str} {r : List V → Hp → VK → Prop} {f : List D → Option D} (hc : ∀ i, CallR (X i) (.builtin id) r) (hs : CallSem r f) (hv : bootBuiltins x = some (.builtin id)) (ha : QW' X O e φ) (hm : ∀ i, (X i).mg x = none)
    (hg : ∀ i, Gl (X i) x := by intro _; rfl) (hn : x ≠ "__name__" := by decide) (hdb : (x == ("__debug__" : Str)) = false := by decide)
    (he : ∀ i, starEach [e] (X i).env = (false, eval e (X i).env) :: starEach [] (X i).env := by intro _; rfl) (hpl : ∀ i, (backTo pos (starEach [] (X i).env)).any (·.1) = false := by intro _; rfl) : QW' X O (.Call (.Name x p) [e] [] pos) (wF f φ) := by
  obtain ⟨t, pa, ea⟩ := ha
  refine ⟨_, fun i => pe_callB (hc i) (hg i) (hm i) hv (pa_cons (pa i) pa_nil (he i)) hn hdb (he i) (hpl i), fun pw pl L P₀ H₀ pf σ H δ R Q S hφ k => ?_⟩
  refine ea pw pl L P₀ H₀ pf σ H δ _ _ S hφ fun x v H1 hx S1 e1 r1 => ?_
  obtain ⟨d, hd, hR⟩ := hx
  exact hs _ H1 _ _ d Q S1.rs.dom (.cons (.inl r1) .nil) hd fun z H2 e2 r2 => k d z H2 hR (S1.same e2) (e1.trans (.of e2)) r2
theorem qw_callTy {id : String} {x : Str} {r : List V → Hp → VK → Prop} {f : List D → Option D} (hc : ∀ i, CallR (X i) (.type id) r) (hs : CallSem r f) (hv : bootBuiltins x = some (.type id)) (ha : QW' X O e φ) (hm : ∀ i, (X i).mg x = none)
    (hg : ∀ i, Gl (X i) x := by intro _; rfl) (hn : x ≠ "__name__" := by decide) (hdb : (x == ("__debug__" : Str)) = false := by decide)
    (he : ∀ i, starEach [e] (X i).env = (false, eval e (X i).env) :: starEach [] (X i).env := by intro _; rfl) (hpl : ∀ i, (backTo pos (starEach [] (X i).env)).any (·.1) = false := by intro _; rfl) : QW' X O (.Call (.Name x p) [e] [] pos) (wF f φ) := by
  obtain ⟨t, pa, ea⟩ := ha
  refine ⟨_, fun i => pe_callTy (hc i) (hg i) (hm i) hv (pa_cons (pa i) pa_nil (he i)) hn hdb (he i) (hpl i), fun pw pl L P₀ H₀ pf σ H δ R Q S hφ k => ?_⟩
  refine ea pw pl L P₀ H₀ pf σ H δ _ _ S hφ fun x v H1 hx S1 e1 r1 => ?_
  obtain ⟨d, hd, hR⟩ := hx
  exact hs _ H1 _ _ d Q S1.rs.dom (.cons (.inl r1) .nil) hd fun z H2 e2 r2 => k d z H2 hR (S1.same e2) (e1.trans (.of e2)) r2
theorem qw_tuple (ha : QW' X O e φ) (hm : ∀ i, (X i).mg "tuple" = none) (hg : ∀ i, Gl (X i) "tuple" := by intro _; rfl) (he : ∀ i, starEach [e] (X i).env = (false, eval e (X i).env) :: starEach [] (X i).env := by intro _; rfl) (hpl : ∀ i, (backTo pos (starEach [] (X i).env)).any (·.1) = false := by intro _; rfl) :
    QW' X O (.Call (.Name "tuple" p) [e] [] pos) (wF fTuple φ) := qw_callTy (fun i => CallR.allK (r := rTupleOf) call_tuple_of) sem_tuple PyProof.Rows.boot_tuple ha hm hg (by decide) (by decide) he hpl
/-! ### a def that draws -/
def spW (n : Nat) (φ : Addr → List D → (D → Prop) → Prop) : Sp := fun vs H Q _ => ∃ (pw pl : Addr) (L : List Int) (P : Ow0) (ds : List D) (R : D → Prop), ds.length = n ∧ (∀ b, P b → H b ≠ none) ∧ P pw ∧ P pl ∧ WI pw pl L H ∧ Rps (lim P H) vs ds ∧ φ pw ds R ∧
  ∀ d v H', R d → SameW pw H H' → WI pw pl L H' → Rp (lim P H') v d → Q v H'
def wCall (φ : Addr → List D → (D → Prop) → Prop) (ψ : Addr → Ev → (List D → Prop) → Prop) : WE := fun pw δ R => ψ pw δ fun ds => φ pw ds R
theorem qw_call {f : Addr} {fd : FuncData} {ps : List Str} {n : Nat} {φ : Addr → List D → (D → Prop) → Prop} {ψ : Addr → Ev → (List D → Prop) → Prop} {x : Str}
    (F : ∀ i, FnOk (X i).prog (X i).w (X i).K (X i).mg (X i).base CX0 k f fd ps (spW n φ)) (hl : ∀ pw ds R, φ pw ds R → ds.length = n) (hm : ∀ i, (X i).mg x = some (.ref f)) (hk : ∀ i, PySem.W.keepIn (X i).K (.ref f) = true) (hb : ∀ i, Binds (X i).K fd ps []) (hr : ∀ i, Room k (X i).A) (ha : QWA X O (e :: es) ψ)
    (hg : ∀ i, Gl (X i) x := by intro _; rfl) (hdb : (x == ("__debug__" : Str)) = false := by decide)
    (he : ∀ i, starEach (e :: es) (X i).env = (false, eval e (X i).env) :: starEach es (X i).env := by intro _; rfl) (hpl : ∀ i, (backTo pos (starEach es (X i).env)).any (·.1) = false := by intro _; rfl) : QW' X O (.Call (.Name x p) (e :: es) [] pos) (wCall φ ψ) := by
  obtain ⟨t, pa, ea⟩ := ha
  refine ⟨_, fun i => pe_call (F i) (hr i) (hg i) (hm i) (hk i) (hb i) .nil pass0 (pa i) hdb (he i) (hpl i), fun pw pl L P₀ H₀ pf σ H δ R Q S hφ k => ?_⟩
  refine ea pw pl L P₀ H₀ pf σ H δ _ _ S hφ fun ds vs H1 hx S1 e1 r1 => ?_
  exact ⟨pw, pl, L, _, ds, R, hl _ _ _ hx, S1.rs.dom, .inl S1.pw0, .inl S1.pl0, S1.inv, by rw [List.append_nil]; exact r1, hx, fun d v H' hR e2 w2 r2 => k d v H' hR (S1.turn e2 w2) (e1.trans e2) r2⟩
/-- a pure def called with drawn arguments -/
def wCallP (m : List D → Option D) (ψ : Addr → Ev → (List D → Prop) → Prop) : WE := fun pw δ R => ψ pw δ fun ds => ∃ d, m ds = some d ∧ R d
theorem qw_callP {f : Addr} {fd : FuncData} {ps : List Str} {n : Nat} {m : List D → Option D} {ψ : Addr → Ev → (List D → Prop) → Prop} {x : Str}
    (F : ∀ i, FnOk (X i).prog (X i).w (X i).K (X i).mg (X i).base CX0 k f fd ps (spP n m)) (hl : ∀ ds d, m ds = some d → ds.length = n) (hm : ∀ i, (X i).mg x = some (.ref f)) (hk : ∀ i, PySem.W.keepIn (X i).K (.ref f) = true) (hb : ∀ i, Binds (X i).K fd ps []) (hr : ∀ i, Room k (X i).A) (ha : QWA X O (e :: es) ψ)
    (hg : ∀ i, Gl (X i) x := by intro _; rfl) (hdb : (x == ("__debug__" : Str)) = false := by decide)
    (he : ∀ i, starEach (e :: es) (X i).env = (false, eval e (X i).env) :: starEach es (X i).env := by intro _; rfl) (hpl : ∀ i, (backTo pos (starEach es (X i).env)).any (·.1) = false := by intro _; rfl) : QW' X O (.Call (.Name x p) (e :: es) [] pos) (wCallP m ψ) := by
  obtain ⟨t, pa, ea⟩ := ha
  refine ⟨_, fun i => pe_call (F i) (hr i) (hg i) (hm i) (hk i) (hb i) .nil pass0 (pa i) hdb (he i) (hpl i), fun pw pl L P₀ H₀ pf σ H δ R Q S hφ k => ?_⟩
  refine ea pw pl L P₀ H₀ pf σ H δ _ _ S hφ fun ds vs H1 hx S1 e1 r1 => ?_
  obtain ⟨d, hd, hR⟩ := hx
  exact ⟨_, ds, d, hl _ _ hd, S1.rs.dom, by rw [List.append_nil]; exact r1, hd, fun v H' e2 r2 => k d v H' hR (S1.same e2) (e1.trans (.of e2)) r2⟩
end
/-! ### statements that draw -/
abbrev WS := Addr → Ev → (Out → Prop) → Prop
def EndsW (pw pl : Addr) (L : List Int) (P₀ : Ow0) (H₀ : Hp) (O Ob : List Nat) (Dn : Ends) : Out → Prop
  | .nx δ => ∀ pf σ H, SW pw pl L P₀ H₀ O pf σ H δ → Dn.nx σ H
  | .ret d => ∀ v H, SameW pw H₀ H → WI pw pl L H → Rp (lim P₀ H) v d → Dn.rt v H
  | .bk δ => ∀ pf σ H, SW pw pl L P₀ H₀ Ob pf σ H δ → Dn.bk σ H
  | .ct δ => ∀ pf σ H, SW pw pl L P₀ H₀ Ob pf σ H δ → Dn.ct σ H
def EWS (O O' Ob : List Nat) (t : TS) (Φ : WS) : Prop := ∀ (pw pl : Addr) (L : List Int) (P₀ : Ow0) (H₀ : Hp) (pf : Nat → Addr) (σ : L2.St) (H : Hp) (δ : Ev) (Dn : Ends) (R : Out → Prop), SW pw pl L P₀ H₀ O pf σ H δ → Φ pw δ R →
  (∀ r, R r → EndsW pw pl L P₀ H₀ O' Ob Dn r) → t Dn σ H
def QWS {ι : Type} (X : Cxs ι) (O O' Ob : List Nat) (st : Stmt) (Φ : WS) : Prop := ∃ t, (∀ i, PS (X i) st t) ∧ EWS O O' Ob t Φ
def QWSs {ι : Type} (X : Cxs ι) (O O' Ob : List Nat) (st : List Stmt) (Φ : WS) : Prop := ∃ t, (∀ i, PSs (X i) st t) ∧ EWS O O' Ob t Φ
section
variable {ι : Type} {X : Cxs ι} {O O1 O2 Ob js : List Nat} {tg iter e a b c elt : Expr} {es ifs : List Expr} {g ga gb gc : Ev → Option D} {pos p : Pos} {k : Nat} {φ φa φb φc : WE} {st : Stmt} {rest body orelse : List Stmt} {F G : Ev → Option Out} {Φ Ψ : WS}
def wS (F : Ev → Option Out) : WS := fun _ δ R => ∃ r, F δ = some r ∧ R r
theorem ews_pure {t : TS} (h : ES O O1 Ob t F) : EWS O O1 Ob t (wS F) := fun pw pl L P₀ H₀ pf σ H δ Dn R S hΦ k => by
  obtain ⟨r, hr, hR⟩ := hΦ
  have kr := k r hR
  refine h P₀ _ pf σ H δ Dn r S.si hr ?_
  cases r with
  | nx δ' => exact fun pf' σ' H' S' => kr pf' σ' H' (S.after S')
  | bk δ' => exact fun pf' σ' H' S' => kr pf' σ' H' (S.after S')
  | ct δ' => exact fun pf' σ' H' S' => kr pf' σ' H' (S.after S')
  | ret d =>
    refine fun v H' e r => kr v H' (fun b o n h => e b o ?_) ?_ r
    · unfold VS.unown
      rw [lim_in (fun ⟨i, hi, e⟩ => by rw [← e, S.fresh i hi] at h; cases h)]
      exact S.ex b o n h
    · obtain ⟨n, h0, h1, h2⟩ := S.inv
      have own0 : ∀ b, P₀ b → VS.unown O pf H b = H b := fun b h => by
        unfold VS.unown
        rw [lim_in (fun ⟨i, hi, e⟩ => S.d0 b h (by rw [← e]; exact S.fresh i hi))]
      exact ⟨n, h0, e _ _ (by rw [own0 pw S.pw0]; exact h1), e _ _ (by rw [own0 pl S.pl0]; exact h2)⟩
theorem qws_pure (h : QS X O O1 Ob st F) : QWS X O O1 Ob st (wS F) := let ⟨t, p, q⟩ := h; ⟨t, p, ews_pure q⟩
theorem qwss_pure (h : QSs X O O1 Ob rest F) : QWSs X O O1 Ob rest (wS F) := let ⟨t, p, q⟩ := h; ⟨t, p, ews_pure q⟩
def wSeq (Φ Ψ : WS) : WS := fun pw δ R => Φ pw δ fun o => match o with
  | .nx δ' => Ψ pw δ' R
  | o => R o
theorem qwss_cons (h : QWS X O O1 Ob st Φ) (h' : QWSs X O1 O2 Ob rest Ψ) : QWSs X O O2 Ob (st :: rest) (wSeq Φ Ψ) := by
  obtain ⟨t, p, q⟩ := h
  obtain ⟨u, p', q'⟩ := h'
  refine ⟨_, fun i => pss_cons (p i) (p' i), fun pw pl L P₀ H₀ pf σ H δ Dn R S hΦ k => ?_⟩
  refine q pw pl L P₀ H₀ pf σ H δ { Dn with nx := u Dn } _ S hΦ fun r hr => ?_
  cases r with
  | nx δ' => exact fun pf' σ' H' S' => q' pw pl L P₀ H₀ pf' σ' H' δ' Dn R S' hr k
  | ret d => exact k (.ret d) hr
  | bk δ' => exact k (.bk δ') hr
  | ct δ' => exact k (.ct δ') hr
theorem qwss_one (h : QWS X O O1 Ob st Φ) : QWSs X O O1 Ob [st] Φ := by
  obtain ⟨t, p, q⟩ := h
  exact ⟨_, fun i => pss_one (p i), q⟩
theorem EWS.frz {t : TS} (h : EWS O1 O2 Ob t Φ) (hs : O1.all (fun i => O.contains i) = true) : EWS O O2 Ob t Φ := fun pw pl L P₀ H₀ pf σ H δ Dn R S hΦ k =>
  h pw pl L P₀ H₀ pf σ H δ Dn R (S.weak fun i hi => List.contains_iff_mem.mp (List.all_eq_true.mp hs i hi)) hΦ k
theorem QWS.frz (h : QWS X O1 O2 Ob st Φ) (hs : O1.all (fun i => O.contains i) = true := by rfl) : QWS X O O2 Ob st Φ := let ⟨t, p, q⟩ := h; ⟨t, p, q.frz hs⟩
theorem EWS.weak {t : TS} (h : EWS O O1 Ob t Φ) (hs : O2.all (fun i => O1.contains i) = true) : EWS O O2 Ob t Φ := fun pw pl L P₀ H₀ pf σ H δ Dn R S hΦ k => by
  refine h pw pl L P₀ H₀ pf σ H δ Dn R S hΦ fun r hr => ?_
  have kr := k r hr
  cases r with
  | nx δ' => exact fun pf σ H S' => kr pf σ H (S'.weak fun i hi => List.contains_iff_mem.mp (List.all_eq_true.mp hs i hi))
  | ret d => exact kr
  | bk δ' => exact kr
  | ct δ' => exact kr
theorem QWS.weak (h : QWS X O O1 Ob st Φ) (hs : O2.all (fun i => O1.contains i) = true := by rfl) : QWS X O O2 Ob st Φ := let ⟨t, p, q⟩ := h; ⟨t, p, q.weak hs⟩
theorem QWSs.weak (h : QWSs X O O1 Ob rest Φ) (hs : O2.all (fun i => O1.contains i) = true := by rfl) : QWSs X O O2 Ob rest Φ := let ⟨t, p, q⟩ := h; ⟨t, p, q.weak hs⟩
def wSet (i : Nat) (φ : WE) : WS := fun pw δ R => φ pw δ fun d => R (.nx (δ.set i d))
theorem qws_set (i : Nat) {x : Str} {px : Pos} (he : QW' X O e φ) (hN : ∀ k, (X k).N.Nodup) (hi : O.contains i = false := by rfl) (hx : ∀ k, (X k).N[i]? = some x := by intro _; rfl) (hl : ∀ k, Loc (X k).env.scope x := by intro _; first | exact Or.inl rfl | exact Or.inr rfl)
    (hs : ∀ k, swapsWith e (some (.Name x px)) pos.line (X k).env = pure false := by intro _; rfl) (hf : ∀ k, (X k).fn x = true ∨ (X k).env.scope.names.lookup x = some .local := by intro _; exact Or.inl rfl) : QWS X O O Ob (.Assign [.Name x px] e pos) (wSet i φ) := by
  obtain ⟨t, p, q⟩ := he
  refine ⟨_, fun k => ps_set (hN k) (hx k) (hl k) (p k) (hs k) (hf k), fun pw pl L P₀ H₀ pf σ H δ Dn R S hΦ k => ?_⟩
  exact q pw pl L P₀ H₀ pf σ H δ _ _ S hΦ fun d v H' hR S' e r => k _ hR pf _ H' (S'.set (nmem_of hi) r)
def wAsg (φ : WE) (b : D → Ev → Option Ev) : WS := fun pw δ R => φ pw δ fun d => ∃ δ', b d δ = some δ' ∧ R (.nx δ')
theorem qws_asg {bd : D → Ev → Option Ev} (he : QW' X O e φ) (hg : QG X O js tg bd) (hs : ∀ k, swapsWithSole [tg] e pos.line (X k).env = pure false := by intro _; rfl) (hw : ∀ k, swappedStores [tg] e (X k).env = pure none := by intro _; rfl)
    (h1 : ∀ k, (assignEach [tg] (X k).env).map (·.2) = [assign tg (X k).env] := by intro _; rfl) : QWS X O O Ob (.Assign [tg] e pos) (wAsg φ bd) := by
  obtain ⟨t, p, q⟩ := he
  obtain ⟨u, pu, eu⟩ := hg
  refine ⟨_, fun k => ps_asg (p k) (pu k) (hs k) (hw k) (h1 k), fun pw pl L P₀ H₀ pf σ H δ Dn R S hΦ k => ?_⟩
  refine q pw pl L P₀ H₀ pf σ H δ _ _ S hΦ fun d v H' hR S' e r => ?_
  obtain ⟨δ', hδ, hR⟩ := hR
  exact eu _ pf σ H' δ δ' v d _ S'.rs r hδ fun σ' R' _ => k _ hR pf σ' H' ⟨R', S'.ex, S'.fresh, S'.inj, S'.d0, S'.inv, S'.pw0, S'.pl0⟩
def wPar2 (i j : Nat) (φa φb : WE) : WS := fun pw δ R => φa pw δ fun a => φb pw δ fun b => R (.nx ((δ.set i a).set j b))
theorem qws_par2 (i j : Nat) {x y : Str} {px py pt : Pos} {kt k2 pt2} (ha : QW' X O a φa) (hb : QW' X O b φb) (hN : ∀ k, (X k).N.Nodup) (hi : ∀ k, (X k).N[i]? = some x := by intro _; rfl) (hj : ∀ k, (X k).N[j]? = some y := by intro _; rfl) (hij : i ≠ j := by decide)
    (hx : ∀ k, (X k).env.scope.names.lookup x = some .local := by intro _; rfl) (hy : ∀ k, (X k).env.scope.names.lookup y = some .local := by intro _; rfl) (hiO : O.contains i = false := by rfl) (hjO : O.contains j = false := by rfl)
    (hw : ∀ k, swappedStores [.Tuple [.Name x px, .Name y py] kt pt] (.Tuple [a, b] k2 pt2) (X k).env = pure (some [x, y]) := by intro _; rfl)
    (hs : ∀ k, swapsWithSole [.Tuple [.Name x px, .Name y py] kt pt] (.Tuple [a, b] k2 pt2) pos.line (X k).env = pure false := by intro _; rfl) (hc : ∀ i, (X i).calm = true := by intro _; rfl)
    (h1 : ∀ i, starEach [a, b] (X i).env = (false, eval a (X i).env) :: starEach [b] (X i).env := by intro _; rfl) (h2 : ∀ i, starEach [b] (X i).env = (false, eval b (X i).env) :: starEach [] (X i).env := by intro _; rfl) :
    QWS X O O Ob (.Assign [.Tuple [.Name x px, .Name y py] kt pt] (.Tuple [a, b] k2 pt2) pos) (wPar2 i j φa φb) := by
  obtain ⟨ta, pa, ea⟩ := ha
  obtain ⟨tb, pb, eb⟩ := hb
  refine ⟨_, fun k => ps_par (hc k) (hN k) (hi k) (hj k) hij (hx k) (hy k) (pa_cons (pa k) (pa_cons (pb k) pa_nil (h2 k)) (h1 k)) (hw k) (hs k), fun pw pl L P₀ H₀ pf σ H δ Dn R S hΦ k => ?_⟩
  refine ea pw pl L P₀ H₀ pf σ H δ _ _ S hΦ fun d v H1 hR S1 e1 r1 => ?_
  refine eb pw pl L P₀ H₀ pf σ H1 δ _ _ S1 hR fun d' v' H2 hR S2 e2 r2 => ?_
  exact ⟨v, v', rfl, k _ hR pf _ H2 ((S2.set (nmem_of hiO) (rp_turn S1 e2 r1)).set (nmem_of hjO) r2)⟩
def wPar3 (i j l : Nat) (φa φb φc : WE) : WS := fun pw δ R => φa pw δ fun a => φb pw δ fun b => φc pw δ fun c => R (.nx (((δ.set i a).set j b).set l c))
theorem qws_par3 (i j l : Nat) {x y z : Str} {px py pz pt : Pos} {kt k2 pt2} (ha : QW' X O a φa) (hb : QW' X O b φb) (hc' : QW' X O c φc) (hN : ∀ k, (X k).N.Nodup) (hi : ∀ k, (X k).N[i]? = some x := by intro _; rfl) (hj : ∀ k, (X k).N[j]? = some y := by intro _; rfl) (hl : ∀ k, (X k).N[l]? = some z := by intro _; rfl) (hij : i ≠ j := by decide) (hil : i ≠ l := by decide) (hjl : j ≠ l := by decide)
    (hx : ∀ k, (X k).env.scope.names.lookup x = some .local := by intro _; rfl) (hy : ∀ k, (X k).env.scope.names.lookup y = some .local := by intro _; rfl) (hz : ∀ k, (X k).env.scope.names.lookup z = some .local := by intro _; rfl) (hiO : O.contains i = false := by rfl) (hjO : O.contains j = false := by rfl) (hlO : O.contains l = false := by rfl)
    (hw : ∀ k, swappedStores [.Tuple [.Name x px, .Name y py, .Name z pz] kt pt] (.Tuple [a, b, c] k2 pt2) (X k).env = pure (some [x, y, z]) := by intro _; rfl)
    (hs : ∀ k, swapsWithSole [.Tuple [.Name x px, .Name y py, .Name z pz] kt pt] (.Tuple [a, b, c] k2 pt2) pos.line (X k).env = pure false := by intro _; rfl) (hc : ∀ i, (X i).calm = true := by intro _; rfl)
    (h1 : ∀ i, starEach [a, b, c] (X i).env = (false, eval a (X i).env) :: starEach [b, c] (X i).env := by intro _; rfl) (h2 : ∀ i, starEach [b, c] (X i).env = (false, eval b (X i).env) :: starEach [c] (X i).env := by intro _; rfl) (h3 : ∀ i, starEach [c] (X i).env = (false, eval c (X i).env) :: starEach [] (X i).env := by intro _; rfl) :
    QWS X O O Ob (.Assign [.Tuple [.Name x px, .Name y py, .Name z pz] kt pt] (.Tuple [a, b, c] k2 pt2) pos) (wPar3 i j l φa φb φc) := by
  obtain ⟨ta, pa, ea⟩ := ha
  obtain ⟨tb, pb, eb⟩ := hb
  obtain ⟨tc, pc, ec⟩ := hc'
  refine ⟨_, fun k => ps_par3 (hc k) (hN k) (hi k) (hj k) (hl k) hij hil hjl (hx k) (hy k) (hz k) (pa_cons (pa k) (pa_cons (pb k) (pa_cons (pc k) pa_nil (h3 k)) (h2 k)) (h1 k)) (hw k) (hs k), fun pw pl L P₀ H₀ pf σ H δ Dn R S hΦ k => ?_⟩
  refine ea pw pl L P₀ H₀ pf σ H δ _ _ S hΦ fun d v H1 hR S1 e1 r1 => ?_
  refine eb pw pl L P₀ H₀ pf σ H1 δ _ _ S1 hR fun d' v' H2 hR S2 e2 r2 => ?_
  refine ec pw pl L P₀ H₀ pf σ H2 δ _ _ S2 hR fun d2 v2 H3 hR S3 e3 r3 => ?_
  exact ⟨v, v', v2, rfl, k _ hR pf _ H3 (((S3.set (nmem_of hiO) (rp_turn S1 (e2.trans e3) r1)).set (nmem_of hjO) (rp_turn S2 e3 r2)).set (nmem_of hlO) r3)⟩
def wIf (t : Ev → Option Bool) (Φ Ψ : WS) : WS := fun pw δ R => ∃ c, t δ = some c ∧ if c = true then Φ pw δ R else Ψ pw δ R
theorem qws_if {gt : Ev → Option Bool} (hc : QT X O c gt) (ha : QWSs X O O1 Ob body Φ) (hb : QWSs X O O1 Ob orelse Ψ) : QWS X O O1 Ob (.If c body orelse pos) (wIf gt Φ Ψ) := by
  obtain ⟨tc, pc, ec⟩ := hc
  obtain ⟨ta, pa, ea⟩ := ha
  obtain ⟨tb, pb, eb⟩ := hb
  refine ⟨_, fun i => ps_if (pc i) (pa i) (pb i), fun pw pl L P₀ H₀ pf σ H δ Dn R S hΦ k => ?_⟩
  obtain ⟨x, hx, hΦ⟩ := hΦ
  refine ec _ pf σ H δ x _ S.rs hx fun H1 e1 => ?_
  cases x with
  | true =>
    rw [if_pos rfl] at hΦ ⊢
    exact ea pw pl L P₀ H₀ pf σ H1 δ Dn R (S.same e1) hΦ k
  | false =>
    rw [if_neg (by decide)] at hΦ ⊢
    exact eb pw pl L P₀ H₀ pf σ H1 δ Dn R (S.same e1) hΦ k
def wRet (φ : WE) : WS := fun pw δ R => φ pw δ fun d => R (.ret d)
theorem qws_ret (he : QW' X O e φ) : QWS X O O1 Ob (.Return (some e) pos) (wRet φ) := by
  obtain ⟨t, p, q⟩ := he
  refine ⟨_, fun i => ps_ret (p i), fun pw pl L P₀ H₀ pf σ H δ Dn R S hΦ k => ?_⟩
  exact q pw pl L P₀ H₀ pf σ H δ _ _ S hΦ fun d v H' hR S' e r => k _ hR v H' S'.ex S'.inv (r.ex (lim_mono fun b z => .inl z))
end
/-- a whole def that draws: w is its first parameter -/
def mkW (n k : Nat) (Φ : WS) : Addr → List D → (D → Prop) → Prop := fun pw ds R => ds.length = n ∧ Φ pw (ds ++ List.replicate (k - n) .bot) fun o => match o with
  | .ret d => R d
  | .nx _ => R .non
  | _ => False
theorem mkW_len {n k : Nat} {Φ : WS} : ∀ pw ds R, mkW n k Φ pw ds R → ds.length = n := fun _ _ _ h => h.1
section
variable {P : Program} {w : World} {K : PySem.W.Frag} {mg : Str → Option Value} {base : Heap}
theorem Fun.okW {x qual : Str} {st : Stmt} {f : Addr} {fd : FuncData} {N ps : List Str} {k n nN : Nat} {Φ : WS} {O1 : List Nat} (Fn : Fun K x qual st f fd) (S : FnScope N ps (defScope st)) (hps : ps.length = n) (hN : N.length = nN)
    (hbody : ∀ (cdv : Value) (A : Around) (outer : List Env) (s : Shared) (H : Hp) (E : XK), Room k (A.deeper (envOfC qual (defScope st) s.heap.objs.size f cdv)) →
      QWSs (fun (_ : Unit) => (cxOf CX0 P w K mg base N qual (defScope st) f cdv A outer s H E).nox) [] O1 [] (defBody st) Φ) : FnOk P w K mg base CX0 (k + 1) f fd ps (spW n (mkW n nN Φ)) := by
  refine Fn.ok S (fun vs H Q E h => ?_) (fun cdv A outer s H vs Q E hr h => ?_)
  · obtain ⟨pw, pl, L, P, ds, R, hn, _, _, _, _, r, _⟩ := h
    rw [r.length, hn, hps]
  · obtain ⟨pw, pl, L, P, ds, R, hn, dom, hpw, hpl, hw, r, hm, q⟩ := h
    obtain ⟨t, p, es⟩ := hbody cdv A outer s H E hr
    refine ⟨t, p (), ?_⟩
    have S0 := start_RS (N := N) dom r
    rw [hN, hn] at S0
    have S1 : SW pw pl L P H [] (fun _ => 0) (L2.start N vs) H (ds ++ List.replicate (nN - n) .bot) := ⟨S0.rs, SameW.refl _ _, S0.fresh, S0.inj, S0.d0, hw, hpw, hpl⟩
    refine es pw pl L P H (fun _ => 0) _ H _ _ _ S1 hm.2 fun o ho => ?_
    cases o with
    | nx δ' => exact fun pf σ H' S' => q .non .non H' ho S'.ex S'.inv .non
    | ret d' => exact fun v H' e w' r' => q d' v H' ho e w' r'
    | bk δ' => exact ho.elim
    | ct δ' => exact ho.elim
end
end VS
namespace VS
open PySem PySem.Spec PyProof.Rows L2
section
variable {ι : Type} {X : Cxs ι} {O O1 Ob js : List Nat} {e a b c o : Expr} {es : List Expr} {g ga gb gc go : Ev → Option D} {gs : Ev → Option (List D)} {pos p apos : Pos} {kk : Nat} {K : PySem.W.Frag}
/-! ### a list turned round -/
def dRev : D → Option D
  | .lst l => some (.lst l.reverse)
  | _ => none
theorem qf_rev {p1 p2 p3 : Pos} (he : QB X O e g) (hK : ∀ i, (X i).K = K := by intro _; rfl) : QF X O (.Subscript e (.Slice none none (some (.UnaryOp .USub (.Constant (.int 1) kk p1) p2)) p3) pos) (g1 dRev g) := by
  obtain ⟨t, q, s⟩ := he
  refine ⟨tRevL K t, fun i => by rw [← hK i]; exact pe_revL (q i), fun P pf σ H δ d Q R hg k => ?_⟩
  obtain ⟨x, hx, hg⟩ := bind_some hg
  refine s P pf σ H δ x _ R hx fun v H1 e1 r1 => ?_
  have dom := (R.same e1).dom
  cases x <;> simp only [dRev] at hg <;> try cases hg
  rename_i l
  rcases r1 with r1 | ⟨q, rfl, o⟩
  · obtain ⟨a, vs, rfl, h, r⟩ := r1.lst_inv
    exact ⟨a, vs, rfl, SqL.of (lim_get h), fun p np => k p _ (e1.free np) (e1.trans (same_new np)) (ow_newL np r.reverse)⟩
  · cases o with
    | lst h r => exact ⟨q, _, rfl, SqL.of h, fun p np => k p _ (e1.free np) (e1.trans (same_new np)) (ow_newL np r.reverse)⟩
/-! ### join -/
def toStrs : List D → Option (List (List Nat))
  | [] => some []
  | .str i :: r => (toStrs r).bind fun l => some (i :: l)
  | _ => none
theorem toStrs_some : ∀ {ds : List D} {ns : List (List Nat)}, toStrs ds = some ns → ds = ns.map D.str
  | [], ns, h => by cases h; rfl
  | d :: r, ns, h => by
    cases d <;> simp only [toStrs] at h <;> try cases h
    obtain ⟨l, h1, h2⟩ := bind_some h
    cases h2
    rw [toStrs_some h1]
    rfl
theorem toStrs_map (ns : List (List Nat)) : toStrs (ns.map D.str) = some ns := by
  induction ns with
  | nil => rfl
  | cons n r ih => simp only [List.map_cons, toStrs, ih]; rfl
theorem rps_strs {F : Hp} : ∀ {vs : List V} {ns : List (List Nat)}, Rps F vs (ns.map D.str) → ∃ ys : List Str, vs = ys.map V.str ∧ ys.map TL.tl = ns ∧ ∀ l ∈ ns, SOk l
  | _, [], .nil => ⟨[], rfl, rfl, fun _ h => by cases h⟩
  | _, n :: r, .cons h t => by
    obtain ⟨x, rfl, hx, ok⟩ := h.str_inv
    obtain ⟨ys, rfl, h2, h3⟩ := rps_strs t
    refine ⟨x :: ys, rfl, ?_, fun l hl => ?_⟩
    · rw [List.map_cons, h2]; exact congrArg (· :: r) hx
    · rcases List.mem_cons.mp hl with z | z
      · rw [z]; exact ok
      · exact h3 l z
theorem joinL_mem {S : List Nat} {c : Nat} : ∀ {l : List (List Nat)}, c ∈ TL.joinL S l → c ∈ S ∨ ∃ p ∈ l, c ∈ p
  | [], h => by cases h
  | [p], h => .inr ⟨p, by simp, h⟩
  | p :: q :: r, h => by
    unfold TL.joinL at h
    rcases List.mem_append.mp h with h | h
    · exact .inr ⟨p, by simp, h⟩
    · rcases List.mem_append.mp h with h | h
      · exact .inl h
      · rcases joinL_mem h with h | ⟨t, ht, h⟩
        · exact .inl h
        · exact .inr ⟨t, List.mem_cons_of_mem _ ht, h⟩
theorem joinL_len {S : List Nat} : ∀ {l : List (List Nat)}, (TL.joinL S l).length ≤ (l.map List.length).sum + l.length * S.length
  | [] => by simp [TL.joinL]
  | [p] => by simp [TL.joinL]
  | p :: q :: r => by
    unfold TL.joinL
    have := joinL_len (S := S) (l := q :: r)
    simp only [List.length_append, List.map_cons, List.sum_cons, List.length_cons, Nat.add_mul, Nat.one_mul] at this ⊢
    omega
def dJoin : D → D → Option D := fun a b => match a, (match b with | .lst l => toStrs l | .tup l => toStrs l | _ => none) with
  | .str s, some ns => if (ns.map List.length).sum + ns.length * s.length ≤ 16777216 then some (.str (TL.joinL s ns)) else none
  | _, _ => none
theorem joinL_ok {S : List Nat} {l : List (List Nat)} (hS : SOk S) (hl : ∀ p ∈ l, SOk p) (h : (l.map List.length).sum + l.length * S.length ≤ 16777216) : SOk (TL.joinL S l) := by
  refine ⟨fun c hc => ?_, Nat.le_trans joinL_len h⟩
  rcases joinL_mem hc with z | ⟨p, hp, z⟩
  · exact hS.1 c z
  · exact (hl p hp).1 c z
def rJoinA : V → List V → Hp → VK → Prop := fun x xs H Q => ∀ K : PySem.W.Frag, ∃ a p, ∃ ys : List Str, x = .str a ∧ xs = [.ref p] ∧ (SqL K H p (ys.map V.str) ∨ SqT K H p (ys.map V.str)) ∧ (ys.map (·.length)).sum + ys.length * a.length ≤ 16777216 ∧ Q (.str (Txt.join a ys)) H
theorem mt_joinA {Y : Cx} : MtR Y "str.join" rJoinA := fun pins s σ H x xs v us Q I rx rs h => mt_join pins s σ H x xs v us Q I rx rs (h Y.K)
theorem sem_join (P : Ow0) (H : Hp) (v u : V) (x y d : D) (Q : VK) (r1 : Rp (lim P H) v x) (r2 : Bp P H u y) (hg : dJoin x y = some d) (k : ∀ w, Rp (lim P H) w d → Q w H) : rJoinA v [u] H Q := by
  unfold dJoin at hg
  split at hg
  · rename_i sp ns hns
    split at hg
    · rename_i hz
      cases hg
      obtain ⟨a, rfl, ha, oka⟩ := r1.str_inv
      intro K
      have main : ∃ p, ∃ ys : List Str, u = .ref p ∧ (SqL K H p (ys.map V.str) ∨ SqT K H p (ys.map V.str)) ∧ ys.map TL.tl = ns ∧ ∀ l ∈ ns, SOk l := by
        rcases r2 with r2 | ⟨p, rfl, o⟩
        · cases y <;> simp only at hns <;> try cases hns
          · rename_i l
            obtain ⟨p, vs, rfl, hp, rp⟩ := r2.tup_inv
            rw [toStrs_some hns] at rp
            obtain ⟨ys, rfl, h1, h2⟩ := rps_strs rp
            exact ⟨p, ys, rfl, .inr (SqT.of (lim_get hp)), h1, h2⟩
          · rename_i l
            obtain ⟨p, vs, rfl, hp, rp⟩ := r2.lst_inv
            rw [toStrs_some hns] at rp
            obtain ⟨ys, rfl, h1, h2⟩ := rps_strs rp
            exact ⟨p, ys, rfl, .inl (SqL.of (lim_get hp)), h1, h2⟩
        · cases o with
          | lst hp rp =>
            simp only at hns
            rw [toStrs_some hns] at rp
            obtain ⟨ys, rfl, h1, h2⟩ := rps_strs rp
            exact ⟨p, ys, rfl, .inl (SqL.of hp), h1, h2⟩
          | dK _ _ => cases hns
          | dT _ _ => cases hns
      obtain ⟨p, ys, rfl, hq, h1, h2⟩ := main
      have ea : a.length = sp.length := by rw [← ha]; exact TL.len_tl a
      have el : (ys.map (·.length)) = ns.map List.length := by
        rw [← h1, List.map_map]
        exact List.map_congr_left fun x _ => TL.len_tl x
      have en : ys.length = ns.length := by rw [← h1, List.length_map]
      refine ⟨a, p, ys, rfl, rfl, hq, by rw [el, en, ea]; exact hz, k _ ?_⟩
      refine Rp.mkStr' ?_ (joinL_ok (by rw [← ha] at *; exact oka) h2 hz)
      have := TL.tl_join a ys
      rw [TL.join_eq, ← h1, ← ha]
      exact this
    · cases hg
  · cases hg
theorem dJoin_str {x y d : D} (h : dJoin x y = some d) : ∃ l, x = .str l := by
  unfold dJoin at h
  split at h
  · exact ⟨_, rfl⟩
  · cases h
theorem q_join (ho : QE X O o go) (he : QB X O e g) (hs : ∀ i, starEach [e] (X i).env = [(false, eval e (X i).env)] := by intro _; rfl) (hbase : ∀ i, attributeBase o "join" (X i).env (eval o (X i).env) = eval o (X i).env := by intro _; rfl) (hline : (apos.endLine == pos.line) = true := by rfl) :
    QE X O (.Call (.Attribute o "join" apos) [e] [] pos) (g2 dJoin go g) := by
  obtain ⟨t, q, s⟩ := ho
  obtain ⟨t2, q2, s2⟩ := he
  refine ⟨_, fun i => pe_m1 PySem.F.slot_str_join PySem.F.type_str_join mt_joinA (q i) (q2 i) (hs i) (hbase i) hline, fun P pf σ H δ d Q R hg k => ?_⟩
  obtain ⟨x, hx, hg⟩ := bind_some hg
  obtain ⟨y, hy, hg⟩ := bind_some hg
  refine s P pf σ H δ x _ R hx fun v H1 e1 r1 => ?_
  obtain ⟨l, rfl⟩ := dJoin_str hg
  obtain ⟨a, rfl, ha, _⟩ := r1.str_inv
  refine ⟨⟨a, rfl⟩, s2 P pf σ H1 δ y _ (R.same e1) hy fun u H2 e2 r2 => ?_⟩
  exact sem_join P H2 _ u _ y d Q (r1.ex (lim_same e2)) r2 hg fun w r => k w H2 (e1.trans e2) r
/-! ### methods of texts: find, count, index -/
def occL (x y : List Nat) (hi limit : Nat) : Nat → Nat → Nat → Nat → List Nat
  | 0, _, _, _ => []
  | n + 1, i, sz, free => if (decide (sz < limit) && decide (free ≤ i) && decide (i + y.length ≤ hi) && TL.pre y (x.drop i)) = true then i :: occL x y hi limit n (i + 1) (sz + 1) (i + y.length) else occL x y hi limit n (i + 1) sz free
theorem subAt_pre (x y : Str) (i : Nat) : Builtin.Str.subAt x y i = TL.pre y.cps.toList (x.cps.toList.drop i) := by
  unfold Builtin.Str.subAt TL.pre
  have h1 : (x.cps.extract i (i + y.length)).toList = (x.cps.toList.drop i).take y.cps.toList.length := by
    rw [Array.toList_extract]
    simp [List.extract, Str.length]
  have h2 : ∀ (a b : Array Nat), (a == b) = (a.toList == b.toList) := fun a b => by
    rw [Bool.eq_iff_iff, beq_iff_eq, beq_iff_eq, Array.toList_inj]
  rw [h2, h1]
theorem occ_go (s sub : Str) (hi limit : Nat) : ∀ (n i : Nat) (st : Array Nat × Nat), (forIn (List.range' i n) st (StrLaws.occBody s sub hi limit)).run.fst.toList = st.fst.toList ++ occL s.cps.toList sub.cps.toList hi limit n i st.fst.size st.snd
  | 0, i, st => by simp [occL]
  | n + 1, i, st => by
    rw [List.range'_succ, List.forIn_cons]
    unfold StrLaws.occBody
    have el : sub.length = sub.cps.toList.length := TL.len_tl sub
    have ep := subAt_pre s sub i
    unfold occL
    split
    · rename_i h
      have hc : (decide (st.fst.size < limit) && decide (st.snd ≤ i) && decide (i + sub.cps.toList.length ≤ hi) && TL.pre sub.cps.toList (s.cps.toList.drop i)) = true := by
        rw [← ep, ← el]
        simp [h.1.1.1, h.1.1.2, h.1.2, h.2]
      rw [if_pos hc]
      have := occ_go s sub hi limit n (i + 1) (st.fst.push i, i + sub.length)
      simp only [Array.size_push, Array.toList_push, List.append_assoc, List.singleton_append] at this
      rw [← el]
      exact this
    · rename_i h
      have hc : ¬ (decide (st.fst.size < limit) && decide (st.snd ≤ i) && decide (i + sub.cps.toList.length ≤ hi) && TL.pre sub.cps.toList (s.cps.toList.drop i)) = true := by
        rw [← ep, ← el]
        intro z
        simp only [Bool.and_eq_true, decide_eq_true_eq] at z
        exact h ⟨⟨⟨z.1.1.1, z.1.1.2⟩, z.1.2⟩, z.2⟩
      rw [if_neg hc]
      exact occ_go s sub hi limit n (i + 1) st
theorem occ_L (s sub : Str) (lo hi limit : Nat) : Builtin.Str.occurrences s sub lo hi limit = occL s.cps.toList sub.cps.toList hi limit (hi + 1 - lo) lo 0 lo := by
  rw [StrLaws.occ_eq, occ_go]
  rfl
def occs (x y : List Nat) (lo limit : Nat) : List Nat := occL x y x.length limit (x.length + 1 - lo) lo 0 lo
def MSem (r : V → List V → Hp → VK → Prop) (m : D → List D → Option D) : Prop := ∀ (P : Ow0) (H : Hp) (v : V) (x : D) (vs : List V) (ds : List D) (d : D) (Q : VK), (∀ b, P b → H b ≠ none) → Bp P H v x → Rps (lim P H) vs ds → m x ds = some d →
  (∀ u H', Same H H' → Rp (lim P H') u d → Q u H') → r v vs H Q
def gM (m : D → List D → Option D) (go : Ev → Option D) (gs : Ev → Option (List D)) : Ev → Option D := fun δ => (go δ).bind fun x => (gs δ).bind fun ds => m x ds
/-- what a method needs of its receiver -/
def TyD (T : String) : D → Bool
  | .str _ => T == "str"
  | .lst _ => T == "list"
  | _ => false
theorem tyV_of {P : Ow0} {H : Hp} {v : V} {x : D} {T : String} (r : Bp P H v x) (h : TyD T x = true) : ∀ K, tyV K T v H := by
  intro K
  rcases r with r | ⟨p, rfl, o⟩
  · cases r with
    | str x _ => exact beq_iff_eq.mp h
    | lst q _ => exact .inl ⟨beq_iff_eq.mp h, _, SqL.of (lim_get q)⟩
    | _ => cases h
  · cases o with
    | lst q _ => exact .inl ⟨beq_iff_eq.mp h, _, SqL.of q⟩
    | _ => cases h
theorem q_bm {T id : String} {name : Str} {r : V → List V → Hp → VK → Prop} {m : D → List D → Option D} (pa : PlainAttrs T) (slot : Slot T name id) (hty : typeOf (.builtin id) = pure (.type "method_descriptor")) (hm : ∀ i, MtR (X i) id r) (sem : MSem r m) (ht : ∀ x ds d, m x ds = some d → TyD T x = true)
    (ho : QB X O o go) (ha : QA X O (e :: es) gs) (hK : ∀ i, (X i).K = K := by intro _; rfl)
    (hbase : ∀ k, attributeBase o name (X k).env (eval o (X k).env) = eval o (X k).env := by intro _; rfl)
    (hfew : ∀ k, ((backTo pos (starEach (e :: es) (X k).env)).all (fun x => !x.1) && (backToKw pos (keywordEach [] (X k).env)).all (fun x => x.1.isSome) && decide ((e :: es).length + ([] : List Keyword).length + (if ([] : List Keyword).isEmpty then 0 else 1) < 30)) = true := by intro _; rfl)
    (hline : (apos.endLine == pos.line) = true := by rfl) (hs : ∀ k, starEach (e :: es) (X k).env = (false, eval e (X k).env) :: starEach es (X k).env := by intro _; rfl) (hplain : ∀ k, (backTo pos (starEach es (X k).env)).any (·.1) = false := by intro _; rfl) :
    QE X O (.Call (.Attribute o name apos) (e :: es) [] pos) (gM m go gs) := by
  obtain ⟨t, q, s⟩ := ho
  obtain ⟨ta, qa, sa⟩ := ha
  refine ⟨tBM K T r t ta, fun i => by rw [← hK i]; exact pe_bm pa slot hty (hm i) (q i) (qa i) (hbase i) (hfew i) hline (hs i) (hplain i), fun P pf σ H δ d Q R hg k => ?_⟩
  obtain ⟨x, hx, hg⟩ := bind_some hg
  obtain ⟨ds, hds, hg⟩ := bind_some hg
  refine s P pf σ H δ x _ R hx fun v H1 e1 r1 => ?_
  refine ⟨tyV_of r1 (ht x ds d hg) K, sa P pf σ H1 δ ds _ (R.same e1) hds fun vs H2 e2 r2 => ?_⟩
  exact sem P H2 v x vs ds d Q ((R.same e1).same e2).dom (r1.same e2) r2 hg fun u H3 e3 r3 => k u H3 ((e1.trans e2).trans e3) r3
def m_str_find : D → List D → Option D
  | .str x, [.str y] => some (.int (match occs x y 0 1 with | i :: _ => (i : Int) | [] => -1))
  | .str x, [.str y, .int i] => some (.int (match occs x y (fromIndex x.length i) 1 with | i :: _ => (i : Int) | [] => -1))
  | _, _ => none
def rFindA : V → List V → Hp → VK → Prop := fun x xs H Q => (∃ a b, x = .str a ∧ xs = [.str b] ∧ Q (.int (Txt.find a b)) H) ∨ (∃ (a b : Str) (i : Int), x = .str a ∧ xs = [.str b, .int i] ∧ Q (.int (Txt.find3 a b i)) H)
theorem MtR.or {Y : Cx} {id : String} {r r' : V → List V → Hp → VK → Prop} (h : MtR Y id r) (h' : MtR Y id r') : MtR Y id (fun x xs H Q => r x xs H Q ∨ r' x xs H Q) := by
  intro pins s σ H x xs v us Q I rx rs hq
  rcases hq with hq | hq
  · exact h pins s σ H x xs v us Q I rx rs hq
  · exact h' pins s σ H x xs v us Q I rx rs hq
theorem bp_str {P : Ow0} {H : Hp} {v : V} {l : List Nat} (r : Bp P H v (.str l)) : ∃ x : Str, v = .str x ∧ x.cps.toList = l ∧ SOk l := by
  rcases r with r | ⟨p, rfl, o⟩
  · exact r.str_inv
  · cases o
theorem sem_find : MSem rFindA m_str_find := fun P H v x vs ds d Q dom r rs hm k => by
  unfold m_str_find at hm
  split at hm
  · rename_i y
    cases hm
    obtain ⟨a, rfl, rfl, _⟩ := bp_str r
    cases rs with
    | cons r1 t =>
      cases t
      obtain ⟨b, rfl, rfl, _⟩ := r1.str_inv
      refine .inl ⟨a, b, rfl, rfl, k _ H (Same.refl H) ?_⟩
      unfold Txt.find occs
      rw [occ_L, TL.len_tl a]
      exact .int _
  · rename_i y i
    cases hm
    obtain ⟨a, rfl, rfl, _⟩ := bp_str r
    cases rs with
    | cons r1 t =>
      cases t with
      | cons r2 t =>
        cases t
        obtain ⟨b, rfl, rfl, _⟩ := r1.str_inv
        obtain rfl := r2.int_inv
        refine .inr ⟨a, b, _, rfl, rfl, k _ H (Same.refl H) ?_⟩
        unfold Txt.find3 occs
        rw [occ_L, TL.len_tl a]
        exact .int _
  · cases hm
theorem q_str_find (ho : QB X O o go) (ha : QA X O (e :: es) gs) (hK : ∀ i, (X i).K = K := by intro _; rfl)
    (hbase : ∀ k, attributeBase o "find" (X k).env (eval o (X k).env) = eval o (X k).env := by intro _; rfl)
    (hfew : ∀ k, ((backTo pos (starEach (e :: es) (X k).env)).all (fun x => !x.1) && (backToKw pos (keywordEach [] (X k).env)).all (fun x => x.1.isSome) && decide ((e :: es).length + ([] : List Keyword).length + (if ([] : List Keyword).isEmpty then 0 else 1) < 30)) = true := by intro _; rfl)
    (hline : (apos.endLine == pos.line) = true := by rfl) (hs : ∀ k, starEach (e :: es) (X k).env = (false, eval e (X k).env) :: starEach es (X k).env := by intro _; rfl) (hplain : ∀ k, (backTo pos (starEach es (X k).env)).any (·.1) = false := by intro _; rfl) :
    QE X O (.Call (.Attribute o "find" apos) (e :: es) [] pos) (gM m_str_find go gs) :=
  q_bm PySem.F.plainAttrs_str PySem.F.slot_str_find PySem.F.type_str_find (fun i => MtR.or mt_find mt_find3) sem_find (fun x ds d h => by unfold m_str_find at h; split at h <;> first | rfl | cases h) ho ha hK hbase hfew hline hs hplain
def m_str_count : D → List D → Option D
  | .str x, [.str y] => some (.int (occs x y 0 (x.length + 1)).length)
  | _, _ => none
theorem sem_count : MSem (fun x xs H Q => ∃ a b, x = .str a ∧ xs = [.str b] ∧ Q (.int (Txt.count a b)) H) m_str_count := fun P H v x vs ds d Q dom r rs hm k => by
  unfold m_str_count at hm
  split at hm
  · rename_i y
    cases hm
    obtain ⟨a, rfl, rfl, _⟩ := bp_str r
    cases rs with
    | cons r1 t =>
      cases t
      obtain ⟨b, rfl, rfl, _⟩ := r1.str_inv
      refine ⟨a, b, rfl, rfl, k _ H (Same.refl H) ?_⟩
      unfold Txt.count occs
      rw [occ_L, TL.len_tl a]
      exact .int _
  · cases hm
theorem q_str_count (ho : QB X O o go) (ha : QA X O (e :: es) gs) (hK : ∀ i, (X i).K = K := by intro _; rfl)
    (hbase : ∀ k, attributeBase o "count" (X k).env (eval o (X k).env) = eval o (X k).env := by intro _; rfl)
    (hfew : ∀ k, ((backTo pos (starEach (e :: es) (X k).env)).all (fun x => !x.1) && (backToKw pos (keywordEach [] (X k).env)).all (fun x => x.1.isSome) && decide ((e :: es).length + ([] : List Keyword).length + (if ([] : List Keyword).isEmpty then 0 else 1) < 30)) = true := by intro _; rfl)
    (hline : (apos.endLine == pos.line) = true := by rfl) (hs : ∀ k, starEach (e :: es) (X k).env = (false, eval e (X k).env) :: starEach es (X k).env := by intro _; rfl) (hplain : ∀ k, (backTo pos (starEach es (X k).env)).any (·.1) = false := by intro _; rfl) :
    QE X O (.Call (.Attribute o "count" apos) (e :: es) [] pos) (gM m_str_count go gs) :=
  q_bm PySem.F.plainAttrs_str PySem.F.slot_str_count PySem.F.type_str_count (fun i => mt_count) sem_count (fun x ds d h => by unfold m_str_count at h; split at h <;> first | rfl | cases h) ho ha hK hbase hfew hline hs hplain
end
end VS
namespace VS
open PySem PySem.Spec PyProof.Rows L2
/-! ### [.. for k in range(..)], drawn -/
def wRep (bd : D → Ev → Option Ev) (φ : WE) (pw : Addr) (δw : Ev) : Nat → Int → (List D → Prop) → Prop
  | 0, _, R => R []
  | n + 1, i, R => ∃ δ1, bd (.int i) δw = some δ1 ∧ φ pw δ1 fun d => wRep bd φ pw δw n (i + 1) fun l => R (d :: l)
def wLcR (φn : WE) (bd : D → Ev → Option Ev) (φ : WE) (vs : List Nat) : WE := fun pw δ R => φn pw δ fun n => ∃ m : Int, n = .int m ∧ -1000000 ≤ m ∧ m ≤ 1000000 ∧ wRep bd φ pw (wipeE δ vs) m.toNat 0 fun l => R (.lst l)
theorem po_swap {P₀ : Ow0} {O : List Nat} {pf : Nat → Addr} {A : Addr} : PO' (fun b => P₀ b ∨ b = A) O pf = fun b => PO' P₀ O pf b ∨ b = A := funext fun b => propext ⟨fun h => by
  rcases h with (h | h) | h
  · exact .inl (.inl h)
  · exact .inr h
  · exact .inl (.inr h), fun h => by
  rcases h with (h | h) | h
  · exact .inl (.inl h)
  · exact .inr h
  · exact .inl (.inr h)⟩
theorem ew_lcR {ta : TE} {t : TG} {te : TE} {vs O js : List Nat} {φn φ : WE} {bd : D → Ev → Option Ev} (hv : vs.all (fun v => !O.contains v) = true) (hj : js.all (fun j => vs.contains j) = true) (hn : EW O ta φn) (hg : EG O js t bd) {tt : TT} (ht : ET O tt cYes) (he : EW O te φ) : EW O (tLc (iRng1 (tCons ta tNil)) t tt te vs) (wLcR φn bd φ vs) := fun pw pl L P₀ H₀ pf σ H δ R Q S hφ k => by
  refine hn pw pl L P₀ H₀ pf σ H δ _ _ S hφ fun d v H1 hx S1 e1 r1 => ?_
  obtain ⟨m, rfl, m0, m1, hW⟩ := hx
  refine ⟨m, by rw [r1.int_inv], by omega, by omega, fun A nA => ?_⟩
  have hv' : ∀ v ∈ vs, v ∉ O := fun v h => nmem_of (by simpa using List.all_eq_true.mp hv v h)
  have hj' : ∀ j ∈ js, j ∈ vs := fun j h => List.contains_iff_mem.mp (List.all_eq_true.mp hj j h)
  have npA : A ≠ pw := fun z => S1.rs.dom pw (.inl S1.pw0) (by rw [← z]; exact nA)
  have nlA : pl ≠ A := fun z => S1.rs.dom pl (.inl S1.pl0) (by rw [z]; exact nA)
  refine ⟨fun i q H' => q = m.toNat - i ∧ i ≤ m.toNat ∧ SameW pw H1 H' ∧ WI pw pl L H' ∧ ∃ acc accd, H' A = some (.lst acc) ∧ Rps (lim (fun b => PO' P₀ O pf b ∨ b = A) H') acc accd ∧ acc.length ≤ i ∧ wRep bd φ pw (wipeE δ vs) (m.toNat - i) (0 + (i : Nat)) fun l => R (.lst (accd ++ l)),
    ⟨_, rfl, Nat.zero_le _, .of (same_new nA), S1.inv.same (same_new nA), [], [], upd_same, .nil, Nat.le_refl _, hW⟩, ?_⟩
  rintro i q H' ⟨rfl, hil, sm, wi, acc, accd, hA, ra, hal, hR⟩
  by_cases hlt : i < m.toNat
  · right
    obtain ⟨r, hr⟩ : ∃ r, m.toNat - i = r + 1 := ⟨m.toNat - i - 1, by omega⟩
    rw [hr] at hR
    obtain ⟨δ1, hb1, hφ1⟩ := hR
    refine ⟨hlt, fun H3 => SameW pw H1 H3 ∧ WI pw pl L H3 ∧ ∃ acc accd, H3 A = some (.lst acc) ∧ Rps (lim (fun b => PO' P₀ O pf b ∨ b = A) H3) acc accd ∧ acc.length ≤ i + 1 ∧ wRep bd φ pw (wipeE δ vs) r (0 + (i : Nat) + 1) fun l => R (.lst (accd ++ l)),
      fun H3 h3 => ⟨m.toNat - (i + 1), by omega, rfl, hlt, h3.1, h3.2.1, ?_⟩, ?_⟩
    · obtain ⟨a', b', h1, h2, h3, h4⟩ := h3.2.2
      refine ⟨a', b', h1, h2, h3, ?_⟩
      have e1 : m.toNat - (i + 1) = r := by omega
      have e2 : (0 : Int) + ((i + 1 : Nat) : Int) = 0 + (i : Nat) + 1 := by omega
      rw [e1, e2]; exact h4
    rintro x H2 ⟨rfl, rfl⟩
    -- the state in the block
    have sA : Same (lim (fun b => b = A) H2) H2 := lim_le
    have fA : (lim (fun b => b = A) H2) A = none := lim_no (P := fun b => b = A) rfl
    have eA : SameW pw H1 (lim (fun b => b = A) H2) := fun b o nb hb => by
      rw [lim_in (P := fun b => b = A) (ne_of_none hb nA)]; exact sm b o nb hb
    have wA : WI pw pl L (lim (fun b => b = A) H2) := by
      obtain ⟨n, n0, h1, h2⟩ := wi
      exact ⟨n, n0, by rw [lim_in (P := fun b => b = A) (fun z => npA z.symm)]; exact h1, by rw [lim_in (P := fun b => b = A) nlA]; exact h2⟩
    have SA := S1.turn eA wA
    have RA : RS O (fun b => PO' P₀ O pf b ∨ b = A) pf (L2.wipe σ vs) H2 (wipeE δ vs) := (SA.rs.grow sA fA (by rw [hA]; exact fun z => by cases z)).wipe hv'
    refine hg _ pf _ H2 _ δ1 _ _ _ RA (.int _) hb1 fun σ3 R3 w3 => ⟨?_, ?_⟩
    · rw [w3 vs hj', wipe_wipe fun u hu => hu]
    · refine ht _ pf σ3 H2 δ1 true _ R3 rfl fun H3 e3 => ?_
      rw [if_pos rfl]
      have SX : SW pw pl L (fun b => P₀ b ∨ b = A) (upd H₀ A (.lst acc)) O pf σ3 H2 δ1 := by
        refine ⟨by rw [po_swap]; exact R3, fun b o nb hb => ?_, fun i hi => ?_, S1.inj, fun b hb => ?_, wi, .inl S1.pw0, .inl S1.pl0⟩
        · by_cases z : b = A
          · subst z; rw [upd_same] at hb; rw [hA]; exact hb
          · rw [upd_ne z] at hb; exact sm b o nb (S1.ex b o nb hb)
        · have hp : pf i ≠ A := fun z => by
            obtain ⟨_, _, d, _, ow⟩ := S1.rs.own i hi
            exact ow.there (by rw [z]; exact nA)
          rw [upd_ne hp]; exact S1.fresh i hi
        · by_cases z : b = A
          · subst z; rw [upd_same]; exact fun z => by cases z
          · rw [upd_ne z]; exact S1.d0 b (hb.resolve_right z)
      refine he pw pl L _ _ pf σ3 H3 δ1 _ _ (SX.same e3) hφ1 fun d u H4 hd S4 e4 r4 => ?_
      rw [po_swap] at r4
      have e24 : SameW pw H2 H4 := (SameW.of e3).trans e4
      have hA4 : H4 A = some (.lst acc) := e24 A _ npA hA
      have lm : Same (lim (fun b => PO' P₀ O pf b ∨ b = A) H2) (lim (fun b => PO' P₀ O pf b ∨ b = A) H4) := lim_sameW e24 (.inl (.inl S1.pw0))
      refine ⟨acc, hA4, by rw [sizeLine_eq]; omega, fun b o nb hb => ?_, ?_, acc ++ [u], accd ++ [d], upd_same, ?_, by rw [List.length_append, List.length_singleton]; omega, ?_⟩
      · rw [upd_ne (ne_of_none hb nA)]
        exact e24 b o nb (sm b o nb hb)
      · obtain ⟨n, n0, h1, h2⟩ := S4.inv
        exact ⟨n, n0, by rw [upd_ne (fun z => npA z.symm)]; exact h1, by rw [upd_ne nlA]; exact h2⟩
      · rw [lim_updA]
        exact (ra.ex lm).append (.cons r4 .nil)
      · simp only [List.append_assoc, List.singleton_append]
        exact hd
  · left
    refine ⟨by show m.toNat ≤ i; omega, ?_⟩
    have ez : m.toNat - i = 0 := by omega
    rw [ez] at hR
    have hR : R (.lst (accd ++ [])) := hR
    rw [List.append_nil] at hR
    have S2 := S1.turn sm wi
    have pA : ¬ PO' P₀ O pf A := fun z => S1.rs.dom A z nA
    exact k _ _ H' hR S2 (e1.trans sm) (.lst (by rw [lim_in pA]; exact hA) (ra.ex (lim_mono fun b h => .inl h)))
section
variable {ι : Type} {X : Cxs ι} {O O1 Ob js : List Nat} {tg iter e a b c elt : Expr} {es ifs : List Expr} {g ga gb gc : Ev → Option D} {pos p p2 : Pos} {k : Nat} {φ φa φb φn : WE} {scope : Scope} {bd : D → Ev → Option Ev}
theorem qw_lcR (own : List (Str × Nat)) (ha : QW' X O a φn) (hm : ∀ i, (X i).mg "range" = none) (hg : QG (Blk X scope) O js tg bd) (he : QW' (Blk X scope) O elt φ) {N : List Str} {sc : Scope} (hN : ∀ i, (X i).N.Nodup) (ok : blkC N sc scope own = true) (hXN : ∀ i, (X i).N = N := by intro _; rfl) (hXs : ∀ i, (X i).env.scope = sc := by intro _; rfl) (hc : ∀ i, (X i).calm = true := by intro _; rfl)
    (hgl : ∀ i, Gl (X i) "range" := by intro _; rfl) (hst : ∀ i, starEach [a] (X i).env = [(false, eval a (X i).env)] := by intro _; rfl)
    (hv : (own.map (·.2)).all (fun v => !O.contains v) = true := by rfl) (hj : js.all (fun j => (own.map (·.2)).contains j) = true := by rfl) (hs : ∀ i x, foldedSetIterable (.Call (.Name "range" p) [a] [] p2) (X i).env x = pure x := by intro _ _; rfl) : QW' X O (.ListComp elt [⟨tg, .Call (.Name "range" p) [a] [] p2, [], 0⟩] scope pos) (wLcR φn bd φ (own.map (·.2))) := by
  obtain ⟨t, pa, ea⟩ := ha
  obtain ⟨u, pt, et⟩ := hg
  obtain ⟨te, pe, ee⟩ := he
  obtain ⟨tt, ptt, ett⟩ := (qts_nil : QTs (Blk X scope) O [] cYes)
  exact ⟨_, fun i => pe_lc (hc i) (hN i) (pi_range1 (hgl i) (hm i) (pa_cons (pa i) pa_nil ((hst i).trans rfl)) (hst i)) (blkOk_by (by rw [hXN i, hXs i]; exact ok)) (fun s H C cl fp => pt (i, s, H, C, cl, fp)) (fun s H C cl fp => ptt (i, s, H, C, cl, fp)) (fun s H C cl fp => pe (i, s, H, C, cl, fp)) (hs i), ew_lcR hv hj ea et ett ee⟩
/-- SEP.join(drawn) -/
def wJoin (l : List Nat) (φ : WE) : WE := fun pw δ R => φ pw δ fun b => ∃ d, dJoin (.str l) b = some d ∧ R d
theorem qw_join {o : Expr} {l : List Nat} {apos : Pos} (ho : QE X O o (gC (.str l))) (he : QW' X O e φ) (hs : ∀ i, starEach [e] (X i).env = [(false, eval e (X i).env)] := by intro _; rfl) (hbase : ∀ i, attributeBase o "join" (X i).env (eval o (X i).env) = eval o (X i).env := by intro _; rfl) (hline : (apos.endLine == pos.line) = true := by rfl) :
    QW' X O (.Call (.Attribute o "join" apos) [e] [] pos) (wJoin l φ) := by
  obtain ⟨t, q, s⟩ := ho
  obtain ⟨t2, q2, s2⟩ := he
  refine ⟨_, fun i => pe_m1 PySem.F.slot_str_join PySem.F.type_str_join mt_joinA (q i) (q2 i) (hs i) (hbase i) hline, fun pw pl L P₀ H₀ pf σ H δ R Q S hφ k => ?_⟩
  refine s _ pf σ H δ _ _ S.rs rfl fun v H1 e1 r1 => ?_
  have S1 := S.same e1
  obtain ⟨a, rfl, ha, oka⟩ := r1.str_inv
  refine ⟨⟨a, rfl⟩, s2 pw pl L P₀ H₀ pf σ H1 δ _ _ S1 hφ fun d u H2 hd S2 e2 r2 => ?_⟩
  obtain ⟨z, hz, hR⟩ := hd
  exact sem_join _ H2 _ u _ d z Q (rp_turn S1 e2 r1) (.inl r2) hz fun w r => k z w H2 hR S2 ((SameW.of e1).trans e2) r
end
end VS
namespace VS
open PySem PySem.Spec PyProof.Rows L2
/-! ### x, y = .., ..; some of them new and owned -/
theorem po_own {P₀ : Ow0} {O : List Nat} {pf : Nat → Addr} {i : Nat} {p : Addr} (hi : i ∉ O) : PO' P₀ (i :: O) (updF pf i p) = fun b => PO' P₀ O pf b ∨ b = p := funext fun b => propext ⟨fun h => by
  rcases h with h | ⟨j, hj, e⟩
  · exact .inl (.inl h)
  · rcases List.mem_cons.mp hj with z | z
    · subst z; rw [updF_same] at e; exact .inr e.symm
    · rw [updF_ne (fun q => hi (by rw [← q]; exact z))] at e; exact .inl (.inr ⟨j, z, e⟩), fun h => by
  rcases h with (h | ⟨j, hj, e⟩) | h
  · exact .inl h
  · exact .inr ⟨j, List.mem_cons_of_mem _ hj, by rw [updF_ne (fun q => hi (by rw [← q]; exact hj))]; exact e⟩
  · exact .inr ⟨i, List.mem_cons_self, by rw [updF_same]; exact h.symm⟩⟩
structure Par (P₀ : Ow0) (H₀ : Hp) (O O' : List Nat) (pf pf' : Nat → Addr) (σ σ' : L2.St) (H : Hp) (δ δ' : Ev) : Prop where
  si : SI P₀ H₀ O' pf' σ' H δ'
  rs : RS O (PO' P₀ O' pf') pf σ H δ
def EXf (fl : Bool) (O : List Nat) (t : TE) (g : Ev → Option D) : Prop := match fl with | true => EF O t g | false => EP O t g
def QX {ι : Type} (X : Cxs ι) (O : List Nat) (fl : Bool) (e : Expr) (g : Ev → Option D) : Prop := match fl with | true => QF X O e g | false => QE X O e g
theorem QX.get {ι : Type} {X : Cxs ι} {O : List Nat} {fl : Bool} {e : Expr} {g : Ev → Option D} (h : QX X O fl e g) : ∃ t, (∀ i, PE (X i) e t) ∧ EXf fl O t g := by
  cases fl <;> exact h
def addO (fl : Bool) (i : Nat) (O : List Nat) : List Nat := match fl with | true => i :: O | false => O
theorem Par.step {P₀ : Ow0} {H₀ : Hp} {O O' : List Nat} {pf pf' : Nat → Addr} {σ σ' : L2.St} {H : Hp} {δ δ' : Ev} (S : Par P₀ H₀ O O' pf pf' σ σ' H δ δ') {fl : Bool} {t : TE} {g : Ev → Option D} {d : D} {i : Nat} {Q : VK} (he : EXf fl O t g) (hd : g δ = some d) (hi : i ∉ O') (hl : i < δ'.length)
    (k : ∀ v H1 pf1, Par P₀ H₀ O (addO fl i O') pf pf1 σ (σ'.set i (some v)) H1 δ (δ'.set i d) → Q v H1) : t σ H Q := by
  cases fl with
  | false =>
    refine he _ pf σ H δ d Q S.rs hd fun v H1 e1 r1 => k v H1 pf' ⟨(S.si.same e1).set hi r1, S.rs.same e1⟩
  | true =>
    refine he _ pf σ H δ d Q S.rs hd fun p H1 np e1 o1 => k _ H1 (updF pf' i p) ⟨S.si.own hi hl np e1 o1, ?_⟩
    show RS O (PO' P₀ (i :: O') (updF pf' i p)) pf σ H1 δ
    rw [po_own hi]
    exact S.rs.grow e1 np o1.there
def sPar2f (i j : Nat) (ga gb : Ev → Option D) : Ev → Option Out := fun δ => if i < δ.length ∧ j < δ.length then (ga δ).bind fun a => (gb δ).bind fun b => some (.nx ((δ.set i a).set j b)) else none
def sPar3f (i j l : Nat) (ga gb gc : Ev → Option D) : Ev → Option Out := fun δ => if i < δ.length ∧ j < δ.length ∧ l < δ.length then (ga δ).bind fun a => (gb δ).bind fun b => (gc δ).bind fun c => some (.nx (((δ.set i a).set j b).set l c)) else none
section
variable {ι : Type} {X : Cxs ι} {O O1 Ob js : List Nat} {e a b c o : Expr} {es : List Expr} {g ga gb gc go : Ev → Option D} {pos p apos : Pos} {kk : Nat} {K : PySem.W.Frag}
theorem qs_par2f (fa fb : Bool) (i j : Nat) {x y : Str} {px py pt : Pos} {kt k2 pt2} (ha : QX X O fa a ga) (hb : QX X O fb b gb) (hN : ∀ k, (X k).N.Nodup) (hi : ∀ k, (X k).N[i]? = some x := by intro _; rfl) (hj : ∀ k, (X k).N[j]? = some y := by intro _; rfl) (hij : i ≠ j := by decide)
    (hx : ∀ k, (X k).env.scope.names.lookup x = some .local := by intro _; rfl) (hy : ∀ k, (X k).env.scope.names.lookup y = some .local := by intro _; rfl) (hiO : O.contains i = false := by rfl) (hjO : (addO fa i O).contains j = false := by rfl)
    (hw : ∀ k, swappedStores [.Tuple [.Name x px, .Name y py] kt pt] (.Tuple [a, b] k2 pt2) (X k).env = pure (some [x, y]) := by intro _; rfl)
    (hs : ∀ k, swapsWithSole [.Tuple [.Name x px, .Name y py] kt pt] (.Tuple [a, b] k2 pt2) pos.line (X k).env = pure false := by intro _; rfl) (hc : ∀ i, (X i).calm = true := by intro _; rfl)
    (h1 : ∀ i, starEach [a, b] (X i).env = (false, eval a (X i).env) :: starEach [b] (X i).env := by intro _; rfl) (h2 : ∀ i, starEach [b] (X i).env = (false, eval b (X i).env) :: starEach [] (X i).env := by intro _; rfl) :
    QS X O (addO fb j (addO fa i O)) Ob (.Assign [.Tuple [.Name x px, .Name y py] kt pt] (.Tuple [a, b] k2 pt2) pos) (sPar2f i j ga gb) := by
  obtain ⟨ta, pa, ea⟩ := ha.get
  obtain ⟨tb, pb, eb⟩ := hb.get
  refine ⟨_, fun k => ps_par (hc k) (hN k) (hi k) (hj k) hij (hx k) (hy k) (pa_cons (pa k) (pa_cons (pb k) pa_nil (h2 k)) (h1 k)) (hw k) (hs k), fun P₀ H₀ pf σ H δ Dn r S hF k => ?_⟩
  unfold sPar2f at hF
  split at hF
  · rename_i hl
    obtain ⟨d, hd, hF⟩ := bind_some hF
    obtain ⟨d', hd', hF⟩ := bind_some hF
    cases hF
    refine (⟨S, S.rs⟩ : Par P₀ H₀ O O pf pf σ σ H δ δ).step ea hd (nmem_of hiO) hl.1 fun v H1 pf1 S1 => ?_
    refine S1.step eb hd' (nmem_of hjO) (by rw [List.length_set]; exact hl.2) fun v' H2 pf2 S2 => ?_
    exact ⟨v, v', rfl, k pf2 _ H2 S2.si⟩
  · cases hF
theorem qs_par3f (fa fb fc : Bool) (i j l : Nat) {x y z : Str} {px py pz pt : Pos} {kt k2 pt2} (ha : QX X O fa a ga) (hb : QX X O fb b gb) (hc' : QX X O fc c gc) (hN : ∀ k, (X k).N.Nodup) (hi : ∀ k, (X k).N[i]? = some x := by intro _; rfl) (hj : ∀ k, (X k).N[j]? = some y := by intro _; rfl) (hl : ∀ k, (X k).N[l]? = some z := by intro _; rfl) (hij : i ≠ j := by decide) (hil : i ≠ l := by decide) (hjl : j ≠ l := by decide)
    (hx : ∀ k, (X k).env.scope.names.lookup x = some .local := by intro _; rfl) (hy : ∀ k, (X k).env.scope.names.lookup y = some .local := by intro _; rfl) (hz : ∀ k, (X k).env.scope.names.lookup z = some .local := by intro _; rfl) (hiO : O.contains i = false := by rfl) (hjO : (addO fa i O).contains j = false := by rfl) (hlO : (addO fb j (addO fa i O)).contains l = false := by rfl)
    (hw : ∀ k, swappedStores [.Tuple [.Name x px, .Name y py, .Name z pz] kt pt] (.Tuple [a, b, c] k2 pt2) (X k).env = pure (some [x, y, z]) := by intro _; rfl)
    (hs : ∀ k, swapsWithSole [.Tuple [.Name x px, .Name y py, .Name z pz] kt pt] (.Tuple [a, b, c] k2 pt2) pos.line (X k).env = pure false := by intro _; rfl) (hc : ∀ i, (X i).calm = true := by intro _; rfl)
    (h1 : ∀ i, starEach [a, b, c] (X i).env = (false, eval a (X i).env) :: starEach [b, c] (X i).env := by intro _; rfl) (h2 : ∀ i, starEach [b, c] (X i).env = (false, eval b (X i).env) :: starEach [c] (X i).env := by intro _; rfl) (h3 : ∀ i, starEach [c] (X i).env = (false, eval c (X i).env) :: starEach [] (X i).env := by intro _; rfl) :
    QS X O (addO fc l (addO fb j (addO fa i O))) Ob (.Assign [.Tuple [.Name x px, .Name y py, .Name z pz] kt pt] (.Tuple [a, b, c] k2 pt2) pos) (sPar3f i j l ga gb gc) := by
  obtain ⟨ta, pa, ea⟩ := ha.get
  obtain ⟨tb, pb, eb⟩ := hb.get
  obtain ⟨tc, pc, ec⟩ := hc'.get
  refine ⟨_, fun k => ps_par3 (hc k) (hN k) (hi k) (hj k) (hl k) hij hil hjl (hx k) (hy k) (hz k) (pa_cons (pa k) (pa_cons (pb k) (pa_cons (pc k) pa_nil (h3 k)) (h2 k)) (h1 k)) (hw k) (hs k), fun P₀ H₀ pf σ H δ Dn r S hF k => ?_⟩
  unfold sPar3f at hF
  split at hF
  · rename_i hl
    obtain ⟨d, hd, hF⟩ := bind_some hF
    obtain ⟨d', hd', hF⟩ := bind_some hF
    obtain ⟨d2, hd2, hF⟩ := bind_some hF
    cases hF
    refine (⟨S, S.rs⟩ : Par P₀ H₀ O O pf pf σ σ H δ δ).step ea hd (nmem_of hiO) hl.1 fun v H1 pf1 S1 => ?_
    refine S1.step eb hd' (nmem_of hjO) (by rw [List.length_set]; exact hl.2.1) fun v' H2 pf2 S2 => ?_
    refine S2.step ec hd2 (nmem_of hlO) (by rw [List.length_set, List.length_set]; exact hl.2.2) fun v2 H3 pf3 S3 => ?_
    exact ⟨v, v', v2, rfl, k pf3 _ H3 S3.si⟩
  · cases hF
end
end VS
namespace VS
open PySem
def mkR (o : Option Out) : Option D := o.bind fun o => match o with
  | .ret d => some d
  | .nx _ => some .non
  | _ => none
theorem rngD_zero (lo : Int) : rngD lo 0 = [] := rfl
theorem rngD_succ (lo : Int) (n : Nat) : rngD lo (n + 1) = .int lo :: rngD (lo + 1) n := by
  unfold rngD
  rw [List.range_succ_eq_map, List.map_cons, List.map_map]
  refine congr (congrArg _ (by simp)) (List.map_congr_left fun i _ => ?_)
  simp only [Function.comp]
  rw [show ((Nat.succ i : Nat) : Int) = (i : Int) + 1 from Int.natCast_succ i, Int.add_assoc, Int.add_comm 1]
theorem rngD_len (lo : Int) (n : Nat) : (rngD lo n).length = n := by unfold rngD; simp
def rOk (n : Int) : Bool := decide (n.natAbs < 4611686018427387904)
theorem rOk_nat (n : Nat) (h : n ≤ 1000000) : rOk n = true := decide_eq_true (by omega)
theorem rOk_of (n : Int) (h : -1000000 ≤ n) (h' : n ≤ 1000000) : rOk n = true := decide_eq_true (by omega)
theorem iR1_eq (g : Ev → Option D) (δ : Ev) : iR1 g δ = (g δ).bind fun d => match d with
  | .int n => if rOk n = true then some (rngD 0 n.toNat) else none
  | _ => none := by
  unfold iR1 rOk
  cases g δ with
  | none => rfl
  | some a =>
    cases a <;> simp only [Option.bind_some, decide_eq_true_eq]
theorem iR2_eq (ga gb : Ev → Option D) (δ : Ev) : iR2 ga gb δ = (ga δ).bind fun a => (gb δ).bind fun b => match a, b with
  | .int i, .int j => if rOk i = true ∧ rOk j = true then some (rngD i (j - i).toNat) else none
  | _, _ => none := by
  unfold iR2 rOk
  cases ga δ with
  | none => rfl
  | some a =>
    cases gb δ with
    | none => rfl
    | some b => cases a <;> cases b <;> simp only [Option.bind_some, decide_eq_true_eq]
theorem cMul_r {i j : Int} (h1 : -1000000 ≤ j) (h2 : j ≤ 1000000) : cMul i j = true := by
  unfold cMul
  rw [decide_eq_true (p := j.natAbs < _) (by omega), Bool.or_true]
theorem cMul_l {i j : Int} (h1 : -1000000 ≤ i) (h2 : i ≤ 1000000) : cMul i j = true := by
  unfold cMul
  rw [decide_eq_true (p := i.natAbs < _) (by omega), Bool.true_or]
theorem toNat_nat (n : Nat) : ((n : Int)).toNat = n := Int.toNat_natCast n
end VS
namespace VS
/-! comprehensions -/
theorem compL_map {bd : D → Ev → Option Ev} {c : Ev → Option Bool} {e : Ev → Option D} {δw : Ev} (f : D → D) : ∀ {l : List D}, (∀ d ∈ l, ∃ δ1, bd d δw = some δ1 ∧ c δ1 = some true ∧ e δ1 = some (f d)) → compL bd c e δw l = some (l.map f)
  | [], _ => rfl
  | d :: r, h => by
    obtain ⟨δ1, h1, h2, h3⟩ := h d List.mem_cons_self
    unfold compL
    simp only [h1, h2, h3, Option.bind_some, if_true, compL_map f fun x hx => h x (List.mem_cons_of_mem _ hx), List.map_cons]
theorem compL_filter {bd : D → Ev → Option Ev} {c : Ev → Option Bool} {e : Ev → Option D} {δw : Ev} (p : D → Bool) (f : D → D) : ∀ {l : List D}, (∀ d ∈ l, ∃ δ1, bd d δw = some δ1 ∧ c δ1 = some (p d) ∧ (p d = true → e δ1 = some (f d))) → compL bd c e δw l = some ((l.filter p).map f)
  | [], _ => rfl
  | d :: r, h => by
    obtain ⟨δ1, h1, h2, h3⟩ := h d List.mem_cons_self
    have ih := compL_filter (δw := δw) (bd := bd) (c := c) (e := e) p f (l := r) fun x hx => h x (List.mem_cons_of_mem _ hx)
    unfold compL
    cases hp : p d with
    | true => simp only [h1, h2, hp, h3 hp, Option.bind_some, if_true, ih, List.filter_cons_of_pos hp, List.map_cons]
    | false => simp only [h1, h2, hp, Option.bind_some, ih, Bool.false_eq_true, if_false, List.filter_cons_of_neg (show ¬ p d = true by rw [hp]; decide)]
theorem mem_rngD {lo : Int} {n : Nat} {d : D} (h : d ∈ rngD lo n) : ∃ i : Nat, i < n ∧ d = .int (lo + i) := by
  unfold rngD at h
  obtain ⟨i, hi, rfl⟩ := List.mem_map.mp h
  exact ⟨i, List.mem_range.mp hi, rfl⟩
end VS
namespace VS
theorem forL_step {b : D → Ev → Option Ev} {F : Ev → Option Out} {d : D} {r : List D} {δ δ1 δ2 : Ev} (hb : b d δ = some δ1) (hF : F δ1 = some (.nx δ2)) : forL b F (d :: r) δ = forL b F r δ2 := by
  rw [forL, hb, Option.bind_some, hF, Option.bind_some]
theorem forL_ct {b : D → Ev → Option Ev} {F : Ev → Option Out} {d : D} {r : List D} {δ δ1 δ2 : Ev} (hb : b d δ = some δ1) (hF : F δ1 = some (.ct δ2)) : forL b F (d :: r) δ = forL b F r δ2 := by
  rw [forL, hb, Option.bind_some, hF, Option.bind_some]
theorem forL_ret {b : D → Ev → Option Ev} {F : Ev → Option Out} {d x : D} {r : List D} {δ δ1 : Ev} (hb : b d δ = some δ1) (hF : F δ1 = some (.ret x)) : forL b F (d :: r) δ = some (.ret x) := by
  rw [forL, hb, Option.bind_some, hF, Option.bind_some]
theorem forL_bk {b : D → Ev → Option Ev} {F : Ev → Option Out} {d : D} {r : List D} {δ δ1 δ2 : Ev} (hb : b d δ = some δ1) (hF : F δ1 = some (.bk δ2)) : forL b F (d :: r) δ = some (.nx δ2) := by
  rw [forL, hb, Option.bind_some, hF, Option.bind_some]
theorem whileF_step {c : Ev → Option Bool} {F : Ev → Option Out} {n : Nat} {δ δ2 : Ev} (hc : c δ = some true) (hF : F δ = some (.nx δ2)) : whileF c F (n + 1) δ = whileF c F n δ2 := by
  rw [whileF, hc, Option.bind_some, if_pos rfl, hF, Option.bind_some]
theorem whileF_end {c : Ev → Option Bool} {F : Ev → Option Out} {n : Nat} {δ : Ev} (hc : c δ = some false) : whileF c F (n + 1) δ = some (.nx δ) := by
  rw [whileF, hc, Option.bind_some, if_neg (by decide)]
theorem whileF_ret {c : Ev → Option Bool} {F : Ev → Option Out} {n : Nat} {δ : Ev} {x : D} (hc : c δ = some true) (hF : F δ = some (.ret x)) : whileF c F (n + 1) δ = some (.ret x) := by
  rw [whileF, hc, Option.bind_some, if_pos rfl, hF, Option.bind_some]
end VS
namespace VS
open PySem PySem.Spec L2
theorem sIx_nat (n i d : Nat) : HT.sIx n d (some (i : Int)) = min i n := by
  unfold HT.sIx
  simp only
  split <;> omega
theorem sIx_none (n d : Nat) : HT.sIx n d none = d := rfl
theorem cut_nat {α : Type} (l : List α) (i j : Nat) : cut l (some (i : Int)) (some (j : Int)) = (l.drop i).take (j - i) := by
  unfold cut
  rw [sIx_nat, sIx_nat]
  by_cases h : i ≤ l.length
  · rw [Nat.min_eq_left h]
    by_cases h2 : j ≤ l.length
    · rw [Nat.min_eq_left h2]
    · rw [Nat.min_eq_right (Nat.le_of_lt (Nat.lt_of_not_le h2)), List.take_of_length_le (by rw [List.length_drop]; omega), List.take_of_length_le (by rw [List.length_drop]; omega)]
  · have e1 : l.drop i = [] := List.drop_eq_nil_of_le (by omega)
    rw [Nat.min_eq_right (Nat.le_of_lt (Nat.lt_of_not_le h)), e1]
    simp
theorem cut_to {α : Type} (l : List α) (j : Nat) : cut l none (some (j : Int)) = l.take j := by
  unfold cut
  rw [sIx_nat, sIx_none, List.drop_zero, Nat.sub_zero]
  by_cases h2 : j ≤ l.length
  · rw [Nat.min_eq_left h2]
  · rw [Nat.min_eq_right (Nat.le_of_lt (Nat.lt_of_not_le h2)), List.take_of_length_le (by omega), List.take_of_length_le (by omega)]
theorem cut_from {α : Type} (l : List α) (i : Nat) : cut l (some (i : Int)) none = l.drop i := by
  unfold cut
  rw [sIx_nat, sIx_none]
  by_cases h : i ≤ l.length
  · rw [Nat.min_eq_left h, List.take_of_length_le (by rw [List.length_drop]; omega)]
  · have e1 : l.drop i = [] := List.drop_eq_nil_of_le (by omega)
    rw [Nat.min_eq_right (Nat.le_of_lt (Nat.lt_of_not_le h)), e1]
    simp
theorem cut_last {α : Type} (l : List α) : cut l none (some (-1)) = l.dropLast := by
  unfold cut
  rw [sIx_none, List.drop_zero, Nat.sub_zero, List.dropLast_eq_take]
  congr 1
  unfold HT.sIx
  simp only
  split <;> omega
theorem atI_last {α : Type} (l : List α) (a : α) : atI (l ++ [a]) (-1) = some a := by
  unfold atI ixN
  have h : (-1 + ((l ++ [a]).length : Int)).toNat = l.length := by rw [List.length_append, List.length_singleton]; omega
  rw [if_neg (by omega), if_pos (by rw [List.length_append, List.length_singleton]; omega), Option.bind_some, h]
  simp
theorem atI_last2 {α : Type} (l : List α) (a b : α) : atI (l ++ [a, b]) (-2) = some a := by
  unfold atI ixN
  have h : (-2 + ((l ++ [a, b]).length : Int)).toNat = l.length := by rw [List.length_append]; show (-2 + ((l.length + 2 : Nat) : Int)).toNat = _; omega
  rw [if_neg (by omega), if_pos (by rw [List.length_append]; show -((l.length + 2 : Nat) : Int) ≤ _; omega), Option.bind_some, h]
  simp
theorem atI_nat' {α : Type} (l : List α) (i : Nat) : atI l (i : Int) = l[i]? := by
  unfold atI ixN
  rw [if_pos (by omega)]
  by_cases h : (i : Int) < l.length
  · rw [if_pos h]; rfl
  · rw [if_neg h]
    exact (List.getElem?_eq_none (by omega)).symm
theorem bitAnd_one (n : Nat) : Builtin.bitAnd n 1 = ((n % 2 : Nat) : Int) := by
  unfold Builtin.bitAnd
  rw [decide_eq_true (by omega : (0 : Int) ≤ n)]
  show ((n &&& 1 : Nat) : Int) = _
  rw [Nat.and_one_is_mod]
theorem joinL_nil : ∀ l : List (List Nat), TL.joinL [] l = l.flatten
  | [] => rfl
  | [p] => by simp [TL.joinL]
  | p :: q :: r => by
    rw [TL.joinL, joinL_nil (q :: r)]
    simp
end VS
namespace VS
theorem dAdd_int (i j : Int) : dAdd (.int i) (.int j) = some (.int (i + j)) := rfl
end VS
namespace VS
open L2
theorem atI_0 {α : Type} (a : α) (l : List α) : atI (a :: l) 0 = some a := atI_nat' (a :: l) 0
theorem atI_1 {α : Type} (a b : α) (l : List α) : atI (a :: b :: l) 1 = some b := atI_nat' (a :: b :: l) 1
theorem atI_2 {α : Type} (a b c : α) (l : List α) : atI (a :: b :: c :: l) 2 = some c := atI_nat' (a :: b :: c :: l) 2
end VS
namespace VS
open L2
theorem atI_end2 {α : Type} (l : List α) (a b : α) : atI (l ++ [a, b]) (-1) = some b := by
  have e := atI_last (l ++ [a]) b
  rw [List.append_assoc] at e
  exact e
theorem fromIndex_nat (n i : Nat) : PySem.fromIndex n (i : Int) = i := by
  unfold PySem.fromIndex
  omega
end VS
namespace VS
theorem sSeq_nx {F G : Ev → Option Out} {δ δ' : Ev} {o : Option Out} (h : F δ = some (.nx δ')) (h' : G δ' = o) : sSeq F G δ = o := by
  unfold sSeq
  rw [h, Option.bind_some]
  exact h'
theorem dNe_refl_str (a : List Nat) : dNe (.str a) (.str a) = some (.bl false) := by
  unfold dNe
  rw [if_pos ⟨Nat.zero_le _, Nat.zero_le _⟩]
  simp [deq]
theorem dEq_refl_str (a : List Nat) : dEq (.str a) (.str a) = some (.bl true) := by
  unfold dEq
  rw [if_pos ⟨Nat.zero_le _, Nat.zero_le _⟩]
  simp [deq]
end VS
namespace G03
open PySem PySem.Spec PyProof.Rows L2 VS
/-! printed by gen.py -/
def topS (i : Nat) : Stmt := PySem.Challenge.pw_shorthold_k03_whole_known_numbers_in_bit.main.body.getD i (.Pass ⟨0, 0, 0, 0⟩)
structure Txt (K : PySem.W.Frag) (mg : Str → Option Value) where
  f_is_number : Addr
  d_is_number : FuncData
  F_is_number : Fun K "is_number" "is_number" (topS 1) f_is_number d_is_number
  g_is_number : mg "is_number" = some (.ref f_is_number)
  b_is_number : Binds K d_is_number ["thing"] []
  f_is_below : Addr
  d_is_below : FuncData
  F_is_below : Fun K "is_below" "is_below" (topS 2) f_is_below d_is_below
  g_is_below : mg "is_below" = some (.ref f_is_below)
  b_is_below : Binds K d_is_below ["thing", "many"] []
  f_two_to : Addr
  d_two_to : FuncData
  F_two_to : Fun K "two_to" "two_to" (topS 3) f_two_to d_two_to
  g_two_to : mg "two_to" = some (.ref f_two_to)
  b_two_to : Binds K d_two_to ["n"] []
  f_digits_of : Addr
  d_digits_of : FuncData
  F_digits_of : Fun K "digits_of" "digits_of" (topS 4) f_digits_of d_digits_of
  g_digits_of : mg "digits_of" = some (.ref f_digits_of)
  b_digits_of : Binds K d_digits_of ["n", "many"] []
  f_binary : Addr
  d_binary : FuncData
  F_binary : Fun K "binary" "binary" (topS 5) f_binary d_binary
  g_binary : mg "binary" = some (.ref f_binary)
  b_binary : Binds K d_binary ["n"] []
  f_number_of_bits : Addr
  d_number_of_bits : FuncData
  F_number_of_bits : Fun K "number_of_bits" "number_of_bits" (topS 6) f_number_of_bits d_number_of_bits
  g_number_of_bits : mg "number_of_bits" = some (.ref f_number_of_bits)
  b_number_of_bits : Binds K d_number_of_bits ["bits"] []
  f_unary : Addr
  d_unary : FuncData
  F_unary : Fun K "unary" "unary" (topS 8) f_unary d_unary
  g_unary : mg "unary" = some (.ref f_unary)
  b_unary : Binds K d_unary ["n"] []
  f_gamma : Addr
  d_gamma : FuncData
  F_gamma : Fun K "gamma" "gamma" (topS 9) f_gamma d_gamma
  g_gamma : mg "gamma" = some (.ref f_gamma)
  b_gamma : Binds K d_gamma ["n"] []
  f_delta : Addr
  d_delta : FuncData
  F_delta : Fun K "delta" "delta" (topS 10) f_delta d_delta
  g_delta : mg "delta" = some (.ref f_delta)
  b_delta : Binds K d_delta ["n"] []
  f_rice : Addr
  d_rice : FuncData
  F_rice : Fun K "rice" "rice" (topS 11) f_rice d_rice
  g_rice : mg "rice" = some (.ref f_rice)
  b_rice : Binds K d_rice ["n", "k"] []
  f_rest_width : Addr
  d_rest_width : FuncData
  F_rest_width : Fun K "rest_width" "rest_width" (topS 12) f_rest_width d_rest_width
  g_rest_width : mg "rest_width" = some (.ref f_rest_width)
  b_rest_width : Binds K d_rest_width ["m"] []
  f_golomb : Addr
  d_golomb : FuncData
  F_golomb : Fun K "golomb" "golomb" (topS 13) f_golomb d_golomb
  g_golomb : mg "golomb" = some (.ref f_golomb)
  b_golomb : Binds K d_golomb ["n", "m"] []
  f_steps_up_to : Addr
  d_steps_up_to : FuncData
  F_steps_up_to : Fun K "steps_up_to" "steps_up_to" (topS 14) f_steps_up_to d_steps_up_to
  g_steps_up_to : mg "steps_up_to" = some (.ref f_steps_up_to)
  b_steps_up_to : Binds K d_steps_up_to ["n"] []
  f_by_two : Addr
  d_by_two : FuncData
  F_by_two : Fun K "by_two" "by_two" (topS 15) f_by_two d_by_two
  g_by_two : mg "by_two" = some (.ref f_by_two)
  b_by_two : Binds K d_by_two ["n"] []
  f_write_number : Addr
  d_write_number : FuncData
  F_write_number : Fun K "write_number" "write_number" (topS 16) f_write_number d_write_number
  g_write_number : mg "write_number" = some (.ref f_write_number)
  b_write_number : Binds K d_write_number ["kind", "n"] []
  f_read_unary : Addr
  d_read_unary : FuncData
  F_read_unary : Fun K "read_unary" "read_unary" (topS 17) f_read_unary d_read_unary
  g_read_unary : mg "read_unary" = some (.ref f_read_unary)
  b_read_unary : Binds K d_read_unary ["bits", "at"] []
  f_read_digits : Addr
  d_read_digits : FuncData
  F_read_digits : Fun K "read_digits" "read_digits" (topS 18) f_read_digits d_read_digits
  g_read_digits : mg "read_digits" = some (.ref f_read_digits)
  b_read_digits : Binds K d_read_digits ["bits", "at", "many"] []
  f_read_gamma : Addr
  d_read_gamma : FuncData
  F_read_gamma : Fun K "read_gamma" "read_gamma" (topS 19) f_read_gamma d_read_gamma
  g_read_gamma : mg "read_gamma" = some (.ref f_read_gamma)
  b_read_gamma : Binds K d_read_gamma ["bits", "at"] []
  f_read_delta : Addr
  d_read_delta : FuncData
  F_read_delta : Fun K "read_delta" "read_delta" (topS 20) f_read_delta d_read_delta
  g_read_delta : mg "read_delta" = some (.ref f_read_delta)
  b_read_delta : Binds K d_read_delta ["bits", "at"] []
  f_read_rice : Addr
  d_read_rice : FuncData
  F_read_rice : Fun K "read_rice" "read_rice" (topS 21) f_read_rice d_read_rice
  g_read_rice : mg "read_rice" = some (.ref f_read_rice)
  b_read_rice : Binds K d_read_rice ["bits", "at", "k"] []
  f_read_golomb : Addr
  d_read_golomb : FuncData
  F_read_golomb : Fun K "read_golomb" "read_golomb" (topS 22) f_read_golomb d_read_golomb
  g_read_golomb : mg "read_golomb" = some (.ref f_read_golomb)
  b_read_golomb : Binds K d_read_golomb ["bits", "at", "m"] []
  f_read_by_two : Addr
  d_read_by_two : FuncData
  F_read_by_two : Fun K "read_by_two" "read_by_two" (topS 23) f_read_by_two d_read_by_two
  g_read_by_two : mg "read_by_two" = some (.ref f_read_by_two)
  b_read_by_two : Binds K d_read_by_two ["bits", "at"] []
  f_read_number : Addr
  d_read_number : FuncData
  F_read_number : Fun K "read_number" "read_number" (topS 24) f_read_number d_read_number
  g_read_number : mg "read_number" = some (.ref f_read_number)
  b_read_number : Binds K d_read_number ["kind", "bits", "at"] []
  f_byte_rows : Addr
  d_byte_rows : FuncData
  F_byte_rows : Fun K "byte_rows" "byte_rows" (topS 26) f_byte_rows d_byte_rows
  g_byte_rows : mg "byte_rows" = some (.ref f_byte_rows)
  b_byte_rows : Binds K d_byte_rows ["n"] []
  f_read_byte_rows : Addr
  d_read_byte_rows : FuncData
  F_read_byte_rows : Fun K "read_byte_rows" "read_byte_rows" (topS 27) f_read_byte_rows d_read_byte_rows
  g_read_byte_rows : mg "read_byte_rows" = some (.ref f_read_byte_rows)
  b_read_byte_rows : Binds K d_read_byte_rows ["row"] []
  f__law_draws : Addr
  d__law_draws : FuncData
  F__law_draws : Fun K "_law_draws" "_law_draws" (topS 29) f__law_draws d__law_draws
  g__law_draws : mg "_law_draws" = some (.ref f__law_draws)
  b__law_draws : Binds K d__law_draws ["script", "many"] []
  f__law_next : Addr
  d__law_next : FuncData
  F__law_next : Fun K "_law_next" "_law_next" (topS 30) f__law_next d__law_next
  g__law_next : mg "_law_next" = some (.ref f__law_next)
  b__law_next : Binds K d__law_next ["w", "many"] []
  f__law_digits : Addr
  d__law_digits : FuncData
  F__law_digits : Fun K "_law_digits" "_law_digits" (topS 31) f__law_digits d__law_digits
  g__law_digits : mg "_law_digits" = some (.ref f__law_digits)
  b__law_digits : Binds K d__law_digits ["n", "wide"] []
  f__law_wide : Addr
  d__law_wide : FuncData
  F__law_wide : Fun K "_law_wide" "_law_wide" (topS 32) f__law_wide d__law_wide
  g__law_wide : mg "_law_wide" = some (.ref f__law_wide)
  b__law_wide : Binds K d__law_wide ["n"] []
  f__law_holds : Addr
  d__law_holds : FuncData
  F__law_holds : Fun K "_law_holds" "_law_holds" (topS 33) f__law_holds d__law_holds
  g__law_holds : mg "_law_holds" = some (.ref f__law_holds)
  b__law_holds : Binds K d__law_holds ["w"] []
  f_law : Addr
  d_law : FuncData
  F_law : Fun K "law" "law" (topS 34) f_law d_law
  g_law : mg "law" = some (.ref f_law)
  b_law : Binds K d_law ["script"] []
  z_abs : mg "abs" = none
  z_bool : mg "bool" = none
  z_int : mg "int" = none
  z_isinstance : mg "isinstance" = none
  z_len : mg "len" = none
  z_range : mg "range" = none
  z_str : mg "str" = none
  z_tuple : mg "tuple" = none
section
variable {P : Program} {w : World} {K : PySem.W.Frag} {mg : Str → Option Value} {base : Heap}
/-! ### the law's own draws -/
def φ_next : Addr → List D → (D → Prop) → Prop := fun pw ds R => ∃ m : Int, ds = [.obj pw, .int m] ∧ 0 < m ∧ ∀ v : Int, 0 ≤ v → v < m → R (.int v)
theorem φ_next_len : ∀ pw ds R, φ_next pw ds R → ds.length = 2 := fun _ _ _ ⟨_, h, _⟩ => by rw [h]; rfl
abbrev N__law_next : List Str := ["w", "many"]
theorem sc__law_next : FnScope N__law_next ["w", "many"] (defScope (topS 30)) := ⟨rfl, rfl, rfl, by decide +kernel, rfl, by decide +kernel, by decide +kernel⟩
theorem ok__law_next (T : Txt K mg) : FnOk P w K mg base CX0 1 T.f__law_next T.d__law_next ["w", "many"] (spW 2 φ_next) := by
  refine T.F__law_next.ok sc__law_next (fun vs H Q E h => ?_) (fun cdv A outer s H vs Q E hr h => ?_)
  · obtain ⟨pw, pl, L, P, ds, R, hn, _, _, _, _, r, _⟩ := h
    rw [r.length, hn]; rfl
  · obtain ⟨pw, pl, L, P, ds, R, hn, dom, hpw, hpl, ⟨n, n0, hw, hL⟩, r, ⟨m, rfl, m0, hR⟩, q⟩ := h
    cases r with
    | cons r0 r =>
      cases r with
      | cons r1 r =>
        cases r
        cases r0
        obtain rfl := r1.int_inv
        have hu := hu_of hr
        refine ⟨_, pss_cons (ps_daug hu (pv 0) pe_str pe_int in_add (fun _ _ _ => rfl))
          (pss_cons (ps_if (pt_cmpR op_gt (pe_dget hu (pv 0) pe_str (fun _ _ => rfl)) (pe_callB call_len_seq (by rfl) T.z_len PySem.boot_len (pa_cons (pe_dget hu (pv 0) pe_str (fun _ _ => rfl)) pa_nil)) (nomark _)) (pss_one (ps_ret pe_int)) pss_nil)
          (pss_one (ps_ret (pe_op op_mod (pe_callTy call_int1 (by rfl) T.z_int PyProof.Rows.boot_int (pa_cons (pe_ix ix_list (pe_dget hu (pv 0) pe_str (fun _ _ => rfl)) (pe_op op_sub (pe_dget hu (pv 0) pe_str (fun _ _ => rfl)) pe_int) (fun _ _ => rfl)) pa_nil)) (pv 1))))), ?_⟩
        have hkd : ¬ kDraws = kAt := by decide +kernel
        have hka : ¬ kAt = kDraws := by decide +kernel
        -- w["at"] += 1
        refine ⟨.ref pw, rfl, pw, .int n, rfl, ?_, n, 1, rfl, rfl, _, DPut.k (k := kAt) hw (by show 2 < sizeLine; decide), ?_⟩
        · have g := DGet.k (k := kAt) hw
          rw [valV_neg hkd, valV_pos rfl] at g
          exact g
        have e1 : putK [(kDraws, V.ref pl), (kAt, V.int n)] kAt (.int (n + 1)) = [(kDraws, V.ref pl), (kAt, V.int (n + 1))] := by
          unfold putK
          simp [hkd]
        rw [e1]
        have npl : pl ≠ pw := ne_of hL hw (by intro z; cases z)
        have hw1 : (upd H pw (.dK [(kDraws, .ref pl), (kAt, .int (n + 1))])) pw = some (.dK [(kDraws, .ref pl), (kAt, .int (n + 1))]) := upd_same
        have hL1 : (upd H pw (.dK [(kDraws, .ref pl), (kAt, .int (n + 1))])) pl = some (.lst (L.map V.int)) := by rw [upd_ne npl]; exact hL
        have gd : DGet (upd H pw (.dK [(kDraws, .ref pl), (kAt, .int (n + 1))])) pw (kV kDraws) (some (.ref pl)) := by
          have g := DGet.k (k := kDraws) hw1
          rw [valV_pos rfl] at g
          exact g
        have ga : DGet (upd H pw (.dK [(kDraws, .ref pl), (kAt, .int (n + 1))])) pw (kV kAt) (some (.int (n + 1))) := by
          have g := DGet.k (k := kAt) hw1
          rw [valV_neg hkd, valV_pos rfl] at g
          exact g
        have W1 : WI pw pl L (upd H pw (.dK [(kDraws, .ref pl), (kAt, .int (n + 1))])) := ⟨n + 1, by omega, hw1, hL1⟩
        have S1 : SameW pw H (upd H pw (.dK [(kDraws, .ref pl), (kAt, .int (n + 1))])) := fun b o nb hb => by rw [upd_ne nb]; exact hb
        -- if w["at"] > len(w["draws"])
        refine ⟨.ref pw, rfl, pw, _, rfl, ga, .ref pw, rfl, pw, _, rfl, gd, pl, _, rfl, .inl (SqL.of hL1), n + 1, ((L.map V.int).length : Nat), rfl, rfl, _, rfl, ?_⟩
        refine ite2 (fun e => ?_) (fun e => ?_)
        · exact q (.int 0) (.int 0) _ (hR 0 (Int.le_refl 0) m0) S1 W1 (.int 0)
        · have e' : ¬ ((L.map V.int).length : Int) < n + 1 := fun z => e (decide_eq_true z)
          rw [List.length_map] at e'
          have hi : n.toNat < L.length := by omega
          refine ⟨.ref pw, rfl, pw, _, rfl, gd, .ref pw, rfl, pw, _, rfl, ga, n + 1, 1, rfl, rfl, pl, _, n + 1 - 1, .int (L[n.toNat]), rfl, rfl, SqL.of hL1, ?_, .inl ⟨_, rfl, ?_⟩⟩
          · rw [show n + 1 - 1 = (n.toNat : Int) by omega]
            exact atI_nat (by rw [List.getElem?_map, List.getElem?_eq_getElem hi]; rfl)
          · refine ⟨.int m, rfl, L[n.toNat], m, rfl, rfl, m0, ?_⟩
            exact q (.int (L[n.toNat] % m)) _ _ (hR _ (Int.emod_nonneg _ (by omega)) (Int.emod_lt_of_pos _ m0)) S1 W1 (.int _)
abbrev N_is_number : List Str := ["thing"]
theorem sc_is_number : FnScope ["thing"] ["thing"] (defScope (topS 1)) := ⟨rfl, rfl, rfl, by decide +kernel, rfl, by decide +kernel, by decide +kernel⟩
def F_is_number : Ev → Option Out := (sRet (gAnd (g1 (isTy "int") (gVar 0)) (gNot (g1 (isTy "bool") (gVar 0)))))
def m_is_number : List D → Option D := mkM 1 1 F_is_number
theorem u_is_number (x0 : D) : m_is_number [x0] = mkR (F_is_number [x0]) := rfl
theorem m_is_number_len : ∀ ds d, m_is_number ds = some d → ds.length = 1 := mkM_len
theorem ok_is_number (T : Txt K mg) : FnOk P w K mg base CX0 1 T.f_is_number T.d_is_number ["thing"] (spP 1 m_is_number) := by
  refine Fun.okP (O1 := []) (F := F_is_number) T.F_is_number sc_is_number rfl rfl fun cdv A outer s H E hr => ?_
  exact (qss_one (qs_ret (q_and (q_isinst "int" (qv 0) PyProof.Rows.boot_int (fun _ => T.z_isinstance) (fun _ => T.z_int)) (q_one (q_not (q_isinst "bool" (qv 0) PyProof.Rows.boot_bool (fun _ => T.z_isinstance) (fun _ => T.z_bool)))))))
abbrev N_is_below : List Str := ["thing", "many"]
theorem sc_is_below : FnScope ["thing", "many"] ["thing", "many"] (defScope (topS 2)) := ⟨rfl, rfl, rfl, by decide +kernel, rfl, by decide +kernel, by decide +kernel⟩
def F_is_below : Ev → Option Out := (sRet (gAnd (gF m_is_number (gCons (gVar 0) gNil)) (gCh dLe dLt (gC (.int 0)) (gVar 0) (gVar 1))))
def m_is_below : List D → Option D := mkM 2 2 F_is_below
theorem u_is_below (x0 x1 : D) : m_is_below [x0, x1] = mkR (F_is_below [x0, x1]) := rfl
theorem m_is_below_len : ∀ ds d, m_is_below ds = some d → ds.length = 2 := mkM_len
theorem ok_is_below (T : Txt K mg) : FnOk P w K mg base CX0 2 T.f_is_below T.d_is_below ["thing", "many"] (spP 2 m_is_below) := by
  refine Fun.okP (O1 := []) (F := F_is_below) T.F_is_below sc_is_below rfl rfl fun cdv A outer s H E hr => ?_
  exact (qss_one (qs_ret (q_and (q_call (fun _ => (ok_is_number T)) (m_is_number_len) (fun _ => T.g_is_number) (fun _ => T.F_is_number.kp) (fun _ => T.b_is_number) (fun _ => hr.mono (by omega)) (qa_cons (qv 0) qa_nil)) (q_one (q_chain c_le c_lt (qint).qb (qvb 0) (qvb 1))))))
abbrev N_two_to : List Str := ["n", "found", "_"]
theorem sc_two_to : FnScope ["n", "found", "_"] ["n"] (defScope (topS 3)) := ⟨rfl, rfl, rfl, by decide +kernel, rfl, by decide +kernel, by decide +kernel⟩
def L_two_to_0 : Ev → Option Out := (sSet 1 (g2 dMul (gVar 1) (gC (.int 2))))
def F_two_to : Ev → Option Out := (sSeq (sSet 1 (gC (.int 1))) (sSeq (sFor (iR1 (gVar 0)) (bName 2) L_two_to_0) (sRet (gVar 1))))
def m_two_to : List D → Option D := mkM 1 3 F_two_to
theorem u_two_to (x0 : D) : m_two_to [x0] = mkR (F_two_to [x0, .bot, .bot]) := rfl
theorem m_two_to_len : ∀ ds d, m_two_to ds = some d → ds.length = 1 := mkM_len
theorem ok_two_to (T : Txt K mg) : FnOk P w K mg base CX0 1 T.f_two_to T.d_two_to ["n"] (spP 1 m_two_to) := by
  refine Fun.okP (O1 := []) (F := F_two_to) T.F_two_to sc_two_to rfl rfl fun cdv A outer s H E hr => ?_
  exact (qss_cons (qs_set 1 qint (fun _ => sc_two_to.nd)) (qss_cons (qs_for (qi_rng1 (qv 0) (fun _ => T.z_range)) (qg_name 2 (fun _ => sc_two_to.nd)) (qss_one (qs_set 1 (q_mul (qv 1) qint) (fun _ => sc_two_to.nd)))) (qss_one (qs_ret (qv 1)))))
abbrev N_digits_of : List Str := ["n", "many", "found", "_"]
theorem sc_digits_of : FnScope ["n", "many", "found", "_"] ["n", "many"] (defScope (topS 4)) := ⟨rfl, rfl, rfl, by decide +kernel, rfl, by decide +kernel, by decide +kernel⟩
def L_digits_of_0 : Ev → Option Out := (sSeq (sSet 2 (g2 dAdd (gF fStr (gCons (g2 dMod (gVar 0) (gC (.int 2))) gNil)) (gVar 2))) (sSet 0 (g2 dDiv (gVar 0) (gC (.int 2)))))
def F_digits_of : Ev → Option Out := (sSeq (sSet 2 (gC (.str []))) (sSeq (sFor (iR1 (gVar 1)) (bName 3) L_digits_of_0) (sRet (gVar 2))))
def m_digits_of : List D → Option D := mkM 2 4 F_digits_of
theorem u_digits_of (x0 x1 : D) : m_digits_of [x0, x1] = mkR (F_digits_of [x0, x1, .bot, .bot]) := rfl
theorem m_digits_of_len : ∀ ds d, m_digits_of ds = some d → ds.length = 2 := mkM_len
theorem ok_digits_of (T : Txt K mg) : FnOk P w K mg base CX0 1 T.f_digits_of T.d_digits_of ["n", "many"] (spP 2 m_digits_of) := by
  refine Fun.okP (O1 := []) (F := F_digits_of) T.F_digits_of sc_digits_of rfl rfl fun cdv A outer s H E hr => ?_
  exact (qss_cons (qs_set 2 (qstr (l := [])) (fun _ => sc_digits_of.nd)) (qss_cons (qs_for (qi_rng1 (qv 1) (fun _ => T.z_range)) (qg_name 3 (fun _ => sc_digits_of.nd)) (qss_cons (qs_set 2 (q_add (q_str (qab_cons (q_mod (qv 0) qint).qb qab_nil) (fun _ => T.z_str)) (qv 2)) (fun _ => sc_digits_of.nd)) (qss_one (qs_set 0 (q_div (qv 0) qint) (fun _ => sc_digits_of.nd))))) (qss_one (qs_ret (qv 2)))))
abbrev N_binary : List Str := ["n", "found"]
theorem sc_binary : FnScope ["n", "found"] ["n"] (defScope (topS 5)) := ⟨rfl, rfl, rfl, by decide +kernel, rfl, by decide +kernel, by decide +kernel⟩
def L_binary_0 : Ev → Option Out := (sSeq (sSet 1 (g2 dAdd (gF fStr (gCons (g2 dMod (gVar 0) (gC (.int 2))) gNil)) (gVar 1))) (sSet 0 (g2 dDiv (gVar 0) (gC (.int 2)))))
def C_binary_0 : Ev → Option Bool := (gT (g2 dGt (gVar 0) (gC (.int 0))))
def F_binary : Ev → Option Out := (sSeq (sSet 1 (gC (.str []))) (sSeq (whileF C_binary_0 L_binary_0 1000) (sRet (gVar 1))))
def m_binary : List D → Option D := mkM 1 2 F_binary
theorem u_binary (x0 : D) : m_binary [x0] = mkR (F_binary [x0, .bot]) := rfl
theorem m_binary_len : ∀ ds d, m_binary ds = some d → ds.length = 1 := mkM_len
theorem ok_binary (T : Txt K mg) : FnOk P w K mg base CX0 1 T.f_binary T.d_binary ["n"] (spP 1 m_binary) := by
  refine Fun.okP (O1 := []) (F := F_binary) T.F_binary sc_binary rfl rfl fun cdv A outer s H E hr => ?_
  exact (qss_cons (qs_set 1 (qstr (l := [])) (fun _ => sc_binary.nd)) (qss_cons (qs_while 1000 (qt_compare c_gt (qvb 0) (qint).qb) (qss_cons (qs_set 1 (q_add (q_str (qab_cons (q_mod (qv 0) qint).qb qab_nil) (fun _ => T.z_str)) (qv 1)) (fun _ => sc_binary.nd)) (qss_one (qs_set 0 (q_div (qv 0) qint) (fun _ => sc_binary.nd))))) (qss_one (qs_ret (qv 1)))))
abbrev N_number_of_bits : List Str := ["bits", "found", "sign"]
theorem sc_number_of_bits : FnScope ["bits", "found", "sign"] ["bits"] (defScope (topS 6)) := ⟨rfl, rfl, rfl, by decide +kernel, rfl, by decide +kernel, by decide +kernel⟩
def L_number_of_bits_0 : Ev → Option Out := (sSet 1 (g2 dAdd (g2 dMul (gC (.int 2)) (gVar 1)) (gF fInt (gCons (gVar 2) gNil))))
def F_number_of_bits : Ev → Option Out := (sSeq (sSet 1 (gC (.int 0))) (sSeq (sFor (iS (gVar 0)) (bName 2) L_number_of_bits_0) (sRet (gVar 1))))
def m_number_of_bits : List D → Option D := mkM 1 3 F_number_of_bits
theorem u_number_of_bits (x0 : D) : m_number_of_bits [x0] = mkR (F_number_of_bits [x0, .bot, .bot]) := rfl
theorem m_number_of_bits_len : ∀ ds d, m_number_of_bits ds = some d → ds.length = 1 := mkM_len
theorem ok_number_of_bits (T : Txt K mg) : FnOk P w K mg base CX0 1 T.f_number_of_bits T.d_number_of_bits ["bits"] (spP 1 m_number_of_bits) := by
  refine Fun.okP (O1 := []) (F := F_number_of_bits) T.F_number_of_bits sc_number_of_bits rfl rfl fun cdv A outer s H E hr => ?_
  exact (qss_cons (qs_set 1 qint (fun _ => sc_number_of_bits.nd)) (qss_cons (qs_for (qi_str (qv 0)) (qg_name 2 (fun _ => sc_number_of_bits.nd)) (qss_one (qs_set 1 (q_add (q_mul qint (qv 1)) (q_int (qab_cons (qvb 2) qab_nil) (fun _ => T.z_int))) (fun _ => sc_number_of_bits.nd)))) (qss_one (qs_ret (qv 1)))))
abbrev N_unary : List Str := ["n"]
theorem sc_unary : FnScope ["n"] ["n"] (defScope (topS 8)) := ⟨rfl, rfl, rfl, by decide +kernel, rfl, by decide +kernel, by decide +kernel⟩
def F_unary : Ev → Option Out := (sRet (g2 dAdd (g2 dMul (gC (.str [49])) (gVar 0)) (gC (.str [48]))))
def m_unary : List D → Option D := mkM 1 1 F_unary
theorem u_unary (x0 : D) : m_unary [x0] = mkR (F_unary [x0]) := rfl
theorem m_unary_len : ∀ ds d, m_unary ds = some d → ds.length = 1 := mkM_len
theorem ok_unary (T : Txt K mg) : FnOk P w K mg base CX0 1 T.f_unary T.d_unary ["n"] (spP 1 m_unary) := by
  refine Fun.okP (O1 := []) (F := F_unary) T.F_unary sc_unary rfl rfl fun cdv A outer s H E hr => ?_
  exact (qss_one (qs_ret (q_add (q_mul (qstr (l := [49])) (qv 0)) (qstr (l := [48])))))
abbrev N_gamma : List Str := ["n", "digits"]
theorem sc_gamma : FnScope ["n", "digits"] ["n"] (defScope (topS 9)) := ⟨rfl, rfl, rfl, by decide +kernel, rfl, by decide +kernel, by decide +kernel⟩
def F_gamma : Ev → Option Out := (sSeq (sSet 1 (gF m_binary (gCons (g2 dAdd (gVar 0) (gC (.int 1))) gNil))) (sRet (g2 dAdd (g2 dMul (gC (.str [48])) (g2 dSub (gF fLen (gCons (gVar 1) gNil)) (gC (.int 1)))) (gVar 1))))
def m_gamma : List D → Option D := mkM 1 2 F_gamma
theorem u_gamma (x0 : D) : m_gamma [x0] = mkR (F_gamma [x0, .bot]) := rfl
theorem m_gamma_len : ∀ ds d, m_gamma ds = some d → ds.length = 1 := mkM_len
theorem ok_gamma (T : Txt K mg) : FnOk P w K mg base CX0 2 T.f_gamma T.d_gamma ["n"] (spP 1 m_gamma) := by
  refine Fun.okP (O1 := []) (F := F_gamma) T.F_gamma sc_gamma rfl rfl fun cdv A outer s H E hr => ?_
  exact (qss_cons (qs_set 1 (q_call (fun _ => (ok_binary T)) (m_binary_len) (fun _ => T.g_binary) (fun _ => T.F_binary.kp) (fun _ => T.b_binary) (fun _ => hr.mono (by omega)) (qa_cons (q_add (qv 0) qint) qa_nil)) (fun _ => sc_gamma.nd)) (qss_one (qs_ret (q_add (q_mul (qstr (l := [48])) (q_sub (q_len (qab_cons (qvb 1) qab_nil) (fun _ => T.z_len)) qint)) (qv 1)))))
abbrev N_delta : List Str := ["n", "digits"]
theorem sc_delta : FnScope ["n", "digits"] ["n"] (defScope (topS 10)) := ⟨rfl, rfl, rfl, by decide +kernel, rfl, by decide +kernel, by decide +kernel⟩
def F_delta : Ev → Option Out := (sSeq (sSet 1 (gF m_binary (gCons (g2 dAdd (gVar 0) (gC (.int 1))) gNil))) (sRet (g2 dAdd (gF m_gamma (gCons (g2 dSub (gF fLen (gCons (gVar 1) gNil)) (gC (.int 1))) gNil)) (gCut (gVar 1) (gOs (gC (.int 1))) gOn))))
def m_delta : List D → Option D := mkM 1 2 F_delta
theorem u_delta (x0 : D) : m_delta [x0] = mkR (F_delta [x0, .bot]) := rfl
theorem m_delta_len : ∀ ds d, m_delta ds = some d → ds.length = 1 := mkM_len
theorem ok_delta (T : Txt K mg) : FnOk P w K mg base CX0 3 T.f_delta T.d_delta ["n"] (spP 1 m_delta) := by
  refine Fun.okP (O1 := []) (F := F_delta) T.F_delta sc_delta rfl rfl fun cdv A outer s H E hr => ?_
  exact (qss_cons (qs_set 1 (q_call (fun _ => (ok_binary T)) (m_binary_len) (fun _ => T.g_binary) (fun _ => T.F_binary.kp) (fun _ => T.b_binary) (fun _ => hr.mono (by omega)) (qa_cons (q_add (qv 0) qint) qa_nil)) (fun _ => sc_delta.nd)) (qss_one (qs_ret (q_add (q_call (fun _ => (ok_gamma T)) (m_gamma_len) (fun _ => T.g_gamma) (fun _ => T.F_gamma.kp) (fun _ => T.b_gamma) (fun _ => hr.mono (by omega)) (qa_cons (q_sub (q_len (qab_cons (qvb 1) qab_nil) (fun _ => T.z_len)) qint) qa_nil)) (q_cut (qvb 1) (qo_some qint) qo_none)))))
abbrev N_rice : List Str := ["n", "k"]
theorem sc_rice : FnScope ["n", "k"] ["n", "k"] (defScope (topS 11)) := ⟨rfl, rfl, rfl, by decide +kernel, rfl, by decide +kernel, by decide +kernel⟩
def F_rice : Ev → Option Out := (sRet (g2 dAdd (gF m_unary (gCons (g2 dDiv (gVar 0) (gF m_two_to (gCons (gVar 1) gNil))) gNil)) (gF m_digits_of (gCons (gVar 0) (gCons (gVar 1) gNil)))))
def m_rice : List D → Option D := mkM 2 2 F_rice
theorem u_rice (x0 x1 : D) : m_rice [x0, x1] = mkR (F_rice [x0, x1]) := rfl
theorem m_rice_len : ∀ ds d, m_rice ds = some d → ds.length = 2 := mkM_len
theorem ok_rice (T : Txt K mg) : FnOk P w K mg base CX0 2 T.f_rice T.d_rice ["n", "k"] (spP 2 m_rice) := by
  refine Fun.okP (O1 := []) (F := F_rice) T.F_rice sc_rice rfl rfl fun cdv A outer s H E hr => ?_
  exact (qss_one (qs_ret (q_add (q_call (fun _ => (ok_unary T)) (m_unary_len) (fun _ => T.g_unary) (fun _ => T.F_unary.kp) (fun _ => T.b_unary) (fun _ => hr.mono (by omega)) (qa_cons (q_div (qv 0) (q_call (fun _ => (ok_two_to T)) (m_two_to_len) (fun _ => T.g_two_to) (fun _ => T.F_two_to.kp) (fun _ => T.b_two_to) (fun _ => hr.mono (by omega)) (qa_cons (qv 1) qa_nil))) qa_nil)) (q_call (fun _ => (ok_digits_of T)) (m_digits_of_len) (fun _ => T.g_digits_of) (fun _ => T.F_digits_of.kp) (fun _ => T.b_digits_of) (fun _ => hr.mono (by omega)) (qa_cons (qv 0) (qa_cons (qv 1) qa_nil))))))
abbrev N_rest_width : List Str := ["m", "wide"]
theorem sc_rest_width : FnScope ["m", "wide"] ["m"] (defScope (topS 12)) := ⟨rfl, rfl, rfl, by decide +kernel, rfl, by decide +kernel, by decide +kernel⟩
def F_rest_width : Ev → Option Out := (sSeq (sSet 1 (gF fLen (gCons (gF m_binary (gCons (g2 dSub (gVar 0) (gC (.int 1))) gNil)) gNil))) (sRet (gTup (gCons (gVar 1) (gCons (g2 dSub (gF m_two_to (gCons (gVar 1) gNil)) (gVar 0)) gNil)))))
def m_rest_width : List D → Option D := mkM 1 2 F_rest_width
theorem u_rest_width (x0 : D) : m_rest_width [x0] = mkR (F_rest_width [x0, .bot]) := rfl
theorem m_rest_width_len : ∀ ds d, m_rest_width ds = some d → ds.length = 1 := mkM_len
theorem ok_rest_width (T : Txt K mg) : FnOk P w K mg base CX0 2 T.f_rest_width T.d_rest_width ["m"] (spP 1 m_rest_width) := by
  refine Fun.okP (O1 := []) (F := F_rest_width) T.F_rest_width sc_rest_width rfl rfl fun cdv A outer s H E hr => ?_
  exact (qss_cons (qs_set 1 (q_len (qab_cons (q_call (fun _ => (ok_binary T)) (m_binary_len) (fun _ => T.g_binary) (fun _ => T.F_binary.kp) (fun _ => T.b_binary) (fun _ => hr.mono (by omega)) (qa_cons (q_sub (qv 0) qint) qa_nil)).qb qab_nil) (fun _ => T.z_len)) (fun _ => sc_rest_width.nd)) (qss_one (qs_ret (q_tup (qa_cons (qv 1) (qa_cons (q_sub (q_call (fun _ => (ok_two_to T)) (m_two_to_len) (fun _ => T.g_two_to) (fun _ => T.F_two_to.kp) (fun _ => T.b_two_to) (fun _ => hr.mono (by omega)) (qa_cons (qv 1) qa_nil)) (qv 0)) qa_nil))))))
abbrev N_golomb : List Str := ["n", "m", "wide", "short", "rest"]
theorem sc_golomb : FnScope ["n", "m", "wide", "short", "rest"] ["n", "m"] (defScope (topS 13)) := ⟨rfl, rfl, rfl, by decide +kernel, rfl, by decide +kernel, by decide +kernel⟩
def F_golomb : Ev → Option Out := (sSeq (sAsg (gF m_rest_width (gCons (gVar 1) gNil)) (bTup 2 (bCons (bName 2) (bCons (bName 3) bNil)))) (sSeq (sSet 4 (g2 dMod (gVar 0) (gVar 1))) (sRet (g2 dAdd (gF m_unary (gCons (g2 dDiv (gVar 0) (gVar 1)) gNil)) (gIf (gT (g2 dLt (gVar 4) (gVar 3))) (gF m_digits_of (gCons (gVar 4) (gCons (g2 dSub (gVar 2) (gC (.int 1))) gNil))) (gF m_digits_of (gCons (g2 dAdd (gVar 4) (gVar 3)) (gCons (gVar 2) gNil))))))))
def m_golomb : List D → Option D := mkM 2 5 F_golomb
theorem u_golomb (x0 x1 : D) : m_golomb [x0, x1] = mkR (F_golomb [x0, x1, .bot, .bot, .bot]) := rfl
theorem m_golomb_len : ∀ ds d, m_golomb ds = some d → ds.length = 2 := mkM_len
theorem ok_golomb (T : Txt K mg) : FnOk P w K mg base CX0 3 T.f_golomb T.d_golomb ["n", "m"] (spP 2 m_golomb) := by
  refine Fun.okP (O1 := []) (F := F_golomb) T.F_golomb sc_golomb rfl rfl fun cdv A outer s H E hr => ?_
  exact (qss_cons (qs_asg (q_call (fun _ => (ok_rest_width T)) (m_rest_width_len) (fun _ => T.g_rest_width) (fun _ => T.F_rest_width.kp) (fun _ => T.b_rest_width) (fun _ => hr.mono (by omega)) (qa_cons (qv 1) qa_nil)) (qg_tup (n := 2) (qgs_cons (qg_name 2 (fun _ => sc_golomb.nd)) (qgs_cons (qg_name 3 (fun _ => sc_golomb.nd)) qgs_nil)))) (qss_cons (qs_set 4 (q_mod (qv 0) (qv 1)) (fun _ => sc_golomb.nd)) (qss_one (qs_ret (q_add (q_call (fun _ => (ok_unary T)) (m_unary_len) (fun _ => T.g_unary) (fun _ => T.F_unary.kp) (fun _ => T.b_unary) (fun _ => hr.mono (by omega)) (qa_cons (q_div (qv 0) (qv 1)) qa_nil)) (q_ife (qt_compare c_lt (qvb 4) (qvb 3)) (q_call (fun _ => (ok_digits_of T)) (m_digits_of_len) (fun _ => T.g_digits_of) (fun _ => T.F_digits_of.kp) (fun _ => T.b_digits_of) (fun _ => hr.mono (by omega)) (qa_cons (qv 4) (qa_cons (q_sub (qv 2) qint) qa_nil))) (q_call (fun _ => (ok_digits_of T)) (m_digits_of_len) (fun _ => T.g_digits_of) (fun _ => T.F_digits_of.kp) (fun _ => T.b_digits_of) (fun _ => hr.mono (by omega)) (qa_cons (q_add (qv 4) (qv 3)) (qa_cons (qv 2) qa_nil)))))))))
abbrev N_steps_up_to : List Str := ["n", "found", "one"]
theorem sc_steps_up_to : FnScope ["n", "found", "one"] ["n"] (defScope (topS 14)) := ⟨rfl, rfl, rfl, by decide +kernel, rfl, by decide +kernel, by decide +kernel⟩
def L_steps_up_to_0 : Ev → Option Out := (sApp 1 (g2 dAdd (g2 dIdx (gVar 1) (g1 dNeg (gC (.int 1)))) (g2 dIdx (gVar 1) (g1 dNeg (gC (.int 2))))))
def C_steps_up_to_0 : Ev → Option Bool := (gT (g2 dLe (g2 dIdx (gVar 1) (g1 dNeg (gC (.int 1)))) (gVar 0)))
def E_steps_up_to_0 : Ev → Option D := (gVar 2)
def K_steps_up_to_0 : Ev → Option Bool := (gT (g2 dLe (gVar 2) (gVar 0)))
def F_steps_up_to : Ev → Option Out := (sSeq (sOwn 1 (gLst (gCons (gC (.int 1)) (gCons (gC (.int 2)) gNil)))) (sSeq (whileF C_steps_up_to_0 L_steps_up_to_0 1000) (sRet (gLc (iL (gVar 1)) (bName 2) K_steps_up_to_0 E_steps_up_to_0 [2]))))
def m_steps_up_to : List D → Option D := mkM 1 3 F_steps_up_to
theorem u_steps_up_to (x0 : D) : m_steps_up_to [x0] = mkR (F_steps_up_to [x0, .bot, .bot]) := rfl
theorem m_steps_up_to_len : ∀ ds d, m_steps_up_to ds = some d → ds.length = 1 := mkM_len
theorem ok_steps_up_to (T : Txt K mg) : FnOk P w K mg base CX0 1 T.f_steps_up_to T.d_steps_up_to ["n"] (spP 1 m_steps_up_to) := by
  refine Fun.okP (O1 := []) (F := F_steps_up_to) T.F_steps_up_to sc_steps_up_to rfl rfl fun cdv A outer s H E hr => ?_
  exact (qss_cons (qs_own 1 (qf_lst (qa_cons qint (qa_cons qint qa_nil))) (fun _ => sc_steps_up_to.nd)) (qss_cons (qs_while 1000 (qt_compare c_le (q_ix (qvb 1) (q_neg qint).qb).qb (qvb 0)) (qss_one (qs_append 1 (q_add (q_ix (qvb 1) (q_neg qint).qb) (q_ix (qvb 1) (q_neg qint).qb))))) (qss_one (QS.frz (O1 := []) (qs_ret ((qf_lc [("one", 2)] (qi_list (qv 1)) (qg_name 2 (fun _ => sc_steps_up_to.nd)) (qts_one (qt_compare c_le (qvb 2) (qvb 0))) (qv 2) (fun _ => sc_steps_up_to.nd) (N := N_steps_up_to) (sc := defScope (topS 14)) (by decide +kernel))).qe)))))
abbrev N_by_two : List Str := ["n", "left", "found", "one"]
theorem sc_by_two : FnScope ["n", "left", "found", "one"] ["n"] (defScope (topS 15)) := ⟨rfl, rfl, rfl, by decide +kernel, rfl, by decide +kernel, by decide +kernel⟩
def L_by_two_0 : Ev → Option Out := (sSeq (sSet 2 (g2 dAdd (gIf (gT (g2 dLe (gVar 3) (gVar 1))) (gC (.str [49])) (gC (.str [48]))) (gVar 2))) (sAug 1 dSub (gIf (gT (g2 dLe (gVar 3) (gVar 1))) (gVar 3) (gC (.int 0)))))
def F_by_two : Ev → Option Out := (sSeq (sSet 1 (g2 dAdd (gVar 0) (gC (.int 1)))) (sSeq (sSet 2 (gC (.str []))) (sSeq (sFor (iL (g1 dRev (gF m_steps_up_to (gCons (gVar 1) gNil)))) (bName 3) L_by_two_0) (sRet (g2 dAdd (gVar 2) (gC (.str [49])))))))
def m_by_two : List D → Option D := mkM 1 4 F_by_two
theorem u_by_two (x0 : D) : m_by_two [x0] = mkR (F_by_two [x0, .bot, .bot, .bot]) := rfl
theorem m_by_two_len : ∀ ds d, m_by_two ds = some d → ds.length = 1 := mkM_len
theorem ok_by_two (T : Txt K mg) : FnOk P w K mg base CX0 2 T.f_by_two T.d_by_two ["n"] (spP 1 m_by_two) := by
  refine Fun.okP (O1 := []) (F := F_by_two) T.F_by_two sc_by_two rfl rfl fun cdv A outer s H E hr => ?_
  exact (qss_cons (qs_set 1 (q_add (qv 0) qint) (fun _ => sc_by_two.nd)) (qss_cons (qs_set 2 (qstr (l := [])) (fun _ => sc_by_two.nd)) (qss_cons (qs_for (qi_list ((qf_rev (q_call (fun _ => (ok_steps_up_to T)) (m_steps_up_to_len) (fun _ => T.g_steps_up_to) (fun _ => T.F_steps_up_to.kp) (fun _ => T.b_steps_up_to) (fun _ => hr.mono (by omega)) (qa_cons (qv 1) qa_nil)).qb)).qe) (qg_name 3 (fun _ => sc_by_two.nd)) (qss_cons (qs_set 2 (q_add (q_ife (qt_compare c_le (qvb 3) (qvb 1)) (qstr (l := [49])) (qstr (l := [48]))) (qv 2)) (fun _ => sc_by_two.nd)) (qss_one (qs_isub 1 (q_ife (qt_compare c_le (qvb 3) (qvb 1)) (qv 3) qint) (fun _ => sc_by_two.nd))))) (qss_one (qs_ret (q_add (qv 2) (qstr (l := [49]))))))))
abbrev N_write_number : List Str := ["kind", "n"]
theorem sc_write_number : FnScope ["kind", "n"] ["kind", "n"] (defScope (topS 16)) := ⟨rfl, rfl, rfl, by decide +kernel, rfl, by decide +kernel, by decide +kernel⟩
def F_write_number : Ev → Option Out := (sSeq (sIf (gT (g2 dEq (g2 dIdx (gVar 0) (gC (.int 0))) (gC (.str [117, 110, 97, 114, 121])))) (sRet (gF m_unary (gCons (gVar 1) gNil))) sNil) (sSeq (sIf (gT (g2 dEq (g2 dIdx (gVar 0) (gC (.int 0))) (gC (.str [103, 97, 109, 109, 97])))) (sRet (gF m_gamma (gCons (gVar 1) gNil))) sNil) (sSeq (sIf (gT (g2 dEq (g2 dIdx (gVar 0) (gC (.int 0))) (gC (.str [100, 101, 108, 116, 97])))) (sRet (gF m_delta (gCons (gVar 1) gNil))) sNil) (sSeq (sIf (gT (g2 dEq (g2 dIdx (gVar 0) (gC (.int 0))) (gC (.str [114, 105, 99, 101])))) (sRet (gF m_rice (gCons (gVar 1) (gCons (g2 dIdx (gVar 0) (gC (.int 1))) gNil)))) sNil) (sRet (gIf (gT (g2 dEq (g2 dIdx (gVar 0) (gC (.int 0))) (gC (.str [103, 111, 108, 111, 109, 98])))) (gF m_golomb (gCons (gVar 1) (gCons (g2 dIdx (gVar 0) (gC (.int 1))) gNil))) (gF m_by_two (gCons (gVar 1) gNil))))))))
def m_write_number : List D → Option D := mkM 2 2 F_write_number
theorem u_write_number (x0 x1 : D) : m_write_number [x0, x1] = mkR (F_write_number [x0, x1]) := rfl
theorem m_write_number_len : ∀ ds d, m_write_number ds = some d → ds.length = 2 := mkM_len
theorem ok_write_number (T : Txt K mg) : FnOk P w K mg base CX0 4 T.f_write_number T.d_write_number ["kind", "n"] (spP 2 m_write_number) := by
  refine Fun.okP (O1 := []) (F := F_write_number) T.F_write_number sc_write_number rfl rfl fun cdv A outer s H E hr => ?_
  exact (qss_cons (qs_if (qt_compare (c_eq (fun _ => hr)) (q_ix (qvb 0) (qint).qb).qb (qstr (l := [117, 110, 97, 114, 121])).qb) (qss_one (qs_ret (q_call (fun _ => (ok_unary T)) (m_unary_len) (fun _ => T.g_unary) (fun _ => T.F_unary.kp) (fun _ => T.b_unary) (fun _ => hr.mono (by omega)) (qa_cons (qv 1) qa_nil)))) qss_nil) (qss_cons (qs_if (qt_compare (c_eq (fun _ => hr)) (q_ix (qvb 0) (qint).qb).qb (qstr (l := [103, 97, 109, 109, 97])).qb) (qss_one (qs_ret (q_call (fun _ => (ok_gamma T)) (m_gamma_len) (fun _ => T.g_gamma) (fun _ => T.F_gamma.kp) (fun _ => T.b_gamma) (fun _ => hr.mono (by omega)) (qa_cons (qv 1) qa_nil)))) qss_nil) (qss_cons (qs_if (qt_compare (c_eq (fun _ => hr)) (q_ix (qvb 0) (qint).qb).qb (qstr (l := [100, 101, 108, 116, 97])).qb) (qss_one (qs_ret (q_call (fun _ => (ok_delta T)) (m_delta_len) (fun _ => T.g_delta) (fun _ => T.F_delta.kp) (fun _ => T.b_delta) (fun _ => hr.mono (by omega)) (qa_cons (qv 1) qa_nil)))) qss_nil) (qss_cons (qs_if (qt_compare (c_eq (fun _ => hr)) (q_ix (qvb 0) (qint).qb).qb (qstr (l := [114, 105, 99, 101])).qb) (qss_one (qs_ret (q_call (fun _ => (ok_rice T)) (m_rice_len) (fun _ => T.g_rice) (fun _ => T.F_rice.kp) (fun _ => T.b_rice) (fun _ => hr.mono (by omega)) (qa_cons (qv 1) (qa_cons (q_ix (qvb 0) (qint).qb) qa_nil))))) qss_nil) (qss_one (qs_ret (q_ife (qt_compare (c_eq (fun _ => hr)) (q_ix (qvb 0) (qint).qb).qb (qstr (l := [103, 111, 108, 111, 109, 98])).qb) (q_call (fun _ => (ok_golomb T)) (m_golomb_len) (fun _ => T.g_golomb) (fun _ => T.F_golomb.kp) (fun _ => T.b_golomb) (fun _ => hr.mono (by omega)) (qa_cons (qv 1) (qa_cons (q_ix (qvb 0) (qint).qb) qa_nil))) (q_call (fun _ => (ok_by_two T)) (m_by_two_len) (fun _ => T.g_by_two) (fun _ => T.F_by_two.kp) (fun _ => T.b_by_two) (fun _ => hr.mono (by omega)) (qa_cons (qv 1) qa_nil)))))))))
abbrev N_read_unary : List Str := ["bits", "at", "end"]
theorem sc_read_unary : FnScope ["bits", "at", "end"] ["bits", "at"] (defScope (topS 17)) := ⟨rfl, rfl, rfl, by decide +kernel, rfl, by decide +kernel, by decide +kernel⟩
def L_read_unary_0 : Ev → Option Out := (sAug 2 dAddS (gC (.int 1)))
def C_read_unary_0 : Ev → Option Bool := (gT (g2 dEq (gCut (gVar 0) (gOs (gVar 2)) (gOs (g2 dAdd (gVar 2) (gC (.int 1))))) (gC (.str [49]))))
def F_read_unary : Ev → Option Out := (sSeq (sSet 2 (gVar 1)) (sSeq (whileF C_read_unary_0 L_read_unary_0 1000) (sRet (gIf (gT (g2 dLt (gVar 2) (gF fLen (gCons (gVar 0) gNil)))) (gTup (gCons (g2 dSub (gVar 2) (gVar 1)) (gCons (g2 dAdd (gVar 2) (gC (.int 1))) gNil))) (gC .non)))))
def m_read_unary : List D → Option D := mkM 2 3 F_read_unary
theorem u_read_unary (x0 x1 : D) : m_read_unary [x0, x1] = mkR (F_read_unary [x0, x1, .bot]) := rfl
theorem m_read_unary_len : ∀ ds d, m_read_unary ds = some d → ds.length = 2 := mkM_len
theorem ok_read_unary (T : Txt K mg) : FnOk P w K mg base CX0 1 T.f_read_unary T.d_read_unary ["bits", "at"] (spP 2 m_read_unary) := by
  refine Fun.okP (O1 := []) (F := F_read_unary) T.F_read_unary sc_read_unary rfl rfl fun cdv A outer s H E hr => ?_
  exact (qss_cons (qs_set 2 (qv 1) (fun _ => sc_read_unary.nd)) (qss_cons (qs_while 1000 (qt_compare (c_eq (fun _ => hr)) (q_cut (qvb 0) (qo_some (qv 2)) (qo_some (q_add (qv 2) qint))).qb (qstr (l := [49])).qb) (qss_one (qs_iadd 2 qint (fun _ => sc_read_unary.nd)))) (qss_one (qs_ret (q_ife (qt_compare c_lt (qvb 2) (q_len (qab_cons (qvb 0) qab_nil) (fun _ => T.z_len)).qb) (q_tup (qa_cons (q_sub (qv 2) (qv 1)) (qa_cons (q_add (qv 2) qint) qa_nil))) qnon)))))
abbrev N_read_digits : List Str := ["bits", "at", "many"]
theorem sc_read_digits : FnScope ["bits", "at", "many"] ["bits", "at", "many"] (defScope (topS 18)) := ⟨rfl, rfl, rfl, by decide +kernel, rfl, by decide +kernel, by decide +kernel⟩
def F_read_digits : Ev → Option Out := (sRet (gIf (gT (g2 dLe (g2 dAdd (gVar 1) (gVar 2)) (gF fLen (gCons (gVar 0) gNil)))) (gTup (gCons (gF m_number_of_bits (gCons (gCut (gVar 0) (gOs (gVar 1)) (gOs (g2 dAdd (gVar 1) (gVar 2)))) gNil)) (gCons (g2 dAdd (gVar 1) (gVar 2)) gNil))) (gC .non)))
def m_read_digits : List D → Option D := mkM 3 3 F_read_digits
theorem u_read_digits (x0 x1 x2 : D) : m_read_digits [x0, x1, x2] = mkR (F_read_digits [x0, x1, x2]) := rfl
theorem m_read_digits_len : ∀ ds d, m_read_digits ds = some d → ds.length = 3 := mkM_len
theorem ok_read_digits (T : Txt K mg) : FnOk P w K mg base CX0 2 T.f_read_digits T.d_read_digits ["bits", "at", "many"] (spP 3 m_read_digits) := by
  refine Fun.okP (O1 := []) (F := F_read_digits) T.F_read_digits sc_read_digits rfl rfl fun cdv A outer s H E hr => ?_
  exact (qss_one (qs_ret (q_ife (qt_compare c_le (q_add (qv 1) (qv 2)).qb (q_len (qab_cons (qvb 0) qab_nil) (fun _ => T.z_len)).qb) (q_tup (qa_cons (q_call (fun _ => (ok_number_of_bits T)) (m_number_of_bits_len) (fun _ => T.g_number_of_bits) (fun _ => T.F_number_of_bits.kp) (fun _ => T.b_number_of_bits) (fun _ => hr.mono (by omega)) (qa_cons (q_cut (qvb 0) (qo_some (qv 1)) (qo_some (q_add (qv 1) (qv 2)))) qa_nil)) (qa_cons (q_add (qv 1) (qv 2)) qa_nil))) qnon)))
abbrev N_read_gamma : List Str := ["bits", "at", "zeros", "told"]
theorem sc_read_gamma : FnScope ["bits", "at", "zeros", "told"] ["bits", "at"] (defScope (topS 19)) := ⟨rfl, rfl, rfl, by decide +kernel, rfl, by decide +kernel, by decide +kernel⟩
def L_read_gamma_0 : Ev → Option Out := (sAug 2 dAddS (gC (.int 1)))
def C_read_gamma_0 : Ev → Option Bool := (gT (g2 dEq (gCut (gVar 0) (gOs (g2 dAdd (gVar 1) (gVar 2))) (gOs (g2 dAdd (g2 dAdd (gVar 1) (gVar 2)) (gC (.int 1))))) (gC (.str [48]))))
def F_read_gamma : Ev → Option Out := (sSeq (sSet 2 (gC (.int 0))) (sSeq (whileF C_read_gamma_0 L_read_gamma_0 1000) (sSeq (sSet 3 (gF m_read_digits (gCons (gVar 0) (gCons (g2 dAdd (gVar 1) (gVar 2)) (gCons (g2 dAdd (gVar 2) (gC (.int 1))) gNil))))) (sRet (gIf (gT (g2 dIs (gVar 3) (gC .non))) (gC .non) (gTup (gCons (g2 dSub (g2 dIdx (gVar 3) (gC (.int 0))) (gC (.int 1))) (gCons (g2 dIdx (gVar 3) (gC (.int 1))) gNil))))))))
def m_read_gamma : List D → Option D := mkM 2 4 F_read_gamma
theorem u_read_gamma (x0 x1 : D) : m_read_gamma [x0, x1] = mkR (F_read_gamma [x0, x1, .bot, .bot]) := rfl
theorem m_read_gamma_len : ∀ ds d, m_read_gamma ds = some d → ds.length = 2 := mkM_len
theorem ok_read_gamma (T : Txt K mg) : FnOk P w K mg base CX0 3 T.f_read_gamma T.d_read_gamma ["bits", "at"] (spP 2 m_read_gamma) := by
  refine Fun.okP (O1 := []) (F := F_read_gamma) T.F_read_gamma sc_read_gamma rfl rfl fun cdv A outer s H E hr => ?_
  exact (qss_cons (qs_set 2 qint (fun _ => sc_read_gamma.nd)) (qss_cons (qs_while 1000 (qt_compare (c_eq (fun _ => hr)) (q_cut (qvb 0) (qo_some (q_add (qv 1) (qv 2))) (qo_some (q_add (q_add (qv 1) (qv 2)) qint))).qb (qstr (l := [48])).qb) (qss_one (qs_iadd 2 qint (fun _ => sc_read_gamma.nd)))) (qss_cons (qs_set 3 (q_call (fun _ => (ok_read_digits T)) (m_read_digits_len) (fun _ => T.g_read_digits) (fun _ => T.F_read_digits.kp) (fun _ => T.b_read_digits) (fun _ => hr.mono (by omega)) (qa_cons (qv 0) (qa_cons (q_add (qv 1) (qv 2)) (qa_cons (q_add (qv 2) qint) qa_nil)))) (fun _ => sc_read_gamma.nd)) (qss_one (qs_ret (q_ife (qt_compare c_is (qvb 3) (qnon).qb) qnon (q_tup (qa_cons (q_sub (q_ix (qvb 3) (qint).qb) qint) (qa_cons (q_ix (qvb 3) (qint).qb) qa_nil)))))))))
abbrev N_read_delta : List Str := ["bits", "at", "many", "told"]
theorem sc_read_delta : FnScope ["bits", "at", "many", "told"] ["bits", "at"] (defScope (topS 20)) := ⟨rfl, rfl, rfl, by decide +kernel, rfl, by decide +kernel, by decide +kernel⟩
def F_read_delta : Ev → Option Out := (sSeq (sSet 2 (gF m_read_gamma (gCons (gVar 0) (gCons (gVar 1) gNil)))) (sSeq (sIf (gT (g2 dIs (gVar 2) (gC .non))) (sRet (gC .non)) sNil) (sSeq (sSet 3 (gF m_read_digits (gCons (gVar 0) (gCons (g2 dIdx (gVar 2) (gC (.int 1))) (gCons (g2 dIdx (gVar 2) (gC (.int 0))) gNil))))) (sRet (gIf (gT (g2 dIs (gVar 3) (gC .non))) (gC .non) (gTup (gCons (g2 dSub (g2 dAdd (gF m_two_to (gCons (g2 dIdx (gVar 2) (gC (.int 0))) gNil)) (g2 dIdx (gVar 3) (gC (.int 0)))) (gC (.int 1))) (gCons (g2 dIdx (gVar 3) (gC (.int 1))) gNil))))))))
def m_read_delta : List D → Option D := mkM 2 4 F_read_delta
theorem u_read_delta (x0 x1 : D) : m_read_delta [x0, x1] = mkR (F_read_delta [x0, x1, .bot, .bot]) := rfl
theorem m_read_delta_len : ∀ ds d, m_read_delta ds = some d → ds.length = 2 := mkM_len
theorem ok_read_delta (T : Txt K mg) : FnOk P w K mg base CX0 4 T.f_read_delta T.d_read_delta ["bits", "at"] (spP 2 m_read_delta) := by
  refine Fun.okP (O1 := []) (F := F_read_delta) T.F_read_delta sc_read_delta rfl rfl fun cdv A outer s H E hr => ?_
  exact (qss_cons (qs_set 2 (q_call (fun _ => (ok_read_gamma T)) (m_read_gamma_len) (fun _ => T.g_read_gamma) (fun _ => T.F_read_gamma.kp) (fun _ => T.b_read_gamma) (fun _ => hr.mono (by omega)) (qa_cons (qv 0) (qa_cons (qv 1) qa_nil))) (fun _ => sc_read_delta.nd)) (qss_cons (qs_if (qt_compare c_is (qvb 2) (qnon).qb) (qss_one (qs_ret qnon)) qss_nil) (qss_cons (qs_set 3 (q_call (fun _ => (ok_read_digits T)) (m_read_digits_len) (fun _ => T.g_read_digits) (fun _ => T.F_read_digits.kp) (fun _ => T.b_read_digits) (fun _ => hr.mono (by omega)) (qa_cons (qv 0) (qa_cons (q_ix (qvb 2) (qint).qb) (qa_cons (q_ix (qvb 2) (qint).qb) qa_nil)))) (fun _ => sc_read_delta.nd)) (qss_one (qs_ret (q_ife (qt_compare c_is (qvb 3) (qnon).qb) qnon (q_tup (qa_cons (q_sub (q_add (q_call (fun _ => (ok_two_to T)) (m_two_to_len) (fun _ => T.g_two_to) (fun _ => T.F_two_to.kp) (fun _ => T.b_two_to) (fun _ => hr.mono (by omega)) (qa_cons (q_ix (qvb 2) (qint).qb) qa_nil)) (q_ix (qvb 3) (qint).qb)) qint) (qa_cons (q_ix (qvb 3) (qint).qb) qa_nil)))))))))
abbrev N_read_rice : List Str := ["bits", "at", "k", "first", "told"]
theorem sc_read_rice : FnScope ["bits", "at", "k", "first", "told"] ["bits", "at", "k"] (defScope (topS 21)) := ⟨rfl, rfl, rfl, by decide +kernel, rfl, by decide +kernel, by decide +kernel⟩
def F_read_rice : Ev → Option Out := (sSeq (sSet 3 (gF m_read_unary (gCons (gVar 0) (gCons (gVar 1) gNil)))) (sSeq (sSet 4 (gIf (gT (g2 dIs (gVar 3) (gC .non))) (gC .non) (gF m_read_digits (gCons (gVar 0) (gCons (g2 dIdx (gVar 3) (gC (.int 1))) (gCons (gVar 2) gNil)))))) (sRet (gIf (gT (g2 dIs (gVar 4) (gC .non))) (gC .non) (gTup (gCons (g2 dAdd (g2 dMul (g2 dIdx (gVar 3) (gC (.int 0))) (gF m_two_to (gCons (gVar 2) gNil))) (g2 dIdx (gVar 4) (gC (.int 0)))) (gCons (g2 dIdx (gVar 4) (gC (.int 1))) gNil)))))))
def m_read_rice : List D → Option D := mkM 3 5 F_read_rice
theorem u_read_rice (x0 x1 x2 : D) : m_read_rice [x0, x1, x2] = mkR (F_read_rice [x0, x1, x2, .bot, .bot]) := rfl
theorem m_read_rice_len : ∀ ds d, m_read_rice ds = some d → ds.length = 3 := mkM_len
theorem ok_read_rice (T : Txt K mg) : FnOk P w K mg base CX0 3 T.f_read_rice T.d_read_rice ["bits", "at", "k"] (spP 3 m_read_rice) := by
  refine Fun.okP (O1 := []) (F := F_read_rice) T.F_read_rice sc_read_rice rfl rfl fun cdv A outer s H E hr => ?_
  exact (qss_cons (qs_set 3 (q_call (fun _ => (ok_read_unary T)) (m_read_unary_len) (fun _ => T.g_read_unary) (fun _ => T.F_read_unary.kp) (fun _ => T.b_read_unary) (fun _ => hr.mono (by omega)) (qa_cons (qv 0) (qa_cons (qv 1) qa_nil))) (fun _ => sc_read_rice.nd)) (qss_cons (qs_set 4 (q_ife (qt_compare c_is (qvb 3) (qnon).qb) qnon (q_call (fun _ => (ok_read_digits T)) (m_read_digits_len) (fun _ => T.g_read_digits) (fun _ => T.F_read_digits.kp) (fun _ => T.b_read_digits) (fun _ => hr.mono (by omega)) (qa_cons (qv 0) (qa_cons (q_ix (qvb 3) (qint).qb) (qa_cons (qv 2) qa_nil))))) (fun _ => sc_read_rice.nd)) (qss_one (qs_ret (q_ife (qt_compare c_is (qvb 4) (qnon).qb) qnon (q_tup (qa_cons (q_add (q_mul (q_ix (qvb 3) (qint).qb) (q_call (fun _ => (ok_two_to T)) (m_two_to_len) (fun _ => T.g_two_to) (fun _ => T.F_two_to.kp) (fun _ => T.b_two_to) (fun _ => hr.mono (by omega)) (qa_cons (qv 2) qa_nil))) (q_ix (qvb 4) (qint).qb)) (qa_cons (q_ix (qvb 4) (qint).qb) qa_nil))))))))
abbrev N_read_golomb : List Str := ["bits", "at", "m", "first", "wide", "short", "told"]
theorem sc_read_golomb : FnScope ["bits", "at", "m", "first", "wide", "short", "told"] ["bits", "at", "m"] (defScope (topS 22)) := ⟨rfl, rfl, rfl, by decide +kernel, rfl, by decide +kernel, by decide +kernel⟩
def F_read_golomb : Ev → Option Out := (sSeq (sSet 3 (gF m_read_unary (gCons (gVar 0) (gCons (gVar 1) gNil)))) (sSeq (sIf (gT (g2 dIs (gVar 3) (gC .non))) (sRet (gC .non)) sNil) (sSeq (sAsg (gF m_rest_width (gCons (gVar 2) gNil)) (bTup 2 (bCons (bName 4) (bCons (bName 5) bNil)))) (sSeq (sIf (gT (g2 dGt (gVar 5) (gC (.int 0)))) (sSeq (sSet 6 (gF m_read_digits (gCons (gVar 0) (gCons (g2 dIdx (gVar 3) (gC (.int 1))) (gCons (g2 dSub (gVar 4) (gC (.int 1))) gNil))))) (sIf (tOrG (gT (g2 dIs (gVar 6) (gC .non))) (gT (g2 dLt (g2 dIdx (gVar 6) (gC (.int 0))) (gVar 5)))) (sRet (gIf (gT (g2 dIs (gVar 6) (gC .non))) (gC .non) (gTup (gCons (g2 dAdd (g2 dMul (g2 dIdx (gVar 3) (gC (.int 0))) (gVar 2)) (g2 dIdx (gVar 6) (gC (.int 0)))) (gCons (g2 dIdx (gVar 6) (gC (.int 1))) gNil))))) sNil)) sNil) (sSeq (sSet 6 (gF m_read_digits (gCons (gVar 0) (gCons (g2 dIdx (gVar 3) (gC (.int 1))) (gCons (gVar 4) gNil))))) (sRet (gIf (gT (g2 dIs (gVar 6) (gC .non))) (gC .non) (gTup (gCons (g2 dSub (g2 dAdd (g2 dMul (g2 dIdx (gVar 3) (gC (.int 0))) (gVar 2)) (g2 dIdx (gVar 6) (gC (.int 0)))) (gVar 5)) (gCons (g2 dIdx (gVar 6) (gC (.int 1))) gNil))))))))))
def m_read_golomb : List D → Option D := mkM 3 7 F_read_golomb
theorem u_read_golomb (x0 x1 x2 : D) : m_read_golomb [x0, x1, x2] = mkR (F_read_golomb [x0, x1, x2, .bot, .bot, .bot, .bot]) := rfl
theorem m_read_golomb_len : ∀ ds d, m_read_golomb ds = some d → ds.length = 3 := mkM_len
theorem ok_read_golomb (T : Txt K mg) : FnOk P w K mg base CX0 3 T.f_read_golomb T.d_read_golomb ["bits", "at", "m"] (spP 3 m_read_golomb) := by
  refine Fun.okP (O1 := []) (F := F_read_golomb) T.F_read_golomb sc_read_golomb rfl rfl fun cdv A outer s H E hr => ?_
  exact (qss_cons (qs_set 3 (q_call (fun _ => (ok_read_unary T)) (m_read_unary_len) (fun _ => T.g_read_unary) (fun _ => T.F_read_unary.kp) (fun _ => T.b_read_unary) (fun _ => hr.mono (by omega)) (qa_cons (qv 0) (qa_cons (qv 1) qa_nil))) (fun _ => sc_read_golomb.nd)) (qss_cons (qs_if (qt_compare c_is (qvb 3) (qnon).qb) (qss_one (qs_ret qnon)) qss_nil) (qss_cons (qs_asg (q_call (fun _ => (ok_rest_width T)) (m_rest_width_len) (fun _ => T.g_rest_width) (fun _ => T.F_rest_width.kp) (fun _ => T.b_rest_width) (fun _ => hr.mono (by omega)) (qa_cons (qv 2) qa_nil)) (qg_tup (n := 2) (qgs_cons (qg_name 4 (fun _ => sc_read_golomb.nd)) (qgs_cons (qg_name 5 (fun _ => sc_read_golomb.nd)) qgs_nil)))) (qss_cons (qs_if (qt_compare c_gt (qvb 5) (qint).qb) (qss_cons (qs_set 6 (q_call (fun _ => (ok_read_digits T)) (m_read_digits_len) (fun _ => T.g_read_digits) (fun _ => T.F_read_digits.kp) (fun _ => T.b_read_digits) (fun _ => hr.mono (by omega)) (qa_cons (qv 0) (qa_cons (q_ix (qvb 3) (qint).qb) (qa_cons (q_sub (qv 4) qint) qa_nil)))) (fun _ => sc_read_golomb.nd)) (qss_one (qs_if (qw_or (qt_compare c_is (qvb 6) (qnon).qb) (qw_or1 (qt_compare c_lt (q_ix (qvb 6) (qint).qb).qb (qvb 5)))).qt (qss_one (qs_ret (q_ife (qt_compare c_is (qvb 6) (qnon).qb) qnon (q_tup (qa_cons (q_add (q_mul (q_ix (qvb 3) (qint).qb) (qv 2)) (q_ix (qvb 6) (qint).qb)) (qa_cons (q_ix (qvb 6) (qint).qb) qa_nil)))))) qss_nil))) qss_nil) (qss_cons (qs_set 6 (q_call (fun _ => (ok_read_digits T)) (m_read_digits_len) (fun _ => T.g_read_digits) (fun _ => T.F_read_digits.kp) (fun _ => T.b_read_digits) (fun _ => hr.mono (by omega)) (qa_cons (qv 0) (qa_cons (q_ix (qvb 3) (qint).qb) (qa_cons (qv 4) qa_nil)))) (fun _ => sc_read_golomb.nd)) (qss_one (qs_ret (q_ife (qt_compare c_is (qvb 6) (qnon).qb) qnon (q_tup (qa_cons (q_sub (q_add (q_mul (q_ix (qvb 3) (qint).qb) (qv 2)) (q_ix (qvb 6) (qint).qb)) (qv 5)) (qa_cons (q_ix (qvb 6) (qint).qb) qa_nil)))))))))))
abbrev N_read_by_two : List Str := ["bits", "at", "end", "found", "one", "other", "sign"]
theorem sc_read_by_two : FnScope ["bits", "at", "end", "found", "one", "other", "sign"] ["bits", "at"] (defScope (topS 23)) := ⟨rfl, rfl, rfl, by decide +kernel, rfl, by decide +kernel, by decide +kernel⟩
def L_read_by_two_0 : Ev → Option Out := (sSeq (sAug 3 dAddS (gIf (gT (g2 dEq (gVar 6) (gC (.str [49])))) (gVar 4) (gC (.int 0)))) (sPar2 4 5 (gVar 5) (g2 dAdd (gVar 4) (gVar 5))))
def F_read_by_two : Ev → Option Out := (sSeq (sSet 2 (gM m_str_find (gVar 0) (gCons (gC (.str [49, 49])) (gCons (gVar 1) gNil)))) (sSeq (sIf (gT (g2 dLt (gVar 2) (gC (.int 0)))) (sRet (gC .non)) sNil) (sSeq (sSet 3 (gC (.int 0))) (sSeq (sAsg (gTup (gCons (gC (.int 1)) (gCons (gC (.int 2)) gNil))) (bTup 2 (bCons (bName 4) (bCons (bName 5) bNil)))) (sSeq (sFor (iS (gCut (gVar 0) (gOs (gVar 1)) (gOs (g2 dAdd (gVar 2) (gC (.int 1)))))) (bName 6) L_read_by_two_0) (sRet (gTup (gCons (g2 dSub (gVar 3) (gC (.int 1))) (gCons (g2 dAdd (gVar 2) (gC (.int 2))) gNil)))))))))
def m_read_by_two : List D → Option D := mkM 2 7 F_read_by_two
theorem u_read_by_two (x0 x1 : D) : m_read_by_two [x0, x1] = mkR (F_read_by_two [x0, x1, .bot, .bot, .bot, .bot, .bot]) := rfl
theorem m_read_by_two_len : ∀ ds d, m_read_by_two ds = some d → ds.length = 2 := mkM_len
theorem ok_read_by_two (T : Txt K mg) : FnOk P w K mg base CX0 1 T.f_read_by_two T.d_read_by_two ["bits", "at"] (spP 2 m_read_by_two) := by
  refine Fun.okP (O1 := []) (F := F_read_by_two) T.F_read_by_two sc_read_by_two rfl rfl fun cdv A outer s H E hr => ?_
  exact (qss_cons (qs_set 2 (q_str_find (qvb 0) (qa_cons (qstr (l := [49, 49])) (qa_cons (qv 1) qa_nil))) (fun _ => sc_read_by_two.nd)) (qss_cons (qs_if (qt_compare c_lt (qvb 2) (qint).qb) (qss_one (qs_ret qnon)) qss_nil) (qss_cons (qs_set 3 qint (fun _ => sc_read_by_two.nd)) (qss_cons (qs_asg (q_tup (qa_cons qint (qa_cons qint qa_nil))) (qg_tup (n := 2) (qgs_cons (qg_name 4 (fun _ => sc_read_by_two.nd)) (qgs_cons (qg_name 5 (fun _ => sc_read_by_two.nd)) qgs_nil)))) (qss_cons (qs_for (qi_str (q_cut (qvb 0) (qo_some (qv 1)) (qo_some (q_add (qv 2) qint)))) (qg_name 6 (fun _ => sc_read_by_two.nd)) (qss_cons (qs_iadd 3 (q_ife (qt_compare (c_eq (fun _ => hr)) (qvb 6) (qstr (l := [49])).qb) (qv 4) qint) (fun _ => sc_read_by_two.nd)) (qss_one (qs_par2 4 5 (qv 5) (q_add (qv 4) (qv 5)) (fun _ => sc_read_by_two.nd))))) (qss_one (qs_ret (q_tup (qa_cons (q_sub (qv 3) qint) (qa_cons (q_add (qv 2) qint) qa_nil))))))))))
abbrev N_read_number : List Str := ["kind", "bits", "at"]
theorem sc_read_number : FnScope ["kind", "bits", "at"] ["kind", "bits", "at"] (defScope (topS 24)) := ⟨rfl, rfl, rfl, by decide +kernel, rfl, by decide +kernel, by decide +kernel⟩
def F_read_number : Ev → Option Out := (sSeq (sIf (gT (g2 dEq (g2 dIdx (gVar 0) (gC (.int 0))) (gC (.str [117, 110, 97, 114, 121])))) (sRet (gF m_read_unary (gCons (gVar 1) (gCons (gVar 2) gNil)))) sNil) (sSeq (sIf (gT (g2 dEq (g2 dIdx (gVar 0) (gC (.int 0))) (gC (.str [103, 97, 109, 109, 97])))) (sRet (gF m_read_gamma (gCons (gVar 1) (gCons (gVar 2) gNil)))) sNil) (sSeq (sIf (gT (g2 dEq (g2 dIdx (gVar 0) (gC (.int 0))) (gC (.str [100, 101, 108, 116, 97])))) (sRet (gF m_read_delta (gCons (gVar 1) (gCons (gVar 2) gNil)))) sNil) (sSeq (sIf (gT (g2 dEq (g2 dIdx (gVar 0) (gC (.int 0))) (gC (.str [114, 105, 99, 101])))) (sRet (gF m_read_rice (gCons (gVar 1) (gCons (gVar 2) (gCons (g2 dIdx (gVar 0) (gC (.int 1))) gNil))))) sNil) (sRet (gIf (gT (g2 dEq (g2 dIdx (gVar 0) (gC (.int 0))) (gC (.str [103, 111, 108, 111, 109, 98])))) (gF m_read_golomb (gCons (gVar 1) (gCons (gVar 2) (gCons (g2 dIdx (gVar 0) (gC (.int 1))) gNil)))) (gF m_read_by_two (gCons (gVar 1) (gCons (gVar 2) gNil)))))))))
def m_read_number : List D → Option D := mkM 3 3 F_read_number
theorem u_read_number (x0 x1 x2 : D) : m_read_number [x0, x1, x2] = mkR (F_read_number [x0, x1, x2]) := rfl
theorem m_read_number_len : ∀ ds d, m_read_number ds = some d → ds.length = 3 := mkM_len
theorem ok_read_number (T : Txt K mg) : FnOk P w K mg base CX0 5 T.f_read_number T.d_read_number ["kind", "bits", "at"] (spP 3 m_read_number) := by
  refine Fun.okP (O1 := []) (F := F_read_number) T.F_read_number sc_read_number rfl rfl fun cdv A outer s H E hr => ?_
  exact (qss_cons (qs_if (qt_compare (c_eq (fun _ => hr)) (q_ix (qvb 0) (qint).qb).qb (qstr (l := [117, 110, 97, 114, 121])).qb) (qss_one (qs_ret (q_call (fun _ => (ok_read_unary T)) (m_read_unary_len) (fun _ => T.g_read_unary) (fun _ => T.F_read_unary.kp) (fun _ => T.b_read_unary) (fun _ => hr.mono (by omega)) (qa_cons (qv 1) (qa_cons (qv 2) qa_nil))))) qss_nil) (qss_cons (qs_if (qt_compare (c_eq (fun _ => hr)) (q_ix (qvb 0) (qint).qb).qb (qstr (l := [103, 97, 109, 109, 97])).qb) (qss_one (qs_ret (q_call (fun _ => (ok_read_gamma T)) (m_read_gamma_len) (fun _ => T.g_read_gamma) (fun _ => T.F_read_gamma.kp) (fun _ => T.b_read_gamma) (fun _ => hr.mono (by omega)) (qa_cons (qv 1) (qa_cons (qv 2) qa_nil))))) qss_nil) (qss_cons (qs_if (qt_compare (c_eq (fun _ => hr)) (q_ix (qvb 0) (qint).qb).qb (qstr (l := [100, 101, 108, 116, 97])).qb) (qss_one (qs_ret (q_call (fun _ => (ok_read_delta T)) (m_read_delta_len) (fun _ => T.g_read_delta) (fun _ => T.F_read_delta.kp) (fun _ => T.b_read_delta) (fun _ => hr.mono (by omega)) (qa_cons (qv 1) (qa_cons (qv 2) qa_nil))))) qss_nil) (qss_cons (qs_if (qt_compare (c_eq (fun _ => hr)) (q_ix (qvb 0) (qint).qb).qb (qstr (l := [114, 105, 99, 101])).qb) (qss_one (qs_ret (q_call (fun _ => (ok_read_rice T)) (m_read_rice_len) (fun _ => T.g_read_rice) (fun _ => T.F_read_rice.kp) (fun _ => T.b_read_rice) (fun _ => hr.mono (by omega)) (qa_cons (qv 1) (qa_cons (qv 2) (qa_cons (q_ix (qvb 0) (qint).qb) qa_nil)))))) qss_nil) (qss_one (qs_ret (q_ife (qt_compare (c_eq (fun _ => hr)) (q_ix (qvb 0) (qint).qb).qb (qstr (l := [103, 111, 108, 111, 109, 98])).qb) (q_call (fun _ => (ok_read_golomb T)) (m_read_golomb_len) (fun _ => T.g_read_golomb) (fun _ => T.F_read_golomb.kp) (fun _ => T.b_read_golomb) (fun _ => hr.mono (by omega)) (qa_cons (qv 1) (qa_cons (qv 2) (qa_cons (q_ix (qvb 0) (qint).qb) qa_nil)))) (q_call (fun _ => (ok_read_by_two T)) (m_read_by_two_len) (fun _ => T.g_read_by_two) (fun _ => T.F_read_by_two.kp) (fun _ => T.b_read_by_two) (fun _ => hr.mono (by omega)) (qa_cons (qv 1) (qa_cons (qv 2) qa_nil))))))))))
abbrev N_byte_rows : List Str := ["n", "found"]
theorem sc_byte_rows : FnScope ["n", "found"] ["n"] (defScope (topS 26)) := ⟨rfl, rfl, rfl, by decide +kernel, rfl, by decide +kernel, by decide +kernel⟩
def L_byte_rows_0 : Ev → Option Out := (sSeq (sApp 1 (g2 dAdd (g2 dMod (gVar 0) (gC (.int 128))) (gC (.int 128)))) (sSet 0 (g2 dDiv (gVar 0) (gC (.int 128)))))
def C_byte_rows_0 : Ev → Option Bool := (gT (g2 dGe (gVar 0) (gC (.int 128))))
def F_byte_rows : Ev → Option Out := (sSeq (sOwn 1 (gLst gNil)) (sSeq (whileF C_byte_rows_0 L_byte_rows_0 1000) (sRet (gF fTuple (gCons (g2 dAdd (gVar 1) (gLst (gCons (gVar 0) gNil))) gNil)))))
def m_byte_rows : List D → Option D := mkM 1 2 F_byte_rows
theorem u_byte_rows (x0 : D) : m_byte_rows [x0] = mkR (F_byte_rows [x0, .bot]) := rfl
theorem m_byte_rows_len : ∀ ds d, m_byte_rows ds = some d → ds.length = 1 := mkM_len
theorem ok_byte_rows (T : Txt K mg) : FnOk P w K mg base CX0 1 T.f_byte_rows T.d_byte_rows ["n"] (spP 1 m_byte_rows) := by
  refine Fun.okP (O1 := []) (F := F_byte_rows) T.F_byte_rows sc_byte_rows rfl rfl fun cdv A outer s H E hr => ?_
  exact (qss_cons (qs_own 1 (qf_lst qa_nil) (fun _ => sc_byte_rows.nd)) (qss_cons (qs_while 1000 (qt_compare c_ge (qvb 0) (qint).qb) (qss_cons (qs_append 1 (q_add (q_mod (qv 0) qint) qint)) (qss_one (qs_set 0 (q_div (qv 0) qint) (fun _ => sc_byte_rows.nd))))) (qss_one (QS.frz (O1 := []) (qs_ret (q_tuple (qab_cons (q_add (qv 1) ((qf_lst (qa_cons (qv 0) qa_nil))).qe).qb qab_nil) (fun _ => T.z_tuple)))))))
abbrev N_read_byte_rows : List Str := ["row", "found", "now", "by", "k"]
theorem sc_read_byte_rows : FnScope ["row", "found", "now", "by", "k"] ["row"] (defScope (topS 27)) := ⟨rfl, rfl, rfl, by decide +kernel, rfl, by decide +kernel, by decide +kernel⟩
def L_read_byte_rows_0 : Ev → Option Out := (sSeq (sIf (tOrG (tNotG (gT (gF m_is_below (gCons (g2 dIdx (gVar 0) (gVar 4)) (gCons (gC (.int 256)) gNil))))) (tAndG (gT (g2 dEq (g2 dIdx (gVar 0) (gVar 4)) (gC (.int 0)))) (gT (g2 dGt (gVar 3) (gC (.int 1)))))) (sRet (gC .non)) sNil) (sSeq (sAug 2 dAddS (g2 dMul (g2 dMod (g2 dIdx (gVar 0) (gVar 4)) (gC (.int 128))) (gVar 3))) (sSeq (sSet 3 (g2 dMul (gVar 3) (gC (.int 128)))) (sIf (gT (g2 dLt (g2 dIdx (gVar 0) (gVar 4)) (gC (.int 128)))) (sSeq (sApp 1 (gVar 2)) (sAsg (gTup (gCons (gC (.int 0)) (gCons (gC (.int 1)) gNil))) (bTup 2 (bCons (bName 2) (bCons (bName 3) bNil))))) sNil))))
def F_read_byte_rows : Ev → Option Out := (sSeq (sOwn 1 (gLst gNil)) (sSeq (sAsg (gTup (gCons (gC (.int 0)) (gCons (gC (.int 1)) gNil))) (bTup 2 (bCons (bName 2) (bCons (bName 3) bNil)))) (sSeq (sFor (iR1 (gF fLen (gCons (gVar 0) gNil))) (bName 4) L_read_byte_rows_0) (sRet (gIf (gT (g2 dEq (gVar 3) (gC (.int 1)))) (gF fTuple (gCons (gVar 1) gNil)) (gC .non))))))
def m_read_byte_rows : List D → Option D := mkM 1 5 F_read_byte_rows
theorem u_read_byte_rows (x0 : D) : m_read_byte_rows [x0] = mkR (F_read_byte_rows [x0, .bot, .bot, .bot, .bot]) := rfl
theorem m_read_byte_rows_len : ∀ ds d, m_read_byte_rows ds = some d → ds.length = 1 := mkM_len
theorem ok_read_byte_rows (T : Txt K mg) : FnOk P w K mg base CX0 3 T.f_read_byte_rows T.d_read_byte_rows ["row"] (spP 1 m_read_byte_rows) := by
  refine Fun.okP (O1 := [1]) (F := F_read_byte_rows) T.F_read_byte_rows sc_read_byte_rows rfl rfl fun cdv A outer s H E hr => ?_
  exact (qss_cons (qs_own 1 (qf_lst qa_nil) (fun _ => sc_read_byte_rows.nd)) (qss_cons (qs_asg (q_tup (qa_cons qint (qa_cons qint qa_nil))) (qg_tup (n := 2) (qgs_cons (qg_name 2 (fun _ => sc_read_byte_rows.nd)) (qgs_cons (qg_name 3 (fun _ => sc_read_byte_rows.nd)) qgs_nil)))) (qss_cons (qs_for (qi_rng1 (q_len (qab_cons (qvb 0) qab_nil) (fun _ => T.z_len)) (fun _ => T.z_range)) (qg_name 4 (fun _ => sc_read_byte_rows.nd)) (qss_cons (qs_if (qw_or (qt_not (qt_val (q_call (fun _ => (ok_is_below T)) (m_is_below_len) (fun _ => T.g_is_below) (fun _ => T.F_is_below.kp) (fun _ => T.b_is_below) (fun _ => hr.mono (by omega)) (qa_cons (q_ix (qvb 0) (qvb 4)) (qa_cons qint qa_nil))))) (qw_or1 (qw_and (qt_compare (c_eq (fun _ => hr)) (q_ix (qvb 0) (qvb 4)).qb (qint).qb) (qw_and1 (qt_compare c_gt (qvb 3) (qint).qb))).qt)).qt (qss_one (qs_ret qnon)) qss_nil) (qss_cons (qs_iadd 2 (q_mul (q_mod (q_ix (qvb 0) (qvb 4)) qint) (qv 3)) (fun _ => sc_read_byte_rows.nd)) (qss_cons (qs_set 3 (q_mul (qv 3) qint) (fun _ => sc_read_byte_rows.nd)) (qss_one (qs_if (qt_compare c_lt (q_ix (qvb 0) (qvb 4)).qb (qint).qb) (qss_cons (qs_append 1 (qv 2)) (qss_one (qs_asg (q_tup (qa_cons qint (qa_cons qint qa_nil))) (qg_tup (n := 2) (qgs_cons (qg_name 2 (fun _ => sc_read_byte_rows.nd)) (qgs_cons (qg_name 3 (fun _ => sc_read_byte_rows.nd)) qgs_nil)))))) qss_nil)))))) (qss_one (qs_ret (q_ife (qt_compare (c_eq (fun _ => hr)) (qvb 3) (qint).qb) (q_tuple (qab_cons (qvb 1) qab_nil) (fun _ => T.z_tuple)) qnon))))))
abbrev N__law_digits : List Str := ["n", "wide", "k"]
theorem sc__law_digits : FnScope ["n", "wide", "k"] ["n", "wide"] (defScope (topS 31)) := ⟨rfl, rfl, rfl, by decide +kernel, rfl, by decide +kernel, by decide +kernel⟩
def E__law_digits_0 : Ev → Option D := (gF fStr (gCons (g2 dAnd (g2 dShr (gVar 0) (g2 dSub (g2 dSub (gVar 1) (gC (.int 1))) (gVar 2))) (gC (.int 1))) gNil))
def F__law_digits : Ev → Option Out := (sRet (g2 dJoin (gC (.str [])) (gLc (iR1 (gVar 1)) (bName 2) cYes E__law_digits_0 [2])))
def m__law_digits : List D → Option D := mkM 2 3 F__law_digits
theorem u__law_digits (x0 x1 : D) : m__law_digits [x0, x1] = mkR (F__law_digits [x0, x1, .bot]) := rfl
theorem m__law_digits_len : ∀ ds d, m__law_digits ds = some d → ds.length = 2 := mkM_len
theorem ok__law_digits (T : Txt K mg) : FnOk P w K mg base CX0 1 T.f__law_digits T.d__law_digits ["n", "wide"] (spP 2 m__law_digits) := by
  refine Fun.okP (O1 := []) (F := F__law_digits) T.F__law_digits sc__law_digits rfl rfl fun cdv A outer s H E hr => ?_
  exact (qss_one (qs_ret (q_join (qstr (l := [])) ((qf_lc [("k", 2)] (qi_rng1 (qv 1) (fun _ => T.z_range)) (qg_name 2 (fun _ => sc__law_digits.nd)) qts_nil (q_str (qab_cons (q_band (q_shr (qv 0) (q_sub (q_sub (qv 1) qint) (qv 2))) qint).qb qab_nil) (fun _ => T.z_str)) (fun _ => sc__law_digits.nd) (N := N__law_digits) (sc := defScope (topS 31)) (by decide +kernel))).qe.qb)))
abbrev N__law_wide : List Str := ["n", "wide"]
theorem sc__law_wide : FnScope ["n", "wide"] ["n"] (defScope (topS 32)) := ⟨rfl, rfl, rfl, by decide +kernel, rfl, by decide +kernel, by decide +kernel⟩
def L__law_wide_0 : Ev → Option Out := (sAug 1 dAddS (gC (.int 1)))
def C__law_wide_0 : Ev → Option Bool := (gT (g2 dGt (g2 dShr (gVar 0) (gVar 1)) (gC (.int 0))))
def F__law_wide : Ev → Option Out := (sSeq (sSet 1 (gC (.int 0))) (sSeq (whileF C__law_wide_0 L__law_wide_0 1000) (sRet (gVar 1))))
def m__law_wide : List D → Option D := mkM 1 2 F__law_wide
theorem u__law_wide (x0 : D) : m__law_wide [x0] = mkR (F__law_wide [x0, .bot]) := rfl
theorem m__law_wide_len : ∀ ds d, m__law_wide ds = some d → ds.length = 1 := mkM_len
theorem ok__law_wide (T : Txt K mg) : FnOk P w K mg base CX0 1 T.f__law_wide T.d__law_wide ["n"] (spP 1 m__law_wide) := by
  refine Fun.okP (O1 := []) (F := F__law_wide) T.F__law_wide sc__law_wide rfl rfl fun cdv A outer s H E hr => ?_
  exact (qss_cons (qs_set 1 qint (fun _ => sc__law_wide.nd)) (qss_cons (qs_while 1000 (qt_compare c_gt (q_shr (qv 0) (qv 1)).qb (qint).qb) (qss_one (qs_iadd 1 qint (fun _ => sc__law_wide.nd)))) (qss_one (qs_ret (qv 1)))))
abbrev N__law_holds : List Str := ["w", "n", "m", "k", "wide", "size", "b", "u", "rest", "due", "fibs", "left", "text", "own", "kind", "bits", "rows", "one"]
theorem sc__law_holds : FnScope N__law_holds ["w"] (defScope (topS 33)) := ⟨rfl, rfl, rfl, by decide +kernel, rfl, by decide +kernel, by decide +kernel⟩
def L__law_holds_0 : Ev → Option Out := (sApp 10 (g2 dAdd (g2 dIdx (gVar 10) (g1 dNeg (gC (.int 1)))) (g2 dIdx (gVar 10) (g1 dNeg (gC (.int 2))))))
def C__law_holds_0 : Ev → Option Bool := (gT (g2 dLe (g2 dIdx (gVar 10) (g1 dNeg (gC (.int 1)))) (g2 dAdd (gVar 1) (gC (.int 1)))))
def E__law_holds_0 : Ev → Option D := (gVar 17)
def K__law_holds_0 : Ev → Option Bool := (gT (g2 dLe (gVar 17) (g2 dAdd (gVar 1) (gC (.int 1)))))
def L__law_holds_1 : Ev → Option Out := (sPar2 12 11 (g2 dAdd (gIf (gT (g2 dLe (gVar 13) (gVar 11))) (gC (.str [49])) (gC (.str [48]))) (gVar 12)) (g2 dSub (gVar 11) (gIf (gT (g2 dLe (gVar 13) (gVar 11))) (gVar 13) (gC (.int 0)))))
def L__law_holds_2 : Ev → Option Out := (sSeq (sSet 15 (gF m_write_number (gCons (gVar 14) (gCons (gVar 1) gNil)))) (sIf (tOrG (gT (g2 dNe (gF m_read_number (gCons (gVar 14) (gCons (g2 dAdd (gVar 15) (gC (.str [48, 49]))) (gCons (gC (.int 0)) gNil)))) (gTup (gCons (gVar 1) (gCons (gF fLen (gCons (gVar 15) gNil)) gNil))))) (tAndG (gT (g2 dIsNot (gF m_read_number (gCons (gVar 14) (gCons (gCut (gVar 15) gOn (gOs (g1 dNeg (gC (.int 1))))) (gCons (gC (.int 0)) gNil)))) (gC .non))) (gT (g2 dNotIn (g2 dIdx (gVar 14) (gC (.int 0))) (gTup (gCons (gC (.str [114, 105, 99, 101])) (gCons (gC (.str [103, 111, 108, 111, 109, 98])) gNil))))))) (sRet (gC (.bl false))) sNil))
def L__law_holds_3 : Ev → Option Out := (sSeq (sApp 16 (g2 dAdd (g2 dMod (gVar 11) (gC (.int 128))) (gC (.int 128)))) (sSet 11 (g2 dDiv (gVar 11) (gC (.int 128)))))
def C__law_holds_1 : Ev → Option Bool := (gT (g2 dGt (gVar 11) (gC (.int 127))))
def F__law_holds : Ev → Option Out := (sSeq (sSet 4 (gF m__law_wide (gCons (g2 dAdd (gVar 1) (gC (.int 1))) gNil))) (sSeq (sIf (tOrG (gT (g2 dNe (gF m_unary (gCons (gVar 3) gNil)) (g2 dAdd (g2 dMul (gC (.str [49])) (gVar 3)) (gC (.str [48]))))) (gT (g2 dNe (gF m_gamma (gCons (gVar 1) gNil)) (g2 dAdd (g2 dMul (gC (.str [48])) (g2 dSub (gVar 4) (gC (.int 1)))) (gF m__law_digits (gCons (g2 dAdd (gVar 1) (gC (.int 1))) (gCons (gVar 4) gNil))))))) (sRet (gC (.bl false))) sNil) (sSeq (sSet 5 (gF m__law_wide (gCons (gVar 4) gNil))) (sSeq (sIf (tOrG (gT (g2 dNe (gF m_delta (gCons (gVar 1) gNil)) (g2 dAdd (g2 dAdd (g2 dMul (gC (.str [48])) (g2 dSub (gVar 5) (gC (.int 1)))) (gF m__law_digits (gCons (gVar 4) (gCons (gVar 5) gNil)))) (gCut (gF m__law_digits (gCons (g2 dAdd (gVar 1) (gC (.int 1))) (gCons (gVar 4) gNil))) (gOs (gC (.int 1))) gOn)))) (gT (g2 dNe (gF m_rice (gCons (gVar 1) (gCons (gVar 3) gNil))) (g2 dAdd (gF m_unary (gCons (g2 dShr (gVar 1) (gVar 3)) gNil)) (gF m__law_digits (gCons (gVar 1) (gCons (gVar 3) gNil))))))) (sRet (gC (.bl false))) sNil) (sSeq (sSet 6 (gF m__law_wide (gCons (g2 dSub (gVar 2) (gC (.int 1))) gNil))) (sSeq (sPar2 7 8 (g2 dSub (g2 dShl (gC (.int 1)) (gVar 6)) (gVar 2)) (g2 dMod (gVar 1) (gVar 2))) (sSeq (sSet 9 (g2 dAdd (gF m_unary (gCons (g2 dDiv (gVar 1) (gVar 2)) gNil)) (gIf (gT (g2 dLt (gVar 8) (gVar 7))) (gIf (gT (g2 dEq (gVar 6) (gC (.int 0)))) (gC (.str [])) (gF m__law_digits (gCons (gVar 8) (gCons (g2 dSub (gVar 6) (gC (.int 1))) gNil)))) (gF m__law_digits (gCons (g2 dAdd (gVar 8) (gVar 7)) (gCons (gVar 6) gNil)))))) (sSeq (sIf (gT (g2 dNe (gF m_golomb (gCons (gVar 1) (gCons (gVar 2) gNil))) (gVar 9))) (sRet (gC (.bl false))) sNil) (sSeq (sOwn 10 (gLst (gCons (gC (.int 1)) (gCons (gC (.int 2)) gNil)))) (sSeq (whileF C__law_holds_0 L__law_holds_0 1000) (sSeq (sPar2 11 12 (g2 dAdd (gVar 1) (gC (.int 1))) (gC (.str []))) (sSeq (sFor (iL (g1 dRev (gLc (iL (gVar 10)) (bName 17) K__law_holds_0 E__law_holds_0 [17]))) (bName 13) L__law_holds_1) (sSeq (sIf (tOrG (gT (g2 dNe (gF m_by_two (gCons (gVar 1) gNil)) (g2 dAdd (gVar 12) (gC (.str [49]))))) (gT (g2 dIn (gC (.str [49, 49])) (gVar 12)))) (sRet (gC (.bl false))) sNil) (sSeq (sFor (iT (gTup (gCons (gTup (gCons (gC (.str [117, 110, 97, 114, 121])) gNil)) (gCons (gTup (gCons (gC (.str [103, 97, 109, 109, 97])) gNil)) (gCons (gTup (gCons (gC (.str [100, 101, 108, 116, 97])) gNil)) (gCons (gTup (gCons (gC (.str [114, 105, 99, 101])) (gCons (gVar 3) gNil))) (gCons (gTup (gCons (gC (.str [103, 111, 108, 111, 109, 98])) (gCons (gVar 2) gNil))) (gCons (gTup (gCons (gC (.str [116, 119, 111])) gNil)) gNil)))))))) (bName 14) L__law_holds_2) (sSeq (sPar2f 16 11 (gLst gNil) (g2 dMul (gVar 1) (gVar 2))) (sSeq (whileF C__law_holds_1 L__law_holds_3 1000) (sRet (gAnd (g2 dEq (gF m_byte_rows (gCons (g2 dMul (gVar 1) (gVar 2)) gNil)) (gF fTuple (gCons (g2 dAdd (gVar 16) (gLst (gCons (gVar 11) gNil))) gNil))) (g2 dEq (gF m_read_byte_rows (gCons (g2 dAdd (gF m_byte_rows (gCons (gVar 1) gNil)) (gF m_byte_rows (gCons (gVar 2) gNil))) gNil)) (gTup (gCons (gVar 1) (gCons (gVar 2) gNil))))))))))))))))))))))
def Φ__law_holds : WS := (wSeq (wAsg (wTup (wCons (wCall φ_next (wCons (wP (gVar 0)) (wCons (wP (gC (.int 997))) wNil))) (wCons (w2 dAdd (wP (gC (.int 1))) (wCall φ_next (wCons (wP (gVar 0)) (wCons (wP (gC (.int 20))) wNil)))) (wCons (wCall φ_next (wCons (wP (gVar 0)) (wCons (wP (gC (.int 6))) wNil))) wNil)))) (bTup 3 (bCons (bName 1) (bCons (bName 2) (bCons (bName 3) bNil))))) (wS F__law_holds))
def φ__law_holds : Addr → List D → (D → Prop) → Prop := mkW 1 18 Φ__law_holds
theorem ok__law_holds (T : Txt K mg) : FnOk P w K mg base CX0 6 T.f__law_holds T.d__law_holds ["w"] (spW 1 φ__law_holds) := by
  refine Fun.okW (O1 := []) (Φ := Φ__law_holds) T.F__law_holds sc__law_holds rfl rfl fun cdv A outer s H E hr => ?_
  exact (qwss_cons (qws_asg (qw_tup (qwa_cons (qw_call (fun _ => ok__law_next T) φ_next_len (fun _ => T.g__law_next) (fun _ => T.F__law_next.kp) (fun _ => T.b__law_next) (fun _ => hr.mono (by omega)) (qwa_cons (qw_pure (qv 0)) (qwa_cons (qw_pure qint) qwa_nil))) (qwa_cons (qw_add (qw_pure qint) (qw_call (fun _ => ok__law_next T) φ_next_len (fun _ => T.g__law_next) (fun _ => T.F__law_next.kp) (fun _ => T.b__law_next) (fun _ => hr.mono (by omega)) (qwa_cons (qw_pure (qv 0)) (qwa_cons (qw_pure qint) qwa_nil)))) (qwa_cons (qw_call (fun _ => ok__law_next T) φ_next_len (fun _ => T.g__law_next) (fun _ => T.F__law_next.kp) (fun _ => T.b__law_next) (fun _ => hr.mono (by omega)) (qwa_cons (qw_pure (qv 0)) (qwa_cons (qw_pure qint) qwa_nil))) qwa_nil)))) (qg_tup (n := 3) (qgs_cons (qg_name 1 (fun _ => sc__law_holds.nd)) (qgs_cons (qg_name 2 (fun _ => sc__law_holds.nd)) (qgs_cons (qg_name 3 (fun _ => sc__law_holds.nd)) qgs_nil))))) (qwss_pure (qss_cons (qs_set 4 (q_call (fun _ => (ok__law_wide T)) (m__law_wide_len) (fun _ => T.g__law_wide) (fun _ => T.F__law_wide.kp) (fun _ => T.b__law_wide) (fun _ => hr.mono (by omega)) (qa_cons (q_add (qv 1) qint) qa_nil)) (fun _ => sc__law_holds.nd)) (qss_cons (qs_if (qw_or (qt_compare (c_ne (fun _ => hr)) (q_call (fun _ => (ok_unary T)) (m_unary_len) (fun _ => T.g_unary) (fun _ => T.F_unary.kp) (fun _ => T.b_unary) (fun _ => hr.mono (by omega)) (qa_cons (qv 3) qa_nil)).qb (q_add (q_mul (qstr (l := [49])) (qv 3)) (qstr (l := [48]))).qb) (qw_or1 (qt_compare (c_ne (fun _ => hr)) (q_call (fun _ => (ok_gamma T)) (m_gamma_len) (fun _ => T.g_gamma) (fun _ => T.F_gamma.kp) (fun _ => T.b_gamma) (fun _ => hr.mono (by omega)) (qa_cons (qv 1) qa_nil)).qb (q_add (q_mul (qstr (l := [48])) (q_sub (qv 4) qint)) (q_call (fun _ => (ok__law_digits T)) (m__law_digits_len) (fun _ => T.g__law_digits) (fun _ => T.F__law_digits.kp) (fun _ => T.b__law_digits) (fun _ => hr.mono (by omega)) (qa_cons (q_add (qv 1) qint) (qa_cons (qv 4) qa_nil)))).qb))).qt (qss_one (qs_ret qbl)) qss_nil) (qss_cons (qs_set 5 (q_call (fun _ => (ok__law_wide T)) (m__law_wide_len) (fun _ => T.g__law_wide) (fun _ => T.F__law_wide.kp) (fun _ => T.b__law_wide) (fun _ => hr.mono (by omega)) (qa_cons (qv 4) qa_nil)) (fun _ => sc__law_holds.nd)) (qss_cons (qs_if (qw_or (qt_compare (c_ne (fun _ => hr)) (q_call (fun _ => (ok_delta T)) (m_delta_len) (fun _ => T.g_delta) (fun _ => T.F_delta.kp) (fun _ => T.b_delta) (fun _ => hr.mono (by omega)) (qa_cons (qv 1) qa_nil)).qb (q_add (q_add (q_mul (qstr (l := [48])) (q_sub (qv 5) qint)) (q_call (fun _ => (ok__law_digits T)) (m__law_digits_len) (fun _ => T.g__law_digits) (fun _ => T.F__law_digits.kp) (fun _ => T.b__law_digits) (fun _ => hr.mono (by omega)) (qa_cons (qv 4) (qa_cons (qv 5) qa_nil)))) (q_cut (q_call (fun _ => (ok__law_digits T)) (m__law_digits_len) (fun _ => T.g__law_digits) (fun _ => T.F__law_digits.kp) (fun _ => T.b__law_digits) (fun _ => hr.mono (by omega)) (qa_cons (q_add (qv 1) qint) (qa_cons (qv 4) qa_nil))).qb (qo_some qint) qo_none)).qb) (qw_or1 (qt_compare (c_ne (fun _ => hr)) (q_call (fun _ => (ok_rice T)) (m_rice_len) (fun _ => T.g_rice) (fun _ => T.F_rice.kp) (fun _ => T.b_rice) (fun _ => hr.mono (by omega)) (qa_cons (qv 1) (qa_cons (qv 3) qa_nil))).qb (q_add (q_call (fun _ => (ok_unary T)) (m_unary_len) (fun _ => T.g_unary) (fun _ => T.F_unary.kp) (fun _ => T.b_unary) (fun _ => hr.mono (by omega)) (qa_cons (q_shr (qv 1) (qv 3)) qa_nil)) (q_call (fun _ => (ok__law_digits T)) (m__law_digits_len) (fun _ => T.g__law_digits) (fun _ => T.F__law_digits.kp) (fun _ => T.b__law_digits) (fun _ => hr.mono (by omega)) (qa_cons (qv 1) (qa_cons (qv 3) qa_nil)))).qb))).qt (qss_one (qs_ret qbl)) qss_nil) (qss_cons (qs_set 6 (q_call (fun _ => (ok__law_wide T)) (m__law_wide_len) (fun _ => T.g__law_wide) (fun _ => T.F__law_wide.kp) (fun _ => T.b__law_wide) (fun _ => hr.mono (by omega)) (qa_cons (q_sub (qv 2) qint) qa_nil)) (fun _ => sc__law_holds.nd)) (qss_cons (qs_par2 7 8 (q_sub (q_shl qint (qv 6)) (qv 2)) (q_mod (qv 1) (qv 2)) (fun _ => sc__law_holds.nd)) (qss_cons (qs_set 9 (q_add (q_call (fun _ => (ok_unary T)) (m_unary_len) (fun _ => T.g_unary) (fun _ => T.F_unary.kp) (fun _ => T.b_unary) (fun _ => hr.mono (by omega)) (qa_cons (q_div (qv 1) (qv 2)) qa_nil)) (q_ife (qt_compare c_lt (qvb 8) (qvb 7)) (q_ife (qt_compare (c_eq (fun _ => hr)) (qvb 6) (qint).qb) (qstr (l := [])) (q_call (fun _ => (ok__law_digits T)) (m__law_digits_len) (fun _ => T.g__law_digits) (fun _ => T.F__law_digits.kp) (fun _ => T.b__law_digits) (fun _ => hr.mono (by omega)) (qa_cons (qv 8) (qa_cons (q_sub (qv 6) qint) qa_nil)))) (q_call (fun _ => (ok__law_digits T)) (m__law_digits_len) (fun _ => T.g__law_digits) (fun _ => T.F__law_digits.kp) (fun _ => T.b__law_digits) (fun _ => hr.mono (by omega)) (qa_cons (q_add (qv 8) (qv 7)) (qa_cons (qv 6) qa_nil))))) (fun _ => sc__law_holds.nd)) (qss_cons (qs_if (qt_compare (c_ne (fun _ => hr)) (q_call (fun _ => (ok_golomb T)) (m_golomb_len) (fun _ => T.g_golomb) (fun _ => T.F_golomb.kp) (fun _ => T.b_golomb) (fun _ => hr.mono (by omega)) (qa_cons (qv 1) (qa_cons (qv 2) qa_nil))).qb (qvb 9)) (qss_one (qs_ret qbl)) qss_nil) (qss_cons (qs_own 10 (qf_lst (qa_cons qint (qa_cons qint qa_nil))) (fun _ => sc__law_holds.nd)) (qss_cons (qs_while 1000 (qt_compare c_le (q_ix (qvb 10) (q_neg qint).qb).qb (q_add (qv 1) qint).qb) (qss_one (qs_append 10 (q_add (q_ix (qvb 10) (q_neg qint).qb) (q_ix (qvb 10) (q_neg qint).qb))))) (qss_cons (qs_par2 11 12 (q_add (qv 1) qint) (qstr (l := [])) (fun _ => sc__law_holds.nd)) (qss_cons (QS.frz (O1 := []) (qs_for (qi_list ((qf_rev ((qf_lc [("one", 17)] (qi_list (qv 10)) (qg_name 17 (fun _ => sc__law_holds.nd)) (qts_one (qt_compare c_le (qvb 17) (q_add (qv 1) qint).qb)) (qv 17) (fun _ => sc__law_holds.nd) (N := N__law_holds) (sc := defScope (topS 33)) (by decide +kernel))).qe.qb)).qe) (qg_name 13 (fun _ => sc__law_holds.nd)) (qss_one (qs_par2 12 11 (q_add (q_ife (qt_compare c_le (qvb 13) (qvb 11)) (qstr (l := [49])) (qstr (l := [48]))) (qv 12)) (q_sub (qv 11) (q_ife (qt_compare c_le (qvb 13) (qvb 11)) (qv 13) qint)) (fun _ => sc__law_holds.nd))))) (qss_cons (qs_if (qw_or (qt_compare (c_ne (fun _ => hr)) (q_call (fun _ => (ok_by_two T)) (m_by_two_len) (fun _ => T.g_by_two) (fun _ => T.F_by_two.kp) (fun _ => T.b_by_two) (fun _ => hr.mono (by omega)) (qa_cons (qv 1) qa_nil)).qb (q_add (qv 12) (qstr (l := [49]))).qb) (qw_or1 (qt_compare (c_in (fun _ => hr)) (qstr (l := [49, 49])).qb (qvb 12)))).qt (qss_one (qs_ret qbl)) qss_nil) (qss_cons (qs_for (qi_tup (q_tup (qa_cons (q_tup (qa_cons (qstr (l := [117, 110, 97, 114, 121])) qa_nil)) (qa_cons (q_tup (qa_cons (qstr (l := [103, 97, 109, 109, 97])) qa_nil)) (qa_cons (q_tup (qa_cons (qstr (l := [100, 101, 108, 116, 97])) qa_nil)) (qa_cons (q_tup (qa_cons (qstr (l := [114, 105, 99, 101])) (qa_cons (qv 3) qa_nil))) (qa_cons (q_tup (qa_cons (qstr (l := [103, 111, 108, 111, 109, 98])) (qa_cons (qv 2) qa_nil))) (qa_cons (q_tup (qa_cons (qstr (l := [116, 119, 111])) qa_nil)) qa_nil)))))))) (qg_name 14 (fun _ => sc__law_holds.nd)) (qss_cons (qs_set 15 (q_call (fun _ => (ok_write_number T)) (m_write_number_len) (fun _ => T.g_write_number) (fun _ => T.F_write_number.kp) (fun _ => T.b_write_number) (fun _ => hr.mono (by omega)) (qa_cons (qv 14) (qa_cons (qv 1) qa_nil))) (fun _ => sc__law_holds.nd)) (qss_one (qs_if (qw_or (qt_compare (c_ne (fun _ => hr)) (q_call (fun _ => (ok_read_number T)) (m_read_number_len) (fun _ => T.g_read_number) (fun _ => T.F_read_number.kp) (fun _ => T.b_read_number) (fun _ => hr.mono (by omega)) (qa_cons (qv 14) (qa_cons (q_add (qv 15) (qstr (l := [48, 49]))) (qa_cons qint qa_nil)))).qb (q_tup (qa_cons (qv 1) (qa_cons (q_len (qab_cons (qvb 15) qab_nil) (fun _ => T.z_len)) qa_nil))).qb) (qw_or1 (qw_and (qt_compare c_isnot (q_call (fun _ => (ok_read_number T)) (m_read_number_len) (fun _ => T.g_read_number) (fun _ => T.F_read_number.kp) (fun _ => T.b_read_number) (fun _ => hr.mono (by omega)) (qa_cons (qv 14) (qa_cons (q_cut (qvb 15) qo_none (qo_some (q_neg qint))) (qa_cons qint qa_nil)))).qb (qnon).qb) (qw_and1 (qt_compare (c_notin (fun _ => hr)) (q_ix (qvb 14) (qint).qb).qb (q_tup (qa_cons (qstr (l := [114, 105, 99, 101])) (qa_cons (qstr (l := [103, 111, 108, 111, 109, 98])) qa_nil))).qb))).qt)).qt (qss_one (qs_ret qbl)) qss_nil)))) (qss_cons (qs_par2f true false 16 11 (qf_lst qa_nil) (q_mul (qv 1) (qv 2)) (fun _ => sc__law_holds.nd)) (qss_cons (qs_while 1000 (qt_compare c_gt (qvb 11) (qint).qb) (qss_cons (qs_append 16 (q_add (q_mod (qv 11) qint) qint)) (qss_one (qs_set 11 (q_div (qv 11) qint) (fun _ => sc__law_holds.nd))))) (qss_one (QS.frz (O1 := []) (qs_ret (q_and (q_compare (c_eq (fun _ => hr)) (q_call (fun _ => (ok_byte_rows T)) (m_byte_rows_len) (fun _ => T.g_byte_rows) (fun _ => T.F_byte_rows.kp) (fun _ => T.b_byte_rows) (fun _ => hr.mono (by omega)) (qa_cons (q_mul (qv 1) (qv 2)) qa_nil)).qb (q_tuple (qab_cons (q_add (qv 16) ((qf_lst (qa_cons (qv 11) qa_nil))).qe).qb qab_nil) (fun _ => T.z_tuple)).qb) (q_one (q_compare (c_eq (fun _ => hr)) (q_call (fun _ => (ok_read_byte_rows T)) (m_read_byte_rows_len) (fun _ => T.g_read_byte_rows) (fun _ => T.F_read_byte_rows.kp) (fun _ => T.b_read_byte_rows) (fun _ => hr.mono (by omega)) (qa_cons (q_add (q_call (fun _ => (ok_byte_rows T)) (m_byte_rows_len) (fun _ => T.g_byte_rows) (fun _ => T.F_byte_rows.kp) (fun _ => T.b_byte_rows) (fun _ => hr.mono (by omega)) (qa_cons (qv 1) qa_nil)) (q_call (fun _ => (ok_byte_rows T)) (m_byte_rows_len) (fun _ => T.g_byte_rows) (fun _ => T.F_byte_rows.kp) (fun _ => T.b_byte_rows) (fun _ => hr.mono (by omega)) (qa_cons (qv 2) qa_nil))) qa_nil)).qb (q_tup (qa_cons (qv 1) (qa_cons (qv 2) qa_nil))).qb))))))))))))))))))))))))
def spDraws (K : PySem.W.Frag) : Sp := fun vs H Q _ => ∃ (a : Addr) (ns : List Int), vs = [.ref a, .int 200] ∧ SqL K H a (ns.map V.int) ∧ ns.length ≤ 63 ∧ ∀ (H' : Hp) (p : Addr) (L : List Int), Same H H' → H p = none → H' p = some (.lst (L.map V.int)) → Q (.ref p) H'
abbrev N__law_draws : List Str := ["script", "many", "draws", "mixed", "k", "cell", "rest", "turn"]
theorem sc__law_draws : FnScope N__law_draws ["script", "many"] (defScope (topS 29)) := ⟨rfl, rfl, rfl, by decide +kernel, rfl, by decide +kernel, by decide +kernel⟩
theorem ok__law_draws (T : Txt K mg) : FnOk P w K mg base CX0 1 T.f__law_draws T.d__law_draws ["script", "many"] (spDraws K) := by
  refine T.F__law_draws.ok sc__law_draws (fun vs H Q E h => ?_) (fun cdv A outer s H vs Q E hr h => ?_)
  · obtain ⟨a, ns, rfl, _⟩ := h
    rfl
  · obtain ⟨a, ns, rfl, hS, hlen, q⟩ := h
    have nd := sc__law_draws.nd
    refine ⟨_, pss_cons (ps_set (i := 2) nd rfl (.inl rfl) (pe_lst pa_nil))
      (pss_cons (ps_set (i := 3) nd rfl (.inl rfl) pe_int)
      (pss_cons (ps_for PassesOwn.never rfl (pi_range1 (by rfl) T.z_range (pa_cons (pe_callB call_len_seq (by rfl) T.z_len PySem.boot_len (pa_cons (pv 0) pa_nil)) pa_nil)) (pg_name (i := 4) nd rfl (.inl rfl))
        (pss_cons (ps_set (i := 5) nd rfl (.inl rfl) (pe_callB call_abs (by rfl) T.z_abs (by decide +kernel) (pa_cons (pe_callTy call_int1 (by rfl) T.z_int PyProof.Rows.boot_int (pa_cons (pe_ix ix_list (pv 0) (pv 4) (fun _ _ => rfl)) pa_nil)) pa_nil)))
        (pss_cons (ps_set (i := 3) nd rfl (.inl rfl) (pe_op op_mod (pe_callTy call_int1 (by rfl) T.z_int PyProof.Rows.boot_int (pa_cons (pe_op op_add (pe_op op_add (pe_op op_mul (pv 3) pe_int) (pe_op op_mod (pv 5) pe_int)) (pv 4)) pa_nil)) pe_int))
        (pss_cons (ps_set (i := 6) nd rfl (.inl rfl) pe_int)
        (pss_cons (ps_if (pt_cmpR op_ge (pv 5) (pe_op op_pow pe_int pe_int) (nomark _)) (pss_one (ps_set (i := 6) nd rfl (.inl rfl) (pv 5)))
          (pss_cons (ps_expr (pe_bm PySem.F.plainAttrs_list PySem.F.slot_list_append PySem.F.type_list_append mt_append (pv 2) (pa_cons (pe_op op_mod (pe_callTy call_int1 (by rfl) T.z_int PyProof.Rows.boot_int (pa_cons (pv 5) pa_nil)) pe_int) pa_nil)))
          (pss_one (ps_expr (pe_bm PySem.F.plainAttrs_list PySem.F.slot_list_append PySem.F.type_list_append mt_append (pv 2) (pa_cons (pe_op op_mod (pe_op op_mod (pe_callTy call_int1 (by rfl) T.z_int PyProof.Rows.boot_int (pa_cons (pe_op op_add (pe_op op_mul (pv 3) pe_int) pe_int) pa_nil)) pe_int) pe_int) pa_nil))))))
        (pss_one (ps_for PassesOwn.never rfl (pi_range1 (by rfl) T.z_range (pa_cons pe_int pa_nil)) (pg_name (i := 7) nd rfl (.inl rfl))
          (pss_one (ps_if (pt_cmpR op_gt (pv 6) pe_int (nomark _)) (pss_cons (ps_expr (pe_bm PySem.F.plainAttrs_list PySem.F.slot_list_append PySem.F.type_list_append mt_append (pv 2) (pa_cons (pe_op op_mod (pe_callTy call_int1 (by rfl) T.z_int PyProof.Rows.boot_int (pa_cons (pv 6) pa_nil)) pe_int) pa_nil)))
            (pss_one (ps_set (i := 6) nd rfl (.inl rfl) (pe_op op_fdiv (pv 6) pe_int)))) pss_nil)))))))))
      (pss_cons (ps_for PassesOwn.never rfl (pi_range1 (by rfl) T.z_range (pa_cons (pv 1) pa_nil)) (pg_name (i := 4) nd rfl (.inl rfl))
        (pss_cons (ps_set (i := 3) nd rfl (.inl rfl) (pe_op op_mod (pe_callTy call_int1 (by rfl) T.z_int PyProof.Rows.boot_int (pa_cons (pe_op op_add (pe_op op_add (pe_op op_mul (pv 3) pe_int) (pv 4)) pe_int) pa_nil)) pe_int))
        (pss_one (ps_expr (pe_bm PySem.F.plainAttrs_list PySem.F.slot_list_append PySem.F.type_list_append mt_append (pv 2) (pa_cons (pe_op op_mod (pe_callTy call_int1 (by rfl) T.z_int PyProof.Rows.boot_int (pa_cons (pv 3) pa_nil)) pe_int) pa_nil))))))
      (pss_one (ps_ret (pe_slice sl_list (pv 2) po_none (po_some (pv 1)))))))), ?_⟩
    refine ⟨Nat.zero_le _, fun p np => ?_⟩
    have s1 : Same H (upd H p (.lst [])) := same_new np
    have lenI : (ns.map V.int).length = ns.length := List.length_map _
    refine ⟨.ref a, rfl, a, _, rfl, .inl (s1.seq hS), ((ns.map V.int).length : Nat), rfl, by rw [lenI]; omega, by rw [lenI]; omega, ?_⟩
    have hn : ((ns.map V.int).length : Int).toNat = ns.length := by rw [lenI]; omega
    rw [hn]
    -- the state between two turns
    let St1 : Nat → L2.St → Hp → Prop := fun i σ H' => ∃ (L : List Int) (m : Int) (v4 v5 v6 v7 : Option V), σ = [some (.ref a), some (.int 200), some (.ref p), some (.int m), v4, v5, v6, v7] ∧ 0 ≤ m ∧ m < 65537 ∧ (∀ b o, b ≠ p → (upd H p (.lst [])) b = some o → H' b = some o) ∧ H' p = some (.lst (L.map V.int)) ∧ L.length ≤ 100 * i
    have sq : ∀ {H' : Hp}, (∀ b o, b ≠ p → (upd H p (.lst [])) b = some o → H' b = some o) → SqL K H' a (ns.map V.int) := fun {H'} h => by
      have s2 : Same H H' := fun b o hb => h b o (ne_of_none hb np) (s1 b o hb)
      exact s2.seq hS
    refine for_range (lo := 0) (n := ns.length) (fun i σ H' => i ≤ 63 ∧ St1 i σ H') ⟨by omega, [], 7, none, none, none, none, rfl, by decide, by decide, fun b o _ hb => hb, upd_same, by simp⟩ ?_ ?_
    · rintro i σ H1 hi ⟨_, L, m, v4, v5, v6, v7, rfl, m0, m1, hs, hp, hl⟩
      have hx : atI (ns.map V.int) ((0 : Int) + (i : Nat)) = some (.int (ns[i])) := by
        rw [Int.zero_add]
        exact atI_nat (by rw [List.getElem?_map, List.getElem?_eq_getElem hi]; rfl)
      -- cell
      refine ⟨.ref a, rfl, .int ((0 : Int) + (i : Nat)), rfl, a, _, _, .int (ns[i]), rfl, rfl, sq hs, hx, .inl ⟨_, rfl, _, rfl, ?_⟩⟩
      generalize (if ns[i] < 0 then -ns[i] else ns[i]) = cell
      -- mixed
      refine ⟨.int m, rfl, m, 48271, rfl, rfl, .inr ⟨by decide, by decide⟩, .int cell, rfl, cell, 1000003, rfl, rfl, by show (0 : Int) < 1000003; decide, _, _, rfl, rfl, .int ((0 : Int) + (i : Nat)), rfl, _, _, rfl, rfl, .inl ⟨_, rfl, _, 65537, rfl, rfl, by show (0 : Int) < 65537; decide, ?_⟩⟩
      obtain ⟨m', hm', m0', m1'⟩ : ∃ m', (m * 48271 + cell % 1000003 + ((0 : Int) + (i : Nat))) % 65537 = m' ∧ 0 ≤ m' ∧ m' < 65537 := ⟨_, rfl, Int.emod_nonneg _ (by decide), Int.emod_lt_of_pos _ (by decide)⟩
      show tSeq _ _ _ (List.set _ 3 (some (V.int ((m * 48271 + cell % 1000003 + ((0 : Int) + (i : Nat))) % 65537)))) H1
      rw [hm']
      -- rest = 0; if cell >= 10 ** 18
      refine ⟨.int cell, rfl, 10, 18, rfl, rfl, ⟨by decide, by decide, by decide⟩, cell, (10 : Int) ^ (18 : Int).toNat, rfl, rfl, _, rfl, ?_⟩
      -- the inner loop, from any rest
      have inner : ∀ (L1 : List Int) (rest : Int) (H2 : Hp), (∀ b o, b ≠ p → (upd H p (.lst [])) b = some o → H2 b = some o) → H2 p = some (.lst (L1.map V.int)) → L1.length ≤ 100 * i + 2 →
          tFor (iRng1 (tCons (tC (.int 60)) tNil)) (gName 7) (tIfS (tTest (tOp (rI0 fun i j => .bl (decide (j < i))) (tVar 6) (tC (.int 0)))) (tSeq (tDrop (tBM K "list" rAppend (tVar 2) (tCons (tOp (rI (fun _ j => 0 < j) fun i j => .int (i % j)) (tCB (fun xs H Q => (∃ i, xs = [V.int i] ∧ Q (V.int i) H) ∨ ∃ k, xs = [V.bl k] ∧ Q (V.int (if k = true then 1 else 0)) H) (tCons (tVar 6) tNil)) (tC (.int 997))) tNil))) (tAsg (tOp (rI CDiv fun i j => .int (i / j)) (tVar 6) (tC (.int 997))) (gName 6))) tNext) { nx := fun σ' H' => i + 1 ≤ 63 ∧ St1 (i + 1) σ' H', rt := Q, bk := fun _ _ => False, ct := fun _ _ => False } [some (.ref a), some (.int 200), some (.ref p), some (.int m'), some (.int ((0 : Int) + (i : Nat))), some (.int cell), some (.int rest), v7] H2 := by
        intro L1 rest H2 hs2 hp2 hl2
        refine ⟨60, rfl, by decide, by decide, for_range (lo := 0) (n := 60) (fun j σ H' => ∃ (L : List Int) (r : Int) (v7 : Option V), σ = [some (.ref a), some (.int 200), some (.ref p), some (.int m'), some (.int ((0 : Int) + (i : Nat))), some (.int cell), some (.int r), v7] ∧ (∀ b o, b ≠ p → (upd H p (.lst [])) b = some o → H' b = some o) ∧ H' p = some (.lst (L.map V.int)) ∧ L.length ≤ 100 * i + 2 + j) ⟨L1, rest, v7, rfl, hs2, hp2, by omega⟩ ?_ ?_⟩
        · rintro j σ H3 hj ⟨L2, r, v7', rfl, hs3, hp3, hl3⟩
          refine ⟨.int r, rfl, r, 0, rfl, rfl, _, rfl, ite2 (fun e => ?_) (fun e => ?_)⟩
          · refine ⟨.ref p, rfl, .inl ⟨rfl, _, SqL.of hp3⟩, .int r, rfl, .inl ⟨r, rfl, r, 997, rfl, rfl, by show (0 : Int) < 997; decide, p, _, _, rfl, rfl, hp3, ?_, .int r, rfl, r, 997, rfl, rfl, ⟨by decide, by decide⟩, ?_⟩⟩
            · rw [List.length_map, sizeLine_eq]; omega
            · refine ⟨L2 ++ [r % 997], _, _, rfl, fun b o nb hb => ?_, ?_, ?_⟩
              · rw [upd_ne nb]; exact hs3 b o nb hb
              · rw [upd_same, List.map_append]; rfl
              · rw [List.length_append, List.length_singleton]; omega
          · exact ⟨L2, r, _, rfl, hs3, hp3, by omega⟩
        · rintro σ H3 ⟨L2, r, v7', rfl, hs3, hp3, hl3⟩
          exact ⟨by omega, L2, m', _, _, _, _, rfl, m0', m1', hs3, hp3, by omega⟩
      refine ite2 (fun e => ?_) (fun e => ?_)
      · exact ⟨_, rfl, inner L cell H1 hs hp (by omega)⟩
      · refine ⟨.ref p, rfl, .inl ⟨rfl, _, SqL.of hp⟩, .int cell, rfl, .inl ⟨cell, rfl, cell, 997, rfl, rfl, by show (0 : Int) < 997; decide, p, _, _, rfl, rfl, hp, ?_, ?_⟩⟩
        · rw [List.length_map, sizeLine_eq]; omega
        · have hp2 : (upd H1 p (.lst (L.map V.int ++ [.int (cell % 997)]))) p = some (.lst ((L ++ [cell % 997]).map V.int)) := by rw [upd_same, List.map_append]; rfl
          refine ⟨.ref p, rfl, .inl ⟨rfl, _, SqL.of hp2⟩, .int m', rfl, m', 69621, rfl, rfl, .inr ⟨by decide, by decide⟩, _, 5, rfl, rfl, .inl ⟨_, rfl, _, 65521, rfl, rfl, by show (0 : Int) < 65521; decide, _, 997, rfl, rfl, by show (0 : Int) < 997; decide, p, _, _, rfl, rfl, hp2, ?_, ?_⟩⟩
          · rw [List.length_map, List.length_append, List.length_singleton, sizeLine_eq]; omega
          · refine inner (L ++ [cell % 997] ++ [(m' * 69621 + 5) % 65521 % 997]) 0 _ (fun b o nb hb => ?_) ?_ ?_
            · rw [upd_ne nb, upd_ne nb]; exact hs b o nb hb
            · rw [upd_same, List.map_append (f := V.int) (l₁ := L ++ [cell % 997])]; rfl
            · rw [List.length_append, List.length_append, List.length_singleton, List.length_singleton]; omega
    · rintro σ H1 ⟨_, L, m, v4, v5, v6, v7, rfl, m0, m1, hs, hp, hl⟩
      refine ⟨.int 200, rfl, 200, rfl, by decide, by decide, for_range (lo := 0) (n := 200) (fun j σ H' => ∃ (L : List Int) (m : Int) (v4 v5 v6 v7 : Option V), σ = [some (.ref a), some (.int 200), some (.ref p), some (.int m), v4, v5, v6, v7] ∧ 0 ≤ m ∧ m < 65537 ∧ (∀ b o, b ≠ p → (upd H p (.lst [])) b = some o → H' b = some o) ∧ H' p = some (.lst (L.map V.int)) ∧ L.length ≤ 100 * ns.length + j) ⟨L, m, v4, v5, v6, v7, rfl, m0, m1, hs, hp, by omega⟩ ?_ ?_⟩
      · rintro j σ H2 hj ⟨L2, m2, w4, w5, w6, w7, rfl, n0, n1, hs2, hp2, hl2⟩
        refine ⟨.int m2, rfl, m2, 16807, rfl, rfl, .inr ⟨by decide, by decide⟩, .int ((0 : Int) + (j : Nat)), rfl, _, _, rfl, rfl, _, 1, rfl, rfl, .inl ⟨_, rfl, _, 65537, rfl, rfl, by show (0 : Int) < 65537; decide, ?_⟩⟩
        obtain ⟨m', hm', m0', m1'⟩ : ∃ m', (m2 * 16807 + ((0 : Int) + (j : Nat)) + 1) % 65537 = m' ∧ 0 ≤ m' ∧ m' < 65537 := ⟨_, rfl, Int.emod_nonneg _ (by decide), Int.emod_lt_of_pos _ (by decide)⟩
        show gName 3 (V.int ((m2 * 16807 + ((0 : Int) + (j : Nat)) + 1) % 65537)) _ _ _
        rw [hm']
        refine ⟨.ref p, rfl, .inl ⟨rfl, _, SqL.of hp2⟩, .int m', rfl, .inl ⟨m', rfl, m', 997, rfl, rfl, by show (0 : Int) < 997; decide, p, _, _, rfl, rfl, hp2, ?_, ?_⟩⟩
        · rw [List.length_map, sizeLine_eq]; omega
        · refine ⟨L2 ++ [m' % 997], m', _, _, _, _, rfl, m0', m1', fun b o nb hb => ?_, ?_, ?_⟩
          · rw [upd_ne nb]; exact hs2 b o nb hb
          · rw [upd_same, List.map_append]; rfl
          · rw [List.length_append, List.length_singleton]; omega
      · rintro σ H2 ⟨L2, m2, w4, w5, w6, w7, rfl, n0, n1, hs2, hp2, hl2⟩
        refine ⟨.ref p, rfl, .int 200, rfl, 200, rfl, p, _, rfl, SqL.of hp2, fun r nr => ?_⟩
        have npr : p ≠ r := ne_of_none hp2 nr
        have sH : Same H H2 := fun b o hb => hs2 b o (ne_of_none hb np) (s1 b o hb)
        refine q _ r (cut L2 none (some 200)) (fun b o hb => ?_) (sH.free nr) ?_
        · rw [upd_ne (ne_of_none (sH b o hb) nr)]; exact sH b o hb
        · rw [upd_same]
          unfold cutV cut
          rw [List.length_map, List.map_take, List.map_drop]
/-! ### the law -/
def spLaw (K : PySem.W.Frag) : Sp := fun vs H Q _ => ∃ (a : Addr) (ns : List Int), vs = [.ref a] ∧ SqL K H a (ns.map V.int) ∧ ns.length ≤ 63 ∧ ∀ H', Q (.bl true) H'
abbrev N_law : List Str := ["script", "w", "turn"]
theorem sc_law : FnScope N_law ["script"] (defScope (topS 34)) := ⟨rfl, rfl, rfl, by decide +kernel, rfl, by decide +kernel, by decide +kernel⟩
theorem ok_law (T : Txt K mg) {kH : Nat} (h1 : 1 ≤ kH) {φ : Addr → List D → (D → Prop) → Prop} (G : FnOk P w K mg base CX0 kH T.f__law_holds T.d__law_holds ["w"] (spW 1 φ)) (hφ : ∀ pw, φ pw [.obj pw] fun d => d = .bl true) : FnOk P w K mg base CX0 (kH + 1) T.f_law T.d_law ["script"] (spLaw K) := by
  refine T.F_law.ok sc_law (fun vs H Q E h => ?_) (fun cdv A outer s H vs Q E hr h => ?_)
  · obtain ⟨a, ns, rfl, _⟩ := h
    rfl
  · obtain ⟨a, ns, rfl, hS, hlen, k⟩ := h
    have nd := sc_law.nd
    have hr1 : Room 1 _ := hr.mono h1
    refine ⟨_, pss_cons (ps_set (i := 1) nd rfl (.inl rfl) (pe_disp (pps_cons pe_str (pe_call (ok__law_draws T) hr1 (by rfl) T.g__law_draws T.F__law_draws.kp T.b__law_draws .nil pass0 (pa_cons (pv 0) (pa_cons pe_int pa_nil))) (pps_cons pe_str pe_int pps_nil)) (by rfl) (by rfl) (fun z => by cases z) (by decide)))
      (pss_cons (ps_for PassesOwn.never rfl (pi_range1 (by rfl) T.z_range (pa_cons pe_int pa_nil)) (pg_name (i := 2) nd rfl (.inl rfl))
        (pss_one (ps_if (pt_not (pt_val (pe_call G hr (by rfl) T.g__law_holds T.F__law_holds.kp T.b__law_holds .nil pass0 (pa_cons (pv 1) pa_nil)))) (pss_one (ps_ret pe_bl)) pss_nil)))
      (pss_one (ps_ret pe_bl))), ?_⟩
    intro pw npw
    have s0 : Same H (upd H pw (.dK [])) := same_new npw
    refine ⟨.ref a, rfl, a, ns, rfl, s0.seq hS, hlen, fun H1 pl L s1 npl hpl => ?_⟩
    have hpw1 : H1 pw = some (.dK []) := s1 pw _ upd_same
    refine ⟨hpw1, [(kDraws, .ref pl), (kAt, .int 0)], rfl, by show 2 ≤ 15; decide, ?_⟩
    have e : mergeK [] [(kDraws, V.ref pl), (kAt, V.int 0)] = [(kDraws, V.ref pl), (kAt, V.int 0)] := by
      have hkd : ¬ kDraws = kAt := by decide +kernel
      simp [mergeK, putK, hkd]
    rw [e]
    have nlw : pl ≠ pw := ne_of hpl hpw1 (by intro z; cases z)
    have W0 : WI pw pl L (upd H1 pw (.dK [(kDraws, .ref pl), (kAt, .int 0)])) := ⟨0, Int.le_refl 0, upd_same, by rw [upd_ne nlw]; exact hpl⟩
    refine ⟨4, rfl, by decide, by decide, for_range (lo := 0) (n := 4) (fun i σ H' => ∃ v2, σ = [some (.ref a), some (.ref pw), v2] ∧ WI pw pl L H') ⟨none, rfl, W0⟩ ?_ ?_⟩
    · rintro i σ H2 hi ⟨v2, rfl, W⟩
      refine ⟨.ref pw, rfl, pw, pl, L, fun b => b = pw ∨ b = pl, [.obj pw], _, rfl, fun b hb => ?_, .inl rfl, .inr rfl, W, .cons (.obj pw) .nil, hφ pw, fun d v H3 hd e3 W3 r3 => ?_⟩
      · obtain ⟨n, _, h1, h2⟩ := W
        rcases hb with z | z
        · rw [z, h1]; exact fun z => by cases z
        · rw [z, h2]; exact fun z => by cases z
      · subst hd
        refine ⟨true, r3.bl_inv, ?_⟩
        exact iteF ⟨_, rfl, W3⟩
    · rintro σ H2 ⟨v2, rfl, W⟩
      exact k _
end
end G03
namespace G03
open PySem VS
/-! ### small facts -/
theorem fStr_bit (n : Nat) : fStr [.int ((n : Int) % 2)] = some (.str [48 + n % 2]) := by
  have h : (n : Int) % 2 = ((n % 2 : Nat) : Int) := by omega
  rw [h]
  have h2 : n % 2 = 0 ∨ n % 2 = 1 := by omega
  rcases h2 with e | e <;> rw [e] <;> rfl
def digL : Nat → Nat → List Nat
  | _, 0 => []
  | n, w + 1 => digL (n / 2) w ++ [48 + n % 2]
theorem digL_len : ∀ (w n : Nat), (digL n w).length = w
  | 0, _ => rfl
  | w + 1, n => by rw [digL, List.length_append, digL_len w]; rfl
def width (n : Nat) : Nat := if n = 0 then 0 else n.log2 + 1
theorem width_zero : width 0 = 0 := rfl
theorem width_pos {n : Nat} (h : 0 < n) : width n = width (n / 2) + 1 := by
  unfold width
  rw [if_neg (by omega), Nat.log2_def]
  by_cases h2 : 2 ≤ n
  · rw [if_pos h2, if_neg (by omega)]
  · have : n / 2 = 0 := by omega
    rw [if_neg h2, this, if_pos rfl]
theorem width_lt : ∀ (w n : Nat), n < 2 ^ w → width n ≤ w
  | 0, n, h => by
    have : n = 0 := by simpa using h
    rw [this]; exact Nat.le_refl 0
  | w + 1, n, h => by
    by_cases z : n = 0
    · rw [z]; exact Nat.zero_le _
    · rw [width_pos (by omega)]
      have := width_lt w (n / 2) (by rw [Nat.pow_succ] at h; omega)
      omega
theorem lt_width : ∀ (w n : Nat), width n ≤ w → n < 2 ^ w
  | 0, n, h => by
    by_cases z : n = 0
    · rw [z]; decide
    · rw [width_pos (by omega)] at h; omega
  | w + 1, n, h => by
    by_cases z : n = 0
    · rw [z]; exact Nat.pow_pos (by decide)
    · rw [width_pos (by omega)] at h
      have := lt_width w (n / 2) (by omega)
      rw [Nat.pow_succ]; omega
def binL (n : Nat) : List Nat := digL n (width n)
theorem binL_pos {n : Nat} (h : 0 < n) : binL n = binL (n / 2) ++ [48 + n % 2] := by
  unfold binL
  rw [width_pos h, digL]
theorem binL_len (n : Nat) : (binL n).length = width n := digL_len _ _
/-! ### two_to -/
theorem l_two_to (a : D) : ∀ (n : Nat) (lo : Int) (x : Nat) (z : D), ∃ z', forL (bName 2) L_two_to_0 (rngD lo n) [a, .int x, z] = some (.nx [a, .int (x * 2 ^ n : Nat), z'])
  | 0, lo, x, z => ⟨z, by rw [rngD_zero, forL]; simp⟩
  | n + 1, lo, x, z => by
    obtain ⟨z', h⟩ := l_two_to a n (lo + 1) (x * 2) (.int lo)
    refine ⟨z', ?_⟩
    have hc : cMul x 2 = true := cMul_r (by omega) (by omega)
    have s : L_two_to_0 [a, .int x, .int lo] = some (.nx [a, .int (x * 2 : Nat), .int lo]) := by
      simp only [L_two_to_0, sSeq, sSet, sOwn, sRet, sRetN, sIf, sNil, sBk, sCt, sAsg, sPar2, sPar3, sPar2f, sPar3f, sAug, sApp, sExt, sSetI, sFor, gVar, gC, g1, g2, gF, gM, gCons, gNil, gT, gCh, gAnd, gOr, gNot, gIf, tAndG, tOrG, tNotG, gTup, gLst, gOn, gOs, gCut, toB, toI, toL, toT, iL, iT, iS, iR1_eq, iR2_eq, toNat_nat, iZip, bName, bCons, bNil, bTup, dAdd, dAddS, dSub, dMul, dDiv, dMod, dPow, dShl, dShr, dAnd, dXor, dNeg, fI, fI0, dLt, dLe, dGt, dGe, dEq, dNe, dIs, dIsNot, isNon, dep, deps, deq, deqs, dIdx, dCut, fLen, fAbs, fTuple, fList, fStr, fInt, fSum, fAll, fAny, fMax2, fMin2, toInts, toBls, isTy, lstAt, mkR, dRev, atI_0, atI_1, atI_2, cYes, Option.bind_some, Option.bind_none, Option.bind, List.getElem?_cons_zero, List.getElem?_cons_succ, List.set_cons_zero, List.set_cons_succ, List.length_cons, List.length_nil, if_true, if_false, reduceIte, decide_true, decide_false, Nat.zero_le, Nat.reduceLeDiff, Nat.reduceLT, Nat.reduceAdd, beq_self_eq_true, Bool.not_true, Bool.not_false, Bool.true_and, Bool.false_and, Bool.and_true, Bool.and_false, Bool.and_self, Bool.or_self, Bool.true_or, Bool.false_or, Bool.not_eq_true, Bool.false_eq_true, and_self, true_and, and_true, hc]
      rfl
    rw [rngD_succ, forL_step rfl s, show x * 2 ^ (n + 1) = x * 2 * 2 ^ n by rw [Nat.pow_succ, Nat.mul_comm (2 ^ n), ← Nat.mul_assoc]]
    exact h
theorem e_two_to (n : Nat) (h : n ≤ 100000) : m_two_to [.int n] = some (.int (2 ^ n : Nat)) := by
  obtain ⟨z, h1⟩ := l_two_to (.int n) n 0 1 .bot
  rw [Nat.one_mul] at h1
  simp only [u_two_to, F_two_to, sSeq, sSet, sOwn, sRet, sRetN, sIf, sNil, sBk, sCt, sAsg, sPar2, sPar3, sPar2f, sPar3f, sAug, sApp, sExt, sSetI, sFor, gVar, gC, g1, g2, gF, gM, gCons, gNil, gT, gCh, gAnd, gOr, gNot, gIf, tAndG, tOrG, tNotG, gTup, gLst, gOn, gOs, gCut, toB, toI, toL, toT, iL, iT, iS, iR1_eq, iR2_eq, toNat_nat, iZip, bName, bCons, bNil, bTup, dAdd, dAddS, dSub, dMul, dDiv, dMod, dPow, dShl, dShr, dAnd, dXor, dNeg, fI, fI0, dLt, dLe, dGt, dGe, dEq, dNe, dIs, dIsNot, isNon, dep, deps, deq, deqs, dIdx, dCut, fLen, fAbs, fTuple, fList, fStr, fInt, fSum, fAll, fAny, fMax2, fMin2, toInts, toBls, isTy, lstAt, mkR, dRev, atI_0, atI_1, atI_2, cYes, Option.bind_some, Option.bind_none, Option.bind, List.getElem?_cons_zero, List.getElem?_cons_succ, List.set_cons_zero, List.set_cons_succ, List.length_cons, List.length_nil, if_true, if_false, reduceIte, decide_true, decide_false, Nat.zero_le, Nat.reduceLeDiff, Nat.reduceLT, Nat.reduceAdd, beq_self_eq_true, Bool.not_true, Bool.not_false, Bool.true_and, Bool.false_and, Bool.and_true, Bool.and_false, Bool.and_self, Bool.or_self, Bool.true_or, Bool.false_or, Bool.not_eq_true, Bool.false_eq_true, and_self, true_and, and_true, rOk_nat n (by omega), show (1 : Int) = ((1 : Nat) : Int) from rfl, h1]
/-! ### digits_of, binary, number_of_bits -/
theorem l_digits_of (b : D) : ∀ (w : Nat) (lo : Int) (n : Nat) (acc : List Nat) (z : D), acc.length + w ≤ 1000000 → ∃ z' n', forL (bName 3) L_digits_of_0 (rngD lo w) [.int n, b, .str acc, z] = some (.nx [n', b, .str (digL n w ++ acc), z'])
  | 0, lo, n, acc, z, _ => ⟨z, .int n, by rw [rngD_zero, forL]; rfl⟩
  | w + 1, lo, n, acc, z, hl => by
    obtain ⟨z', n', h⟩ := l_digits_of b w (lo + 1) (n / 2) ([48 + n % 2] ++ acc) (.int lo) (by simp; omega)
    refine ⟨z', n', ?_⟩
    have h1 : 1 + acc.length ≤ 16777216 := by omega
    have h2 : (n : Int) / 2 = ((n / 2 : Nat) : Int) := by omega
    have h3 : cDiv n 2 = true := rfl
    have s : L_digits_of_0 [.int n, b, .str acc, .int lo] = some (.nx [.int (n / 2 : Nat), b, .str ([48 + n % 2] ++ acc), .int lo]) := by
      simp only [L_digits_of_0, sSeq, sSet, sOwn, sRet, sRetN, sIf, sNil, sBk, sCt, sAsg, sPar2, sPar3, sPar2f, sPar3f, sAug, sApp, sExt, sSetI, sFor, gVar, gC, g1, g2, gF, gM, gCons, gNil, gT, gCh, gAnd, gOr, gNot, gIf, tAndG, tOrG, tNotG, gTup, gLst, gOn, gOs, gCut, toB, toI, toL, toT, iL, iT, iR1_eq, iR2_eq, toNat_nat, iZip, bName, bCons, bNil, bTup, dAdd, dAddS, dSub, dMul, dDiv, dMod, dPow, dShl, dShr, dAnd, dXor, dNeg, fI, fI0, dLt, dLe, dGt, dGe, dEq, dNe, dIs, dIsNot, isNon, dep, deps, deq, deqs, dIdx, dCut, fLen, fAbs, fTuple, fList, fSum, fAll, fAny, fMax2, fMin2, toInts, toBls, isTy, lstAt, mkR, dRev, atI_0, atI_1, atI_2, cYes, Option.bind_some, Option.bind_none, Option.bind, List.getElem?_cons_zero, List.getElem?_cons_succ, List.set_cons_zero, List.set_cons_succ, List.length_cons, List.length_nil, if_true, if_false, reduceIte, decide_true, decide_false, Nat.zero_le, Nat.reduceLeDiff, Nat.reduceLT, Nat.reduceAdd, beq_self_eq_true, Bool.not_true, Bool.not_false, Bool.true_and, Bool.false_and, Bool.and_true, Bool.and_false, Bool.and_self, Bool.or_self, Bool.true_or, Bool.false_or, Bool.not_eq_true, Bool.false_eq_true, and_self, true_and, and_true, fStr_bit, h1, h2, h3, show decide ((0 : Int) < 2) = true from rfl]
    rw [rngD_succ, forL_step rfl s, digL, List.append_assoc]
    exact h
theorem e_digits_of (n w : Nat) (h : w ≤ 100000) : m_digits_of [.int n, .int w] = some (.str (digL n w)) := by
  obtain ⟨z, n', h1⟩ := l_digits_of (.int w) w 0 n [] .bot (by simp; omega)
  rw [List.append_nil] at h1
  simp only [u_digits_of, F_digits_of, sSeq, sSet, sOwn, sRet, sRetN, sIf, sNil, sBk, sCt, sAsg, sPar2, sPar3, sPar2f, sPar3f, sAug, sApp, sExt, sSetI, sFor, gVar, gC, g1, g2, gF, gM, gCons, gNil, gT, gCh, gAnd, gOr, gNot, gIf, tAndG, tOrG, tNotG, gTup, gLst, gOn, gOs, gCut, toB, toI, toL, toT, iL, iT, iR1_eq, iR2_eq, toNat_nat, iZip, bName, bCons, bNil, bTup, dAdd, dAddS, dSub, dMul, dDiv, dMod, dPow, dShl, dShr, dAnd, dXor, dNeg, fI, fI0, dLt, dLe, dGt, dGe, dEq, dNe, dIs, dIsNot, isNon, dep, deps, deq, deqs, dIdx, dCut, fLen, fAbs, fTuple, fList, fSum, fAll, fAny, fMax2, fMin2, toInts, toBls, isTy, lstAt, mkR, dRev, atI_0, atI_1, atI_2, cYes, Option.bind_some, Option.bind_none, Option.bind, List.getElem?_cons_zero, List.getElem?_cons_succ, List.set_cons_zero, List.set_cons_succ, List.length_cons, List.length_nil, if_true, if_false, reduceIte, decide_true, decide_false, Nat.zero_le, Nat.reduceLeDiff, Nat.reduceLT, Nat.reduceAdd, beq_self_eq_true, Bool.not_true, Bool.not_false, Bool.true_and, Bool.false_and, Bool.and_true, Bool.and_false, Bool.and_self, Bool.or_self, Bool.true_or, Bool.false_or, Bool.not_eq_true, Bool.false_eq_true, and_self, true_and, and_true, rOk_nat w (by omega), h1]
theorem l_binary : ∀ (f n : Nat) (acc : List Nat), width n < f → acc.length + width n ≤ 1000000 → whileF C_binary_0 L_binary_0 f [.int n, .str acc] = some (.nx [.int 0, .str (binL n ++ acc)])
  | 0, n, acc, h, _ => absurd h (Nat.not_lt_zero _)
  | f + 1, n, acc, h, hl => by
    by_cases z : n = 0
    · subst z
      rfl
    · rw [width_pos (by omega)] at h hl
      have ih := l_binary f (n / 2) ([48 + n % 2] ++ acc) (by omega) (by simp; omega)
      have h0 : decide ((0 : Int) < n) = true := decide_eq_true (by omega)
      have h1 : 1 + acc.length ≤ 16777216 := by omega
      have h2 : (n : Int) / 2 = ((n / 2 : Nat) : Int) := by omega
      have h3 : cDiv n 2 = true := rfl
      have c : C_binary_0 [.int n, .str acc] = some true := by simp only [C_binary_0, sSeq, sSet, sOwn, sRet, sRetN, sIf, sNil, sBk, sCt, sAsg, sPar2, sPar3, sPar2f, sPar3f, sAug, sApp, sExt, sSetI, sFor, gVar, gC, g1, g2, gF, gM, gCons, gNil, gT, gCh, gAnd, gOr, gNot, gIf, tAndG, tOrG, tNotG, gTup, gLst, gOn, gOs, gCut, toB, toI, toL, toT, iL, iT, iR1_eq, iR2_eq, toNat_nat, iZip, bName, bCons, bNil, bTup, dAdd, dAddS, dSub, dMul, dDiv, dMod, dPow, dShl, dShr, dAnd, dXor, dNeg, fI, fI0, dLt, dLe, dGt, dGe, dEq, dNe, dIs, dIsNot, isNon, dep, deps, deq, deqs, dIdx, dCut, fLen, fAbs, fTuple, fList, fSum, fAll, fAny, fMax2, fMin2, toInts, toBls, isTy, lstAt, mkR, dRev, atI_0, atI_1, atI_2, cYes, Option.bind_some, Option.bind_none, Option.bind, List.getElem?_cons_zero, List.getElem?_cons_succ, List.set_cons_zero, List.set_cons_succ, List.length_cons, List.length_nil, if_true, if_false, reduceIte, decide_true, decide_false, Nat.zero_le, Nat.reduceLeDiff, Nat.reduceLT, Nat.reduceAdd, beq_self_eq_true, Bool.not_true, Bool.not_false, Bool.true_and, Bool.false_and, Bool.and_true, Bool.and_false, Bool.and_self, Bool.or_self, Bool.true_or, Bool.false_or, Bool.not_eq_true, Bool.false_eq_true, and_self, true_and, and_true, h0]
      have s : L_binary_0 [.int n, .str acc] = some (.nx [.int (n / 2 : Nat), .str ([48 + n % 2] ++ acc)]) := by
        simp only [L_binary_0, sSeq, sSet, sOwn, sRet, sRetN, sIf, sNil, sBk, sCt, sAsg, sPar2, sPar3, sPar2f, sPar3f, sAug, sApp, sExt, sSetI, sFor, gVar, gC, g1, g2, gF, gM, gCons, gNil, gT, gCh, gAnd, gOr, gNot, gIf, tAndG, tOrG, tNotG, gTup, gLst, gOn, gOs, gCut, toB, toI, toL, toT, iL, iT, iR1_eq, iR2_eq, toNat_nat, iZip, bName, bCons, bNil, bTup, dAdd, dAddS, dSub, dMul, dDiv, dMod, dPow, dShl, dShr, dAnd, dXor, dNeg, fI, fI0, dLt, dLe, dGt, dGe, dEq, dNe, dIs, dIsNot, isNon, dep, deps, deq, deqs, dIdx, dCut, fLen, fAbs, fTuple, fList, fSum, fAll, fAny, fMax2, fMin2, toInts, toBls, isTy, lstAt, mkR, dRev, atI_0, atI_1, atI_2, cYes, Option.bind_some, Option.bind_none, Option.bind, List.getElem?_cons_zero, List.getElem?_cons_succ, List.set_cons_zero, List.set_cons_succ, List.length_cons, List.length_nil, if_true, if_false, reduceIte, decide_true, decide_false, Nat.zero_le, Nat.reduceLeDiff, Nat.reduceLT, Nat.reduceAdd, beq_self_eq_true, Bool.not_true, Bool.not_false, Bool.true_and, Bool.false_and, Bool.and_true, Bool.and_false, Bool.and_self, Bool.or_self, Bool.true_or, Bool.false_or, Bool.not_eq_true, Bool.false_eq_true, and_self, true_and, and_true, fStr_bit, h1, h2, h3, show decide ((0 : Int) < 2) = true from rfl]
      rw [whileF_step c s, ih, binL_pos (by omega : 0 < n), List.append_assoc]
theorem e_binary (n : Nat) (h : width n < 1000) : m_binary [.int n] = some (.str (binL n)) := by
  have h1 := l_binary 1000 n [] h (by simp; omega)
  rw [List.append_nil] at h1
  simp only [u_binary, F_binary, sSeq, sSet, sOwn, sRet, sRetN, sIf, sNil, sBk, sCt, sAsg, sPar2, sPar3, sPar2f, sPar3f, sAug, sApp, sExt, sSetI, sFor, gVar, gC, g1, g2, gF, gM, gCons, gNil, gT, gCh, gAnd, gOr, gNot, gIf, tAndG, tOrG, tNotG, gTup, gLst, gOn, gOs, gCut, toB, toI, toL, toT, iL, iT, iR1_eq, iR2_eq, toNat_nat, iZip, bName, bCons, bNil, bTup, dAdd, dAddS, dSub, dMul, dDiv, dMod, dPow, dShl, dShr, dAnd, dXor, dNeg, fI, fI0, dLt, dLe, dGt, dGe, dEq, dNe, dIs, dIsNot, isNon, dep, deps, deq, deqs, dIdx, dCut, fLen, fAbs, fTuple, fList, fSum, fAll, fAny, fMax2, fMin2, toInts, toBls, isTy, lstAt, mkR, dRev, atI_0, atI_1, atI_2, cYes, Option.bind_some, Option.bind_none, Option.bind, List.getElem?_cons_zero, List.getElem?_cons_succ, List.set_cons_zero, List.set_cons_succ, List.length_cons, List.length_nil, if_true, if_false, reduceIte, decide_true, decide_false, Nat.zero_le, Nat.reduceLeDiff, Nat.reduceLT, Nat.reduceAdd, beq_self_eq_true, Bool.not_true, Bool.not_false, Bool.true_and, Bool.false_and, Bool.and_true, Bool.and_false, Bool.and_self, Bool.or_self, Bool.true_or, Bool.false_or, Bool.not_eq_true, Bool.false_eq_true, and_self, true_and, and_true, h1]
def valL (l : List Nat) : Nat := l.foldl (fun a c => 2 * a + (c - 48)) 0
def isBits (l : List Nat) : Prop := ∀ c ∈ l, c = 48 ∨ c = 49
theorem fInt_bit {c : Nat} (h : c = 48 ∨ c = 49) : fInt [.str [c]] = some (.int ((c - 48 : Nat) : Int)) := by
  rcases h with e | e
  · subst e
    have h : PySem.intText? ⟨[48].toArray⟩ = some 0 := by decide +kernel
    show (if ([48] : List Nat).length ≤ 640 then (PySem.intText? ⟨[48].toArray⟩).bind fun n => some (D.int n) else none) = _
    rw [if_pos (by decide), h]
    rfl
  · subst e
    have h : PySem.intText? ⟨[49].toArray⟩ = some 1 := by decide +kernel
    show (if ([49] : List Nat).length ≤ 640 then (PySem.intText? ⟨[49].toArray⟩).bind fun n => some (D.int n) else none) = _
    rw [if_pos (by decide), h]
    rfl
theorem l_number_of_bits (a : D) : ∀ (l : List Nat) (x : Nat) (z : D), isBits l → ∃ z', forL (bName 2) L_number_of_bits_0 (l.map fun c => .str [c]) [a, .int x, z] = some (.nx [a, .int (l.foldl (fun a c => 2 * a + (c - 48)) x : Nat), z'])
  | [], x, z, _ => ⟨z, rfl⟩
  | c :: r, x, z, hb => by
    obtain ⟨z', h⟩ := l_number_of_bits a r (2 * x + (c - 48)) (.str [c]) fun y hy => hb y (List.mem_cons_of_mem _ hy)
    refine ⟨z', ?_⟩
    have hc : cMul 2 x = true := cMul_l (by omega) (by omega)
    have e : (2 : Int) * x + ((c - 48 : Nat) : Int) = ((2 * x + (c - 48) : Nat) : Int) := by omega
    have s : L_number_of_bits_0 [a, .int x, .str [c]] = some (.nx [a, .int (2 * x + (c - 48) : Nat), .str [c]]) := by
      simp only [L_number_of_bits_0, sSeq, sSet, sOwn, sRet, sRetN, sIf, sNil, sBk, sCt, sAsg, sPar2, sPar3, sPar2f, sPar3f, sAug, sApp, sExt, sSetI, sFor, gVar, gC, g1, g2, gF, gM, gCons, gNil, gT, gCh, gAnd, gOr, gNot, gIf, tAndG, tOrG, tNotG, gTup, gLst, gOn, gOs, gCut, toB, toI, toL, toT, iL, iT, iR1_eq, iR2_eq, toNat_nat, iZip, bName, bCons, bNil, bTup, dAdd, dAddS, dSub, dMul, dDiv, dMod, dPow, dShl, dShr, dAnd, dXor, dNeg, fI, fI0, dLt, dLe, dGt, dGe, dEq, dNe, dIs, dIsNot, isNon, dep, deps, deq, deqs, dIdx, dCut, fLen, fAbs, fTuple, fList, fSum, fAll, fAny, fMax2, fMin2, toInts, toBls, isTy, lstAt, mkR, dRev, atI_0, atI_1, atI_2, cYes, Option.bind_some, Option.bind_none, Option.bind, List.getElem?_cons_zero, List.getElem?_cons_succ, List.set_cons_zero, List.set_cons_succ, List.length_cons, List.length_nil, if_true, if_false, reduceIte, decide_true, decide_false, Nat.zero_le, Nat.reduceLeDiff, Nat.reduceLT, Nat.reduceAdd, beq_self_eq_true, Bool.not_true, Bool.not_false, Bool.true_and, Bool.false_and, Bool.and_true, Bool.and_false, Bool.and_self, Bool.or_self, Bool.true_or, Bool.false_or, Bool.not_eq_true, Bool.false_eq_true, and_self, true_and, and_true, hc, fInt_bit (hb c List.mem_cons_self), e]
    rw [List.map_cons, forL_step rfl s, List.foldl_cons]
    exact h
theorem e_number_of_bits (l : List Nat) (hb : isBits l) : m_number_of_bits [.str l] = some (.int (valL l)) := by
  obtain ⟨z, h1⟩ := l_number_of_bits (.str l) l 0 .bot hb
  simp only [u_number_of_bits, F_number_of_bits, sSeq, sSet, sOwn, sRet, sRetN, sIf, sNil, sBk, sCt, sAsg, sPar2, sPar3, sPar2f, sPar3f, sAug, sApp, sExt, sSetI, sFor, gVar, gC, g1, g2, gF, gM, gCons, gNil, gT, gCh, gAnd, gOr, gNot, gIf, tAndG, tOrG, tNotG, gTup, gLst, gOn, gOs, gCut, toB, toI, toL, toT, iL, iT, iR1_eq, iR2_eq, toNat_nat, iZip, bName, bCons, bNil, bTup, dAdd, dAddS, dSub, dMul, dDiv, dMod, dPow, dShl, dShr, dAnd, dXor, dNeg, fI, fI0, dLt, dLe, dGt, dGe, dEq, dNe, dIs, dIsNot, isNon, dep, deps, deq, deqs, dIdx, dCut, fLen, fAbs, fTuple, fList, fSum, fAll, fAny, fMax2, fMin2, toInts, toBls, isTy, lstAt, mkR, dRev, atI_0, atI_1, atI_2, cYes, Option.bind_some, Option.bind_none, Option.bind, List.getElem?_cons_zero, List.getElem?_cons_succ, List.set_cons_zero, List.set_cons_succ, List.length_cons, List.length_nil, if_true, if_false, reduceIte, decide_true, decide_false, Nat.zero_le, Nat.reduceLeDiff, Nat.reduceLT, Nat.reduceAdd, beq_self_eq_true, Bool.not_true, Bool.not_false, Bool.true_and, Bool.false_and, Bool.and_true, Bool.and_false, Bool.and_self, Bool.or_self, Bool.true_or, Bool.false_or, Bool.not_eq_true, Bool.false_eq_true, and_self, true_and, and_true, iS, show (0 : Int) = ((0 : Nat) : Int) from rfl, h1]
  rfl
theorem digL_bits : ∀ (w n : Nat), isBits (digL n w)
  | 0, n => fun c h => by cases h
  | w + 1, n => fun c h => by
    rw [digL] at h
    rcases List.mem_append.mp h with h | h
    · exact digL_bits w _ c h
    · rw [List.mem_singleton] at h
      omega
theorem valL_snoc (l : List Nat) (c : Nat) : valL (l ++ [c]) = 2 * valL l + (c - 48) := by
  unfold valL
  rw [List.foldl_append]
  rfl
theorem valL_digL : ∀ (w n : Nat), n < 2 ^ w → valL (digL n w) = n
  | 0, n, h => by
    have : n = 0 := by simpa using h
    rw [this]; rfl
  | w + 1, n, h => by
    rw [digL, valL_snoc, valL_digL w (n / 2) (by rw [Nat.pow_succ] at h; omega)]
    omega
/-! ### unary, gamma, delta, rice -/
theorem e_unary (n : Nat) (h : n ≤ 100000) : m_unary [.int n] = some (.str (List.replicate n 49 ++ [48])) := by
  have h1 : ((n : Int)).natAbs ≤ 100000 := by omega
  have h3 : (List.replicate n [49]).flatten = List.replicate n 49 := by simp
  have h4 : (List.replicate n 49).length + 1 ≤ 16777216 := by rw [List.length_replicate]; omega
  simp only [u_unary, F_unary, sSeq, sSet, sOwn, sRet, sRetN, sIf, sNil, sBk, sCt, sAsg, sPar2, sPar3, sPar2f, sPar3f, sAug, sApp, sExt, sSetI, sFor, gVar, gC, g1, g2, gF, gM, gCons, gNil, gT, gCh, gAnd, gOr, gNot, gIf, tAndG, tOrG, tNotG, gTup, gLst, gOn, gOs, gCut, toB, toI, toL, toT, iL, iT, iR1_eq, iR2_eq, toNat_nat, iZip, bName, bCons, bNil, bTup, dAdd, dAddS, dSub, dMul, dDiv, dMod, dPow, dShl, dShr, dAnd, dXor, dNeg, fI, fI0, dLt, dLe, dGt, dGe, dEq, dNe, dIs, dIsNot, isNon, dep, deps, deq, deqs, dIdx, dCut, fLen, fAbs, fTuple, fList, fSum, fAll, fAny, fMax2, fMin2, toInts, toBls, isTy, lstAt, mkR, dRev, atI_0, atI_1, atI_2, cYes, Option.bind_some, Option.bind_none, Option.bind, List.getElem?_cons_zero, List.getElem?_cons_succ, List.set_cons_zero, List.set_cons_succ, List.length_cons, List.length_nil, if_true, if_false, reduceIte, decide_true, decide_false, Nat.zero_le, Nat.reduceLeDiff, Nat.reduceLT, Nat.reduceAdd, beq_self_eq_true, Bool.not_true, Bool.not_false, Bool.true_and, Bool.false_and, Bool.and_true, Bool.and_false, Bool.and_self, Bool.or_self, Bool.true_or, Bool.false_or, Bool.not_eq_true, Bool.false_eq_true, and_self, true_and, and_true, h1, h3, h4]
theorem zeros_mul (n : Nat) (h : n ≤ 100000) : dMul (.str [48]) (.int n) = some (.str (List.replicate n 48)) := by
  have h1 : ((n : Int)).natAbs ≤ 100000 := by omega
  have h3 : (List.replicate n [48]).flatten = List.replicate n 48 := by simp
  simp only [sSeq, sSet, sOwn, sRet, sRetN, sIf, sNil, sBk, sCt, sAsg, sPar2, sPar3, sPar2f, sPar3f, sAug, sApp, sExt, sSetI, sFor, gVar, gC, g1, g2, gF, gM, gCons, gNil, gT, gCh, gAnd, gOr, gNot, gIf, tAndG, tOrG, tNotG, gTup, gLst, gOn, gOs, gCut, toB, toI, toL, toT, iL, iT, iR1_eq, iR2_eq, toNat_nat, iZip, bName, bCons, bNil, bTup, dAdd, dAddS, dSub, dMul, dDiv, dMod, dPow, dShl, dShr, dAnd, dXor, dNeg, fI, fI0, dLt, dLe, dGt, dGe, dEq, dNe, dIs, dIsNot, isNon, dep, deps, deq, deqs, dIdx, dCut, fLen, fAbs, fTuple, fList, fSum, fAll, fAny, fMax2, fMin2, toInts, toBls, isTy, lstAt, mkR, dRev, atI_0, atI_1, atI_2, cYes, Option.bind_some, Option.bind_none, Option.bind, List.getElem?_cons_zero, List.getElem?_cons_succ, List.set_cons_zero, List.set_cons_succ, List.length_cons, List.length_nil, if_true, if_false, reduceIte, decide_true, decide_false, Nat.zero_le, Nat.reduceLeDiff, Nat.reduceLT, Nat.reduceAdd, beq_self_eq_true, Bool.not_true, Bool.not_false, Bool.true_and, Bool.false_and, Bool.and_true, Bool.and_false, Bool.and_self, Bool.or_self, Bool.true_or, Bool.false_or, Bool.not_eq_true, Bool.false_eq_true, and_self, true_and, and_true, h1, h3]
theorem app_str (a b : List Nat) (h : a.length + b.length ≤ 16777216) : dAdd (.str a) (.str b) = some (.str (a ++ b)) := if_pos h
def gamL (n : Nat) : List Nat := List.replicate (width (n + 1) - 1) 48 ++ binL (n + 1)
theorem width_small {n : Nat} (h : n < 1000000) : width n ≤ 20 := width_lt 20 n (by omega)
theorem e_gamma (n : Nat) (h : n < 100000) : m_gamma [.int n] = some (.str (gamL n)) := by
  have hw := width_small (n := n + 1) (by omega)
  have h0 : 0 < width (n + 1) := by rw [width_pos (by omega)]; omega
  have e1 : (n : Int) + 1 = ((n + 1 : Nat) : Int) := by omega
  have e2 : ((binL (n + 1)).length : Int) - 1 = ((width (n + 1) - 1 : Nat) : Int) := by rw [binL_len]; omega
  have e3 := app_str (List.replicate (width (n + 1) - 1) 48) (binL (n + 1)) (by rw [List.length_replicate, binL_len]; omega)
  have e4 := zeros_mul (width (n + 1) - 1) (by omega)
  simp only [u_gamma, F_gamma, sSeq, sSet, sOwn, sRet, sRetN, sIf, sNil, sBk, sCt, sAsg, sPar2, sPar3, sPar2f, sPar3f, sAug, sApp, sExt, sSetI, sFor, gVar, gC, g1, g2, gF, gM, gCons, gNil, gT, gCh, gAnd, gOr, gNot, gIf, tAndG, tOrG, tNotG, gTup, gLst, gOn, gOs, gCut, toB, toI, toL, toT, iL, iT, iR1_eq, iR2_eq, toNat_nat, iZip, bName, bCons, bNil, bTup, dAddS, dSub, dPow, dShl, dShr, dAnd, dXor, dNeg, fI0, dLt, dLe, dGt, dGe, dEq, dNe, dIs, dIsNot, isNon, dep, deps, deq, deqs, dIdx, dCut, fLen, fAbs, fTuple, fList, fSum, fAll, fAny, fMax2, fMin2, toInts, toBls, isTy, lstAt, mkR, dRev, atI_0, atI_1, atI_2, cYes, Option.bind_some, Option.bind_none, Option.bind, List.getElem?_cons_zero, List.getElem?_cons_succ, List.set_cons_zero, List.set_cons_succ, List.length_cons, List.length_nil, if_true, if_false, reduceIte, decide_true, decide_false, Nat.zero_le, Nat.reduceLeDiff, Nat.reduceLT, Nat.reduceAdd, beq_self_eq_true, Bool.not_true, Bool.not_false, Bool.true_and, Bool.false_and, Bool.and_true, Bool.and_false, Bool.and_self, Bool.or_self, Bool.true_or, Bool.false_or, Bool.not_eq_true, Bool.false_eq_true, and_self, true_and, and_true, dAdd_int, e1, e_binary (n + 1) (by omega), e2, e4, e3]
  rfl
def delL (n : Nat) : List Nat := gamL (width (n + 1) - 1) ++ (binL (n + 1)).drop 1
theorem gamL_len (n : Nat) : (gamL n).length = 2 * width (n + 1) - 1 := by
  have h0 : 0 < width (n + 1) := by rw [width_pos (by omega)]; omega
  unfold gamL
  rw [List.length_append, List.length_replicate, binL_len]
  omega
theorem e_delta (n : Nat) (h : n < 100000) : m_delta [.int n] = some (.str (delL n)) := by
  have hw := width_small (n := n + 1) (by omega)
  have h0 : 0 < width (n + 1) := by rw [width_pos (by omega)]; omega
  have e1 : (n : Int) + 1 = ((n + 1 : Nat) : Int) := by omega
  have e2 : ((binL (n + 1)).length : Int) - 1 = ((width (n + 1) - 1 : Nat) : Int) := by rw [binL_len]; omega
  have e3 := app_str (gamL (width (n + 1) - 1)) ((binL (n + 1)).drop 1) (by
    have := width_small (n := width (n + 1) - 1 + 1) (by omega)
    rw [gamL_len, List.length_drop, binL_len]; omega)
  have e4 : cut (binL (n + 1)) (some 1) none = (binL (n + 1)).drop 1 := cut_from (binL (n + 1)) 1
  simp only [u_delta, F_delta, sSeq, sSet, sOwn, sRet, sRetN, sIf, sNil, sBk, sCt, sAsg, sPar2, sPar3, sPar2f, sPar3f, sAug, sApp, sExt, sSetI, sFor, gVar, gC, g1, g2, gF, gM, gCons, gNil, gT, gCh, gAnd, gOr, gNot, gIf, tAndG, tOrG, tNotG, gTup, gLst, gOn, gOs, gCut, toB, toI, toL, toT, iL, iT, iR1_eq, iR2_eq, toNat_nat, iZip, bName, bCons, bNil, bTup, dAddS, dSub, dPow, dShl, dShr, dAnd, dXor, dNeg, fI0, dLt, dLe, dGt, dGe, dEq, dNe, dIs, dIsNot, isNon, dep, deps, deq, deqs, dIdx, dCut, fLen, fAbs, fTuple, fList, fSum, fAll, fAny, fMax2, fMin2, toInts, toBls, isTy, lstAt, mkR, dRev, atI_0, atI_1, atI_2, cYes, Option.bind_some, Option.bind_none, Option.bind, List.getElem?_cons_zero, List.getElem?_cons_succ, List.set_cons_zero, List.set_cons_succ, List.length_cons, List.length_nil, if_true, if_false, reduceIte, decide_true, decide_false, Nat.zero_le, Nat.reduceLeDiff, Nat.reduceLT, Nat.reduceAdd, beq_self_eq_true, Bool.not_true, Bool.not_false, Bool.true_and, Bool.false_and, Bool.and_true, Bool.and_false, Bool.and_self, Bool.or_self, Bool.true_or, Bool.false_or, Bool.not_eq_true, Bool.false_eq_true, and_self, true_and, and_true, dAdd_int, e1, e_binary (n + 1) (by omega), e2, e_gamma (width (n + 1) - 1) (by omega), e4, e3]
  rfl
theorem div_nat (n m : Nat) (h : 0 < m) (h' : m ≤ 1000000) : dDiv (.int n) (.int m) = some (.int (n / m : Nat)) := by
  have h1 : cDiv n m = true := by
    unfold cDiv
    rw [decide_eq_true (by omega : (0 : Int) < m), decide_eq_true (p := (m : Int).natAbs < _) (by omega)]
    rfl
  show (if cDiv n m = true then some (D.int ((n : Int) / (m : Int))) else none) = _
  rw [if_pos h1, Int.natCast_ediv]
theorem mod_nat (n m : Nat) (h : 0 < m) : dMod (.int n) (.int m) = some (.int (n % m : Nat)) := by
  show (if decide ((0 : Int) < m) = true then some (D.int ((n : Int) % (m : Int))) else none) = _
  rw [if_pos (decide_eq_true (by omega)), Int.natCast_emod]
theorem pow_small (k : Nat) (h : k ≤ 10) : 2 ^ k ≤ 1024 := Nat.pow_le_pow_right (by decide : 2 > 0) h
theorem e_rice (n k : Nat) (h : n < 100000) (hk : k ≤ 10) : m_rice [.int n, .int k] = some (.str (List.replicate (n / 2 ^ k) 49 ++ [48] ++ digL n k)) := by
  have h2 : 0 < 2 ^ k := Nat.pow_pos (by decide)
  have h3 := pow_small k hk
  have h4 : n / 2 ^ k ≤ n := Nat.div_le_self _ _
  have e3 := app_str (List.replicate (n / 2 ^ k) 49 ++ [48]) (digL n k) (by rw [List.length_append, List.length_replicate, digL_len, List.length_singleton]; omega)
  simp only [u_rice, F_rice, sSeq, sSet, sOwn, sRet, sRetN, sIf, sNil, sBk, sCt, sAsg, sPar2, sPar3, sPar2f, sPar3f, sAug, sApp, sExt, sSetI, sFor, gVar, gC, g1, g2, gF, gM, gCons, gNil, gT, gCh, gAnd, gOr, gNot, gIf, tAndG, tOrG, tNotG, gTup, gLst, gOn, gOs, gCut, toB, toI, toL, toT, iL, iT, iR1_eq, iR2_eq, toNat_nat, iZip, bName, bCons, bNil, bTup, dAddS, dSub, dPow, dShl, dShr, dAnd, dXor, dNeg, fI0, dLt, dLe, dGt, dGe, dEq, dNe, dIs, dIsNot, isNon, dep, deps, deq, deqs, dIdx, dCut, fLen, fAbs, fTuple, fList, fSum, fAll, fAny, fMax2, fMin2, toInts, toBls, isTy, lstAt, mkR, dRev, atI_0, atI_1, atI_2, cYes, Option.bind_some, Option.bind_none, Option.bind, List.getElem?_cons_zero, List.getElem?_cons_succ, List.set_cons_zero, List.set_cons_succ, List.length_cons, List.length_nil, if_true, if_false, reduceIte, decide_true, decide_false, Nat.zero_le, Nat.reduceLeDiff, Nat.reduceLT, Nat.reduceAdd, beq_self_eq_true, Bool.not_true, Bool.not_false, Bool.true_and, Bool.false_and, Bool.and_true, Bool.and_false, Bool.and_self, Bool.or_self, Bool.true_or, Bool.false_or, Bool.not_eq_true, Bool.false_eq_true, and_self, true_and, and_true, dAdd_int, e_two_to k (by omega), div_nat n (2 ^ k) h2 (by omega), e_unary (n / 2 ^ k) (by omega), e_digits_of n k (by omega), e3]
/-! ### the law's own digits and width -/
theorem digL_at : ∀ (w n i : Nat), i < w → (digL n w)[i]? = some (48 + n / 2 ^ (w - 1 - i) % 2)
  | 0, n, i, h => absurd h (Nat.not_lt_zero _)
  | w + 1, n, i, h => by
    rw [digL]
    by_cases z : i < w
    · rw [List.getElem?_append_left (by rw [digL_len]; exact z), digL_at w (n / 2) i z, Nat.div_div_eq_div_mul, ← Nat.pow_succ']
      rw [show w + 1 - 1 - i = (w - 1 - i).succ by omega]
    · have : i = w := by omega
      subst this
      rw [List.getElem?_append_right (by rw [digL_len]; exact Nat.le_refl _), digL_len]
      simp
theorem e__law_digits (n w : Nat) (h : w ≤ 1000) : m__law_digits [.int n, .int w] = some (.str (digL n w)) := by
  have hc : compL (bName 2) cYes E__law_digits_0 [.int n, .int w, .bot] (rngD 0 w) = some ((rngD 0 w).map fun d => match d with | .int i => .str [48 + n / 2 ^ (w - 1 - i.toNat) % 2] | d => d) := by
    refine compL_map _ fun d hd => ?_
    obtain ⟨i, hi, rfl⟩ := mem_rngD hd
    refine ⟨_, rfl, rfl, ?_⟩
    have e0 : (0 : Int) + (i : Int) = ((i : Nat) : Int) := by omega
    have e1 : (w : Int) - 1 - (i : Int) = ((w - 1 - i : Nat) : Int) := by omega
    have e2 : decide ((0 : Int) ≤ ((w - 1 - i : Nat) : Int)) = true := decide_eq_true (by omega)
    have e3 : (n : Int) / 2 ^ (w - 1 - i) = ((n / 2 ^ (w - 1 - i) : Nat) : Int) := by
      rw [Int.natCast_ediv, Int.natCast_pow]; rfl
    have e4 : ((n / 2 ^ (w - 1 - i) % 2 : Nat) : Int) = ((n / 2 ^ (w - 1 - i) : Nat) : Int) % 2 := by omega
    simp only [E__law_digits_0, sSeq, sSet, sOwn, sRet, sRetN, sIf, sNil, sBk, sCt, sAsg, sPar2, sPar3, sPar2f, sPar3f, sAug, sApp, sExt, sSetI, sFor, gVar, gC, g1, g2, gF, gM, gCons, gNil, gT, gCh, gAnd, gOr, gNot, gIf, tAndG, tOrG, tNotG, gTup, gLst, gOn, gOs, gCut, toB, toI, toL, toT, iL, iT, iR1_eq, iR2_eq, toNat_nat, iZip, bName, bCons, bNil, bTup, dAdd, dAddS, dSub, dMul, dDiv, dMod, dPow, dShl, dShr, dAnd, dXor, dNeg, fI, fI0, dLt, dLe, dGt, dGe, dEq, dNe, dIs, dIsNot, isNon, dep, deps, deq, deqs, dIdx, dCut, fLen, fAbs, fTuple, fList, fSum, fAll, fAny, fMax2, fMin2, toInts, toBls, isTy, lstAt, mkR, dRev, atI_0, atI_1, atI_2, cYes, Option.bind_some, Option.bind_none, Option.bind, List.getElem?_cons_zero, List.getElem?_cons_succ, List.set_cons_zero, List.set_cons_succ, List.length_cons, List.length_nil, if_true, if_false, reduceIte, decide_true, decide_false, Nat.zero_le, Nat.reduceLeDiff, Nat.reduceLT, Nat.reduceAdd, beq_self_eq_true, Bool.not_true, Bool.not_false, Bool.true_and, Bool.false_and, Bool.and_true, Bool.and_false, Bool.and_self, Bool.or_self, Bool.true_or, Bool.false_or, Bool.not_eq_true, Bool.false_eq_true, and_self, true_and, and_true, e0, e1, e2, e3, bitAnd_one]
    rw [e4, fStr_bit]
  have hm : (rngD 0 w).map (fun d => match d with | .int i => D.str [48 + n / 2 ^ (w - 1 - i.toNat) % 2] | d => d) = ((digL n w).map fun c => [c]).map D.str := by
    refine List.ext_getElem? fun i => ?_
    rw [List.map_map, List.getElem?_map, List.getElem?_map]
    by_cases z : i < w
    · rw [digL_at w n i z]
      unfold rngD
      rw [List.getElem?_map, List.getElem?_range z]
      show some (D.str [48 + n / 2 ^ (w - 1 - ((0 : Int) + (i : Int)).toNat) % 2]) = _
      rw [show ((0 : Int) + (i : Int)).toNat = i by omega]
      rfl
    · rw [List.getElem?_eq_none (by rw [rngD_len]; omega), List.getElem?_eq_none (by rw [digL_len]; omega)]
      rfl
  rw [hm] at hc
  have hf : ((digL n w).map fun c => [c]).flatten = digL n w := by
    generalize digL n w = l
    induction l with
    | nil => rfl
    | cons c r ih => rw [List.map_cons, List.flatten_cons, ih]; rfl
  have hz : ((((digL n w).map fun c => [c]).map List.length).sum + ((digL n w).map fun c => [c]).length * ([] : List Nat).length ≤ 16777216) := by
    have : (((digL n w).map fun c => [c]).map List.length).sum = w := by
      have g : ∀ l : List Nat, ((l.map fun c => [c]).map List.length).sum = l.length := fun l => by
        induction l with
        | nil => rfl
        | cons c r ih => rw [List.map_cons, List.map_cons, List.sum_cons, ih, List.length_cons]; exact Nat.add_comm _ _
      rw [g, digL_len]
    rw [this]
    simp only [List.length_nil, Nat.mul_zero]
    omega
  have hl : (rngD 0 w).length ≤ 1000000 := by rw [rngD_len]; omega
  have hj : dJoin (.str []) (.lst (((digL n w).map fun c => [c]).map D.str)) = some (.str (digL n w)) := by
    unfold dJoin
    simp only [toStrs_map]
    rw [if_pos hz, joinL_nil, hf]
  simp only [u__law_digits, F__law_digits, sSeq, sSet, sOwn, sRet, sRetN, sIf, sNil, sBk, sCt, sAsg, sPar2, sPar3, sPar2f, sPar3f, sAug, sApp, sExt, sSetI, sFor, gVar, gC, g1, g2, gF, gM, gCons, gNil, gT, gCh, gAnd, gOr, gNot, gIf, tAndG, tOrG, tNotG, gTup, gLst, gOn, gOs, gCut, toB, toI, toL, toT, iL, iT, iR1_eq, iR2_eq, toNat_nat, iZip, bName, bCons, bNil, bTup, dAddS, dSub, dPow, dShl, dShr, dAnd, dXor, dNeg, fI0, dLt, dLe, dGt, dGe, dEq, dNe, dIs, dIsNot, isNon, dep, deps, deq, deqs, dIdx, dCut, fLen, fAbs, fTuple, fList, fSum, fAll, fAny, fMax2, fMin2, toInts, toBls, isTy, lstAt, mkR, dRev, atI_0, atI_1, atI_2, cYes, Option.bind_some, Option.bind_none, Option.bind, List.getElem?_cons_zero, List.getElem?_cons_succ, List.set_cons_zero, List.set_cons_succ, List.length_cons, List.length_nil, if_true, if_false, reduceIte, decide_true, decide_false, Nat.zero_le, Nat.reduceLeDiff, Nat.reduceLT, Nat.reduceAdd, beq_self_eq_true, Bool.not_true, Bool.not_false, Bool.true_and, Bool.false_and, Bool.and_true, Bool.and_false, Bool.and_self, Bool.or_self, Bool.true_or, Bool.false_or, Bool.not_eq_true, Bool.false_eq_true, and_self, true_and, and_true, dAdd_int, gLc, rOk_nat w (by omega), hl, wipeE, hc, hj]
theorem l__law_wide (n : Nat) : ∀ (f j : Nat), width (n / 2 ^ j) < f → whileF C__law_wide_0 L__law_wide_0 f [.int n, .int j] = some (.nx [.int n, .int (j + width (n / 2 ^ j) : Nat)])
  | 0, j, h => absurd h (Nat.not_lt_zero _)
  | f + 1, j, h => by
    have e2 : decide ((0 : Int) ≤ (j : Int)) = true := decide_eq_true (by omega)
    have e3 : (n : Int) / 2 ^ j = ((n / 2 ^ j : Nat) : Int) := by
      rw [Int.natCast_ediv, Int.natCast_pow]; rfl
    by_cases z : n / 2 ^ j = 0
    · have c : C__law_wide_0 [.int n, .int j] = some false := by
        simp only [C__law_wide_0, sSeq, sSet, sOwn, sRet, sRetN, sIf, sNil, sBk, sCt, sAsg, sPar2, sPar3, sPar2f, sPar3f, sAug, sApp, sExt, sSetI, sFor, gVar, gC, g1, g2, gF, gM, gCons, gNil, gT, gCh, gAnd, gOr, gNot, gIf, tAndG, tOrG, tNotG, gTup, gLst, gOn, gOs, gCut, toB, toI, toL, toT, iL, iT, iR1_eq, iR2_eq, toNat_nat, iZip, bName, bCons, bNil, bTup, dAdd, dAddS, dSub, dMul, dDiv, dMod, dPow, dShl, dShr, dAnd, dXor, dNeg, fI, fI0, dLt, dLe, dGt, dGe, dEq, dNe, dIs, dIsNot, isNon, dep, deps, deq, deqs, dIdx, dCut, fLen, fAbs, fTuple, fList, fSum, fAll, fAny, fMax2, fMin2, toInts, toBls, isTy, lstAt, mkR, dRev, atI_0, atI_1, atI_2, cYes, Option.bind_some, Option.bind_none, Option.bind, List.getElem?_cons_zero, List.getElem?_cons_succ, List.set_cons_zero, List.set_cons_succ, List.length_cons, List.length_nil, if_true, if_false, reduceIte, decide_true, decide_false, Nat.zero_le, Nat.reduceLeDiff, Nat.reduceLT, Nat.reduceAdd, beq_self_eq_true, Bool.not_true, Bool.not_false, Bool.true_and, Bool.false_and, Bool.and_true, Bool.and_false, Bool.and_self, Bool.or_self, Bool.true_or, Bool.false_or, Bool.not_eq_true, Bool.false_eq_true, and_self, true_and, and_true, e2, e3, z]
        rfl
      rw [whileF_end c, z]
      rfl
    · have h0 : decide ((0 : Int) < ((n / 2 ^ j : Nat) : Int)) = true := decide_eq_true (Int.natCast_pos.mpr (Nat.pos_of_ne_zero z))
      have c : C__law_wide_0 [.int n, .int j] = some true := by simp only [C__law_wide_0, sSeq, sSet, sOwn, sRet, sRetN, sIf, sNil, sBk, sCt, sAsg, sPar2, sPar3, sPar2f, sPar3f, sAug, sApp, sExt, sSetI, sFor, gVar, gC, g1, g2, gF, gM, gCons, gNil, gT, gCh, gAnd, gOr, gNot, gIf, tAndG, tOrG, tNotG, gTup, gLst, gOn, gOs, gCut, toB, toI, toL, toT, iL, iT, iR1_eq, iR2_eq, toNat_nat, iZip, bName, bCons, bNil, bTup, dAdd, dAddS, dSub, dMul, dDiv, dMod, dPow, dShl, dShr, dAnd, dXor, dNeg, fI, fI0, dLt, dLe, dGt, dGe, dEq, dNe, dIs, dIsNot, isNon, dep, deps, deq, deqs, dIdx, dCut, fLen, fAbs, fTuple, fList, fSum, fAll, fAny, fMax2, fMin2, toInts, toBls, isTy, lstAt, mkR, dRev, atI_0, atI_1, atI_2, cYes, Option.bind_some, Option.bind_none, Option.bind, List.getElem?_cons_zero, List.getElem?_cons_succ, List.set_cons_zero, List.set_cons_succ, List.length_cons, List.length_nil, if_true, if_false, reduceIte, decide_true, decide_false, Nat.zero_le, Nat.reduceLeDiff, Nat.reduceLT, Nat.reduceAdd, beq_self_eq_true, Bool.not_true, Bool.not_false, Bool.true_and, Bool.false_and, Bool.and_true, Bool.and_false, Bool.and_self, Bool.or_self, Bool.true_or, Bool.false_or, Bool.not_eq_true, Bool.false_eq_true, and_self, true_and, and_true, e2, e3, h0]
      have s : L__law_wide_0 [.int n, .int j] = some (.nx [.int n, .int (j + 1 : Nat)]) := by
        simp only [L__law_wide_0, sSeq, sSet, sOwn, sRet, sRetN, sIf, sNil, sBk, sCt, sAsg, sPar2, sPar3, sPar2f, sPar3f, sAug, sApp, sExt, sSetI, sFor, gVar, gC, g1, g2, gF, gM, gCons, gNil, gT, gCh, gAnd, gOr, gNot, gIf, tAndG, tOrG, tNotG, gTup, gLst, gOn, gOs, gCut, toB, toI, toL, toT, iL, iT, iR1_eq, iR2_eq, toNat_nat, iZip, bName, bCons, bNil, bTup, dAdd, dAddS, dSub, dMul, dDiv, dMod, dPow, dShl, dShr, dAnd, dXor, dNeg, fI, fI0, dLt, dLe, dGt, dGe, dEq, dNe, dIs, dIsNot, isNon, dep, deps, deq, deqs, dIdx, dCut, fLen, fAbs, fTuple, fList, fSum, fAll, fAny, fMax2, fMin2, toInts, toBls, isTy, lstAt, mkR, dRev, atI_0, atI_1, atI_2, cYes, Option.bind_some, Option.bind_none, Option.bind, List.getElem?_cons_zero, List.getElem?_cons_succ, List.set_cons_zero, List.set_cons_succ, List.length_cons, List.length_nil, if_true, if_false, reduceIte, decide_true, decide_false, Nat.zero_le, Nat.reduceLeDiff, Nat.reduceLT, Nat.reduceAdd, beq_self_eq_true, Bool.not_true, Bool.not_false, Bool.true_and, Bool.false_and, Bool.and_true, Bool.and_false, Bool.and_self, Bool.or_self, Bool.true_or, Bool.false_or, Bool.not_eq_true, Bool.false_eq_true, and_self, true_and, and_true]
        rfl
      have e : n / 2 ^ j / 2 = n / 2 ^ (j + 1) := by rw [Nat.div_div_eq_div_mul, ← Nat.pow_succ]
      rw [width_pos (Nat.pos_of_ne_zero z), e] at h
      rw [whileF_step c s, l__law_wide n f (j + 1) (by omega), width_pos (Nat.pos_of_ne_zero z), e]
      congr 5
      omega
theorem e__law_wide (n : Nat) (h : n < 1000000) : m__law_wide [.int n] = some (.int (width n)) := by
  have hw := width_small h
  have h1 := l__law_wide n 1000 0 (by rw [Nat.pow_zero, Nat.div_one]; omega)
  rw [Nat.pow_zero, Nat.div_one, Nat.zero_add] at h1
  simp only [u__law_wide, F__law_wide, sSeq, sSet, sOwn, sRet, sRetN, sIf, sNil, sBk, sCt, sAsg, sPar2, sPar3, sPar2f, sPar3f, sAug, sApp, sExt, sSetI, sFor, gVar, gC, g1, g2, gF, gM, gCons, gNil, gT, gCh, gAnd, gOr, gNot, gIf, tAndG, tOrG, tNotG, gTup, gLst, gOn, gOs, gCut, toB, toI, toL, toT, iL, iT, iR1_eq, iR2_eq, toNat_nat, iZip, bName, bCons, bNil, bTup, dAdd, dAddS, dSub, dMul, dDiv, dMod, dPow, dShl, dShr, dAnd, dXor, dNeg, fI, fI0, dLt, dLe, dGt, dGe, dEq, dNe, dIs, dIsNot, isNon, dep, deps, deq, deqs, dIdx, dCut, fLen, fAbs, fTuple, fList, fSum, fAll, fAny, fMax2, fMin2, toInts, toBls, isTy, lstAt, mkR, dRev, atI_0, atI_1, atI_2, cYes, Option.bind_some, Option.bind_none, Option.bind, List.getElem?_cons_zero, List.getElem?_cons_succ, List.set_cons_zero, List.set_cons_succ, List.length_cons, List.length_nil, if_true, if_false, reduceIte, decide_true, decide_false, Nat.zero_le, Nat.reduceLeDiff, Nat.reduceLT, Nat.reduceAdd, beq_self_eq_true, Bool.not_true, Bool.not_false, Bool.true_and, Bool.false_and, Bool.and_true, Bool.and_false, Bool.and_self, Bool.or_self, Bool.true_or, Bool.false_or, Bool.not_eq_true, Bool.false_eq_true, and_self, true_and, and_true, show (0 : Int) = ((0 : Nat) : Int) from rfl, h1]
/-! ### readers -/
theorem cut_one (l : List Nat) (j : Nat) : cut l (some (j : Int)) (some ((j : Int) + 1)) = (l.drop j).take 1 := by
  have e : (j : Int) + 1 = ((j + 1 : Nat) : Int) := by omega
  rw [e, cut_nat, show j + 1 - j = 1 by omega]
theorem drop_rep {q j c : Nat} {rest : List Nat} (h : j ≤ q) : (List.replicate q c ++ rest).drop j = List.replicate (q - j) c ++ rest := by
  rw [List.drop_append_of_le_length (by rw [List.length_replicate]; exact h), List.drop_replicate]
theorem l_read_unary (q : Nat) (rest : List Nat) (hr : rest.head? ≠ some 49) : ∀ (m f j : Nat), j + m = q → m < f → whileF C_read_unary_0 L_read_unary_0 f [.str (List.replicate q 49 ++ rest), .int 0, .int j] = some (.nx [.str (List.replicate q 49 ++ rest), .int 0, .int q])
  | m, 0, j, _, hf => absurd hf (Nat.not_lt_zero _)
  | 0, f + 1, j, e, hf => by
    have ej : j = q := e
    subst ej
    have ed : (List.replicate j 49 ++ rest).drop j = rest := by rw [drop_rep (Nat.le_refl j), Nat.sub_self]; rfl
    have eb : (rest.take 1 == [49]) = false := by
      cases rest with
      | nil => rfl
      | cons c r =>
        have : c ≠ 49 := fun z => hr (by rw [z]; rfl)
        show ([c] == [49]) = false
        simp [this]
    have c : C_read_unary_0 [.str (List.replicate j 49 ++ rest), .int 0, .int j] = some false := by
      simp only [C_read_unary_0, sSeq, sSet, sOwn, sRet, sRetN, sIf, sNil, sBk, sCt, sAsg, sPar2, sPar3, sPar2f, sPar3f, sAug, sApp, sExt, sSetI, sFor, gVar, gC, g1, g2, gF, gM, gCons, gNil, gT, gCh, gAnd, gOr, gNot, gIf, tAndG, tOrG, tNotG, gTup, gLst, gOn, gOs, gCut, toB, toI, toL, toT, iL, iT, iR1_eq, iR2_eq, toNat_nat, iZip, bName, bCons, bNil, bTup, dAdd, dAddS, dSub, dMul, dDiv, dMod, dPow, dShl, dShr, dAnd, dXor, dNeg, fI, fI0, dLt, dLe, dGt, dGe, dEq, dNe, dIs, dIsNot, isNon, dep, deps, deq, deqs, dIdx, dCut, fLen, fAbs, fTuple, fList, fSum, fAll, fAny, fMax2, fMin2, toInts, toBls, isTy, lstAt, mkR, dRev, atI_0, atI_1, atI_2, cYes, Option.bind_some, Option.bind_none, Option.bind, List.getElem?_cons_zero, List.getElem?_cons_succ, List.set_cons_zero, List.set_cons_succ, List.length_cons, List.length_nil, if_true, if_false, reduceIte, decide_true, decide_false, Nat.zero_le, Nat.reduceLeDiff, Nat.reduceLT, Nat.reduceAdd, beq_self_eq_true, Bool.not_true, Bool.not_false, Bool.true_and, Bool.false_and, Bool.and_true, Bool.and_false, Bool.and_self, Bool.or_self, Bool.true_or, Bool.false_or, Bool.not_eq_true, Bool.false_eq_true, and_self, true_and, and_true, cut_one, ed, eb]
    exact whileF_end c
  | m + 1, f + 1, j, e, hf => by
    have ed : ((List.replicate q 49 ++ rest).drop j).take 1 = [49] := by
      rw [drop_rep (by omega), show q - j = m + 1 by omega]
      rfl
    have c : C_read_unary_0 [.str (List.replicate q 49 ++ rest), .int 0, .int j] = some true := by
      simp only [C_read_unary_0, sSeq, sSet, sOwn, sRet, sRetN, sIf, sNil, sBk, sCt, sAsg, sPar2, sPar3, sPar2f, sPar3f, sAug, sApp, sExt, sSetI, sFor, gVar, gC, g1, g2, gF, gM, gCons, gNil, gT, gCh, gAnd, gOr, gNot, gIf, tAndG, tOrG, tNotG, gTup, gLst, gOn, gOs, gCut, toB, toI, toL, toT, iL, iT, iR1_eq, iR2_eq, toNat_nat, iZip, bName, bCons, bNil, bTup, dAdd, dAddS, dSub, dMul, dDiv, dMod, dPow, dShl, dShr, dAnd, dXor, dNeg, fI, fI0, dLt, dLe, dGt, dGe, dEq, dNe, dIs, dIsNot, isNon, dep, deps, deq, deqs, dIdx, dCut, fLen, fAbs, fTuple, fList, fSum, fAll, fAny, fMax2, fMin2, toInts, toBls, isTy, lstAt, mkR, dRev, atI_0, atI_1, atI_2, cYes, Option.bind_some, Option.bind_none, Option.bind, List.getElem?_cons_zero, List.getElem?_cons_succ, List.set_cons_zero, List.set_cons_succ, List.length_cons, List.length_nil, if_true, if_false, reduceIte, decide_true, decide_false, Nat.zero_le, Nat.reduceLeDiff, Nat.reduceLT, Nat.reduceAdd, beq_self_eq_true, Bool.not_true, Bool.not_false, Bool.true_and, Bool.false_and, Bool.and_true, Bool.and_false, Bool.and_self, Bool.or_self, Bool.true_or, Bool.false_or, Bool.not_eq_true, Bool.false_eq_true, and_self, true_and, and_true, cut_one, ed]
    have s : L_read_unary_0 [.str (List.replicate q 49 ++ rest), .int 0, .int j] = some (.nx [.str (List.replicate q 49 ++ rest), .int 0, .int (j + 1 : Nat)]) := by
      simp only [L_read_unary_0, sSeq, sSet, sOwn, sRet, sRetN, sIf, sNil, sBk, sCt, sAsg, sPar2, sPar3, sPar2f, sPar3f, sAug, sApp, sExt, sSetI, sFor, gVar, gC, g1, g2, gF, gM, gCons, gNil, gT, gCh, gAnd, gOr, gNot, gIf, tAndG, tOrG, tNotG, gTup, gLst, gOn, gOs, gCut, toB, toI, toL, toT, iL, iT, iR1_eq, iR2_eq, toNat_nat, iZip, bName, bCons, bNil, bTup, dAdd, dAddS, dSub, dMul, dDiv, dMod, dPow, dShl, dShr, dAnd, dXor, dNeg, fI, fI0, dLt, dLe, dGt, dGe, dEq, dNe, dIs, dIsNot, isNon, dep, deps, deq, deqs, dIdx, dCut, fLen, fAbs, fTuple, fList, fSum, fAll, fAny, fMax2, fMin2, toInts, toBls, isTy, lstAt, mkR, dRev, atI_0, atI_1, atI_2, cYes, Option.bind_some, Option.bind_none, Option.bind, List.getElem?_cons_zero, List.getElem?_cons_succ, List.set_cons_zero, List.set_cons_succ, List.length_cons, List.length_nil, if_true, if_false, reduceIte, decide_true, decide_false, Nat.zero_le, Nat.reduceLeDiff, Nat.reduceLT, Nat.reduceAdd, beq_self_eq_true, Bool.not_true, Bool.not_false, Bool.true_and, Bool.false_and, Bool.and_true, Bool.and_false, Bool.and_self, Bool.or_self, Bool.true_or, Bool.false_or, Bool.not_eq_true, Bool.false_eq_true, and_self, true_and, and_true]
      rfl
    rw [whileF_step c s]
    exact l_read_unary q rest hr m f (j + 1) (by omega) (by omega)
theorem e_read_unary (q : Nat) (rest : List Nat) (hr : rest.head? ≠ some 49) (hq : q < 1000) : m_read_unary [.str (List.replicate q 49 ++ rest), .int 0] = some (if rest = [] then .non else .tup [.int q, .int (q + 1 : Nat)]) := by
  have h1 := l_read_unary q rest hr q 1000 0 (by omega) hq
  have hl : (List.replicate q 49 ++ rest).length = q + rest.length := by rw [List.length_append, List.length_replicate]
  rw [show ((0 : Nat) : Int) = 0 from rfl] at h1
  by_cases z : rest = []
  · subst z
    have hd : decide ((q : Int) < ((q + 0 : Nat) : Int)) = false := decide_eq_false (by omega)
    rw [if_pos rfl]
    simp only [u_read_unary, F_read_unary, sSeq, sSet, sOwn, sRet, sRetN, sIf, sNil, sBk, sCt, sAsg, sPar2, sPar3, sPar2f, sPar3f, sAug, sApp, sExt, sSetI, sFor, gVar, gC, g1, g2, gF, gM, gCons, gNil, gT, gCh, gAnd, gOr, gNot, gIf, tAndG, tOrG, tNotG, gTup, gLst, gOn, gOs, gCut, toB, toI, toL, toT, iL, iT, iR1_eq, iR2_eq, toNat_nat, iZip, bName, bCons, bNil, bTup, dAdd, dAddS, dSub, dMul, dDiv, dMod, dPow, dShl, dShr, dAnd, dXor, dNeg, fI, fI0, dLt, dLe, dGt, dGe, dEq, dNe, dIs, dIsNot, isNon, dep, deps, deq, deqs, dIdx, dCut, fLen, fAbs, fTuple, fList, fSum, fAll, fAny, fMax2, fMin2, toInts, toBls, isTy, lstAt, mkR, dRev, atI_0, atI_1, atI_2, cYes, Option.bind_some, Option.bind_none, Option.bind, List.getElem?_cons_zero, List.getElem?_cons_succ, List.set_cons_zero, List.set_cons_succ, List.length_cons, List.length_nil, if_true, if_false, reduceIte, decide_true, decide_false, Nat.zero_le, Nat.reduceLeDiff, Nat.reduceLT, Nat.reduceAdd, beq_self_eq_true, Bool.not_true, Bool.not_false, Bool.true_and, Bool.false_and, Bool.and_true, Bool.and_false, Bool.and_self, Bool.or_self, Bool.true_or, Bool.false_or, Bool.not_eq_true, Bool.false_eq_true, and_self, true_and, and_true, h1, hl, List.length_nil, hd]
  · have h0 : 0 < rest.length := List.length_pos_iff.mpr z
    have hd : decide ((q : Int) < ((q + rest.length : Nat) : Int)) = true := decide_eq_true (by omega)
    have e1 : (q : Int) - 0 = q := by omega
    have e2 : (q : Int) + 1 = ((q + 1 : Nat) : Int) := by omega
    rw [if_neg z]
    simp only [u_read_unary, F_read_unary, sSeq, sSet, sOwn, sRet, sRetN, sIf, sNil, sBk, sCt, sAsg, sPar2, sPar3, sPar2f, sPar3f, sAug, sApp, sExt, sSetI, sFor, gVar, gC, g1, g2, gF, gM, gCons, gNil, gT, gCh, gAnd, gOr, gNot, gIf, tAndG, tOrG, tNotG, gTup, gLst, gOn, gOs, gCut, toB, toI, toL, toT, iL, iT, iR1_eq, iR2_eq, toNat_nat, iZip, bName, bCons, bNil, bTup, dAdd, dAddS, dSub, dMul, dDiv, dMod, dPow, dShl, dShr, dAnd, dXor, dNeg, fI, fI0, dLt, dLe, dGt, dGe, dEq, dNe, dIs, dIsNot, isNon, dep, deps, deq, deqs, dIdx, dCut, fLen, fAbs, fTuple, fList, fSum, fAll, fAny, fMax2, fMin2, toInts, toBls, isTy, lstAt, mkR, dRev, atI_0, atI_1, atI_2, cYes, Option.bind_some, Option.bind_none, Option.bind, List.getElem?_cons_zero, List.getElem?_cons_succ, List.set_cons_zero, List.set_cons_succ, List.length_cons, List.length_nil, if_true, if_false, reduceIte, decide_true, decide_false, Nat.zero_le, Nat.reduceLeDiff, Nat.reduceLT, Nat.reduceAdd, beq_self_eq_true, Bool.not_true, Bool.not_false, Bool.true_and, Bool.false_and, Bool.and_true, Bool.and_false, Bool.and_self, Bool.or_self, Bool.true_or, Bool.false_or, Bool.not_eq_true, Bool.false_eq_true, and_self, true_and, and_true, h1, hl, hd, e1, e2]
theorem isBits_sub {a b : List Nat} (h : isBits a) (k : ∀ c ∈ b, c ∈ a) : isBits b := fun c hc => h c (k c hc)
theorem isBits_app {a b : List Nat} (h : isBits a) (k : isBits b) : isBits (a ++ b) := fun c hc => by
  rcases List.mem_append.mp hc with z | z
  · exact h c z
  · exact k c z
theorem isBits_rep {n c : Nat} (h : c = 48 ∨ c = 49) : isBits (List.replicate n c) := fun d hd => by rw [List.eq_of_mem_replicate hd]; exact h
theorem e_read_digits (l : List Nat) (a m : Nat) (hb : isBits l) : m_read_digits [.str l, .int a, .int m] = some (if a + m ≤ l.length then .tup [.int (valL ((l.drop a).take m)), .int (a + m : Nat)] else .non) := by
  have e1 : (a : Int) + (m : Int) = ((a + m : Nat) : Int) := by omega
  by_cases z : a + m ≤ l.length
  · have hd : decide (((a + m : Nat) : Int) ≤ (l.length : Int)) = true := decide_eq_true (by omega)
    have hv := e_number_of_bits ((l.drop a).take m) (isBits_sub hb fun c hc => List.mem_of_mem_drop (List.mem_of_mem_take hc))
    rw [if_pos z]
    simp only [u_read_digits, F_read_digits, sSeq, sSet, sOwn, sRet, sRetN, sIf, sNil, sBk, sCt, sAsg, sPar2, sPar3, sPar2f, sPar3f, sAug, sApp, sExt, sSetI, sFor, gVar, gC, g1, g2, gF, gM, gCons, gNil, gT, gCh, gAnd, gOr, gNot, gIf, tAndG, tOrG, tNotG, gTup, gLst, gOn, gOs, gCut, toB, toI, toL, toT, iL, iT, iR1_eq, iR2_eq, toNat_nat, iZip, bName, bCons, bNil, bTup, dAddS, dSub, dPow, dShl, dShr, dAnd, dXor, dNeg, fI0, dLt, dLe, dGt, dGe, dEq, dNe, dIs, dIsNot, isNon, dep, deps, deq, deqs, dIdx, dCut, fLen, fAbs, fTuple, fList, fSum, fAll, fAny, fMax2, fMin2, toInts, toBls, isTy, lstAt, mkR, dRev, atI_0, atI_1, atI_2, cYes, Option.bind_some, Option.bind_none, Option.bind, List.getElem?_cons_zero, List.getElem?_cons_succ, List.set_cons_zero, List.set_cons_succ, List.length_cons, List.length_nil, if_true, if_false, reduceIte, decide_true, decide_false, Nat.zero_le, Nat.reduceLeDiff, Nat.reduceLT, Nat.reduceAdd, beq_self_eq_true, Bool.not_true, Bool.not_false, Bool.true_and, Bool.false_and, Bool.and_true, Bool.and_false, Bool.and_self, Bool.or_self, Bool.true_or, Bool.false_or, Bool.not_eq_true, Bool.false_eq_true, and_self, true_and, and_true, dAdd_int, e1, hd, cut_nat, show a + m - a = m by omega, hv]
  · have hd : decide (((a + m : Nat) : Int) ≤ (l.length : Int)) = false := decide_eq_false (by omega)
    rw [if_neg z]
    simp only [u_read_digits, F_read_digits, sSeq, sSet, sOwn, sRet, sRetN, sIf, sNil, sBk, sCt, sAsg, sPar2, sPar3, sPar2f, sPar3f, sAug, sApp, sExt, sSetI, sFor, gVar, gC, g1, g2, gF, gM, gCons, gNil, gT, gCh, gAnd, gOr, gNot, gIf, tAndG, tOrG, tNotG, gTup, gLst, gOn, gOs, gCut, toB, toI, toL, toT, iL, iT, iR1_eq, iR2_eq, toNat_nat, iZip, bName, bCons, bNil, bTup, dAddS, dSub, dPow, dShl, dShr, dAnd, dXor, dNeg, fI0, dLt, dLe, dGt, dGe, dEq, dNe, dIs, dIsNot, isNon, dep, deps, deq, deqs, dIdx, dCut, fLen, fAbs, fTuple, fList, fSum, fAll, fAny, fMax2, fMin2, toInts, toBls, isTy, lstAt, mkR, dRev, atI_0, atI_1, atI_2, cYes, Option.bind_some, Option.bind_none, Option.bind, List.getElem?_cons_zero, List.getElem?_cons_succ, List.set_cons_zero, List.set_cons_succ, List.length_cons, List.length_nil, if_true, if_false, reduceIte, decide_true, decide_false, Nat.zero_le, Nat.reduceLeDiff, Nat.reduceLT, Nat.reduceAdd, beq_self_eq_true, Bool.not_true, Bool.not_false, Bool.true_and, Bool.false_and, Bool.and_true, Bool.and_false, Bool.and_self, Bool.or_self, Bool.true_or, Bool.false_or, Bool.not_eq_true, Bool.false_eq_true, and_self, true_and, and_true, dAdd_int, e1, hd]
theorem l_read_gamma (q : Nat) (rest : List Nat) (w : D) (hr : rest.head? ≠ some 48) : ∀ (m f j : Nat), j + m = q → m < f → whileF C_read_gamma_0 L_read_gamma_0 f [.str (List.replicate q 48 ++ rest), .int 0, .int j, w] = some (.nx [.str (List.replicate q 48 ++ rest), .int 0, .int q, w])
  | m, 0, j, _, hf => absurd hf (Nat.not_lt_zero _)
  | 0, f + 1, j, e, hf => by
    have ej : j = q := e
    subst ej
    have ed : (List.replicate j 48 ++ rest).drop j = rest := by rw [drop_rep (Nat.le_refl j), Nat.sub_self]; rfl
    have eb : (rest.take 1 == [48]) = false := by
      cases rest with
      | nil => rfl
      | cons c r =>
        have : c ≠ 48 := fun z => hr (by rw [z]; rfl)
        show ([c] == [48]) = false
        simp [this]
    have c : C_read_gamma_0 [.str (List.replicate j 48 ++ rest), .int 0, .int j, w] = some false := by
      simp only [C_read_gamma_0, sSeq, sSet, sOwn, sRet, sRetN, sIf, sNil, sBk, sCt, sAsg, sPar2, sPar3, sPar2f, sPar3f, sAug, sApp, sExt, sSetI, sFor, gVar, gC, g1, g2, gF, gM, gCons, gNil, gT, gCh, gAnd, gOr, gNot, gIf, tAndG, tOrG, tNotG, gTup, gLst, gOn, gOs, gCut, toB, toI, toL, toT, iL, iT, iR1_eq, iR2_eq, toNat_nat, iZip, bName, bCons, bNil, bTup, dAdd, dAddS, dSub, dMul, dDiv, dMod, dPow, dShl, dShr, dAnd, dXor, dNeg, fI, fI0, dLt, dLe, dGt, dGe, dEq, dNe, dIs, dIsNot, isNon, dep, deps, deq, deqs, dIdx, dCut, fLen, fAbs, fTuple, fList, fSum, fAll, fAny, fMax2, fMin2, toInts, toBls, isTy, lstAt, mkR, dRev, atI_0, atI_1, atI_2, cYes, Option.bind_some, Option.bind_none, Option.bind, List.getElem?_cons_zero, List.getElem?_cons_succ, List.set_cons_zero, List.set_cons_succ, List.length_cons, List.length_nil, if_true, if_false, reduceIte, decide_true, decide_false, Nat.zero_le, Nat.reduceLeDiff, Nat.reduceLT, Nat.reduceAdd, beq_self_eq_true, Bool.not_true, Bool.not_false, Bool.true_and, Bool.false_and, Bool.and_true, Bool.and_false, Bool.and_self, Bool.or_self, Bool.true_or, Bool.false_or, Bool.not_eq_true, Bool.false_eq_true, and_self, true_and, and_true, Int.zero_add, cut_one, ed, eb]
    exact whileF_end c
  | m + 1, f + 1, j, e, hf => by
    have ed : ((List.replicate q 48 ++ rest).drop j).take 1 = [48] := by
      rw [drop_rep (by omega), show q - j = m + 1 by omega]
      rfl
    have c : C_read_gamma_0 [.str (List.replicate q 48 ++ rest), .int 0, .int j, w] = some true := by
      simp only [C_read_gamma_0, sSeq, sSet, sOwn, sRet, sRetN, sIf, sNil, sBk, sCt, sAsg, sPar2, sPar3, sPar2f, sPar3f, sAug, sApp, sExt, sSetI, sFor, gVar, gC, g1, g2, gF, gM, gCons, gNil, gT, gCh, gAnd, gOr, gNot, gIf, tAndG, tOrG, tNotG, gTup, gLst, gOn, gOs, gCut, toB, toI, toL, toT, iL, iT, iR1_eq, iR2_eq, toNat_nat, iZip, bName, bCons, bNil, bTup, dAdd, dAddS, dSub, dMul, dDiv, dMod, dPow, dShl, dShr, dAnd, dXor, dNeg, fI, fI0, dLt, dLe, dGt, dGe, dEq, dNe, dIs, dIsNot, isNon, dep, deps, deq, deqs, dIdx, dCut, fLen, fAbs, fTuple, fList, fSum, fAll, fAny, fMax2, fMin2, toInts, toBls, isTy, lstAt, mkR, dRev, atI_0, atI_1, atI_2, cYes, Option.bind_some, Option.bind_none, Option.bind, List.getElem?_cons_zero, List.getElem?_cons_succ, List.set_cons_zero, List.set_cons_succ, List.length_cons, List.length_nil, if_true, if_false, reduceIte, decide_true, decide_false, Nat.zero_le, Nat.reduceLeDiff, Nat.reduceLT, Nat.reduceAdd, beq_self_eq_true, Bool.not_true, Bool.not_false, Bool.true_and, Bool.false_and, Bool.and_true, Bool.and_false, Bool.and_self, Bool.or_self, Bool.true_or, Bool.false_or, Bool.not_eq_true, Bool.false_eq_true, and_self, true_and, and_true, Int.zero_add, cut_one, ed]
    have s : L_read_gamma_0 [.str (List.replicate q 48 ++ rest), .int 0, .int j, w] = some (.nx [.str (List.replicate q 48 ++ rest), .int 0, .int (j + 1 : Nat), w]) := by
      simp only [L_read_gamma_0, sSeq, sSet, sOwn, sRet, sRetN, sIf, sNil, sBk, sCt, sAsg, sPar2, sPar3, sPar2f, sPar3f, sAug, sApp, sExt, sSetI, sFor, gVar, gC, g1, g2, gF, gM, gCons, gNil, gT, gCh, gAnd, gOr, gNot, gIf, tAndG, tOrG, tNotG, gTup, gLst, gOn, gOs, gCut, toB, toI, toL, toT, iL, iT, iR1_eq, iR2_eq, toNat_nat, iZip, bName, bCons, bNil, bTup, dAdd, dAddS, dSub, dMul, dDiv, dMod, dPow, dShl, dShr, dAnd, dXor, dNeg, fI, fI0, dLt, dLe, dGt, dGe, dEq, dNe, dIs, dIsNot, isNon, dep, deps, deq, deqs, dIdx, dCut, fLen, fAbs, fTuple, fList, fSum, fAll, fAny, fMax2, fMin2, toInts, toBls, isTy, lstAt, mkR, dRev, atI_0, atI_1, atI_2, cYes, Option.bind_some, Option.bind_none, Option.bind, List.getElem?_cons_zero, List.getElem?_cons_succ, List.set_cons_zero, List.set_cons_succ, List.length_cons, List.length_nil, if_true, if_false, reduceIte, decide_true, decide_false, Nat.zero_le, Nat.reduceLeDiff, Nat.reduceLT, Nat.reduceAdd, beq_self_eq_true, Bool.not_true, Bool.not_false, Bool.true_and, Bool.false_and, Bool.and_true, Bool.and_false, Bool.and_self, Bool.or_self, Bool.true_or, Bool.false_or, Bool.not_eq_true, Bool.false_eq_true, and_self, true_and, and_true]
      rfl
    rw [whileF_step c s]
    exact l_read_gamma q rest w hr m f (j + 1) (by omega) (by omega)
theorem e_read_gamma (q : Nat) (rest : List Nat) (hr : rest.head? ≠ some 48) (hq : q < 1000) (hb : isBits rest) : m_read_gamma [.str (List.replicate q 48 ++ rest), .int 0] = some (if q + 1 ≤ rest.length then .tup [.int ((valL (rest.take (q + 1)) : Int) - 1), .int (2 * q + 1 : Nat)] else .non) := by
  have h1 := l_read_gamma q rest .bot hr q 1000 0 (by omega) hq
  have hl : (List.replicate q 48 ++ rest).length = q + rest.length := by rw [List.length_append, List.length_replicate]
  rw [show ((0 : Nat) : Int) = 0 from rfl] at h1
  have hd := e_read_digits (List.replicate q 48 ++ rest) q (q + 1) (isBits_app (isBits_rep (.inl rfl)) hb)
  have ed : (List.replicate q 48 ++ rest).drop q = rest := by rw [drop_rep (Nat.le_refl q), Nat.sub_self]; rfl
  rw [hl, ed] at hd
  have e2 : (q : Int) + 1 = ((q + 1 : Nat) : Int) := by omega
  by_cases z : q + 1 ≤ rest.length
  · rw [if_pos (by omega)] at hd
    rw [if_pos z]
    simp only [u_read_gamma, F_read_gamma, sSeq, sSet, sOwn, sRet, sRetN, sIf, sNil, sBk, sCt, sAsg, sPar2, sPar3, sPar2f, sPar3f, sAug, sApp, sExt, sSetI, sFor, gVar, gC, g1, g2, gF, gM, gCons, gNil, gT, gCh, gAnd, gOr, gNot, gIf, tAndG, tOrG, tNotG, gTup, gLst, gOn, gOs, gCut, toB, toI, toL, toT, iL, iT, iR1_eq, iR2_eq, toNat_nat, iZip, bName, bCons, bNil, bTup, dAdd, dAddS, dSub, dMul, dDiv, dMod, dPow, dShl, dShr, dAnd, dXor, dNeg, fI, fI0, dLt, dLe, dGt, dGe, dEq, dNe, dIs, dIsNot, isNon, dep, deps, deq, deqs, dIdx, dCut, fLen, fAbs, fTuple, fList, fSum, fAll, fAny, fMax2, fMin2, toInts, toBls, isTy, lstAt, mkR, dRev, atI_0, atI_1, atI_2, cYes, Option.bind_some, Option.bind_none, Option.bind, List.getElem?_cons_zero, List.getElem?_cons_succ, List.set_cons_zero, List.set_cons_succ, List.length_cons, List.length_nil, if_true, if_false, reduceIte, decide_true, decide_false, Nat.zero_le, Nat.reduceLeDiff, Nat.reduceLT, Nat.reduceAdd, beq_self_eq_true, Bool.not_true, Bool.not_false, Bool.true_and, Bool.false_and, Bool.and_true, Bool.and_false, Bool.and_self, Bool.or_self, Bool.true_or, Bool.false_or, Bool.not_eq_true, Bool.false_eq_true, and_self, true_and, and_true, h1, Int.zero_add, e2, hd]
    rw [show q + (q + 1) = 2 * q + 1 by omega]
  · rw [if_neg (by omega)] at hd
    rw [if_neg z]
    simp only [u_read_gamma, F_read_gamma, sSeq, sSet, sOwn, sRet, sRetN, sIf, sNil, sBk, sCt, sAsg, sPar2, sPar3, sPar2f, sPar3f, sAug, sApp, sExt, sSetI, sFor, gVar, gC, g1, g2, gF, gM, gCons, gNil, gT, gCh, gAnd, gOr, gNot, gIf, tAndG, tOrG, tNotG, gTup, gLst, gOn, gOs, gCut, toB, toI, toL, toT, iL, iT, iR1_eq, iR2_eq, toNat_nat, iZip, bName, bCons, bNil, bTup, dAdd, dAddS, dSub, dMul, dDiv, dMod, dPow, dShl, dShr, dAnd, dXor, dNeg, fI, fI0, dLt, dLe, dGt, dGe, dEq, dNe, dIs, dIsNot, isNon, dep, deps, deq, deqs, dIdx, dCut, fLen, fAbs, fTuple, fList, fSum, fAll, fAny, fMax2, fMin2, toInts, toBls, isTy, lstAt, mkR, dRev, atI_0, atI_1, atI_2, cYes, Option.bind_some, Option.bind_none, Option.bind, List.getElem?_cons_zero, List.getElem?_cons_succ, List.set_cons_zero, List.set_cons_succ, List.length_cons, List.length_nil, if_true, if_false, reduceIte, decide_true, decide_false, Nat.zero_le, Nat.reduceLeDiff, Nat.reduceLT, Nat.reduceAdd, beq_self_eq_true, Bool.not_true, Bool.not_false, Bool.true_and, Bool.false_and, Bool.and_true, Bool.and_false, Bool.and_self, Bool.or_self, Bool.true_or, Bool.false_or, Bool.not_eq_true, Bool.false_eq_true, and_self, true_and, and_true, h1, Int.zero_add, e2, hd]
/-! ### more readers -/
theorem valL_foldl (l : List Nat) (a : Nat) : l.foldl (fun a c => 2 * a + (c - 48)) a = a * 2 ^ l.length + valL l := by
  induction l generalizing a with
  | nil => simp [valL]
  | cons c r ih =>
    show r.foldl _ (2 * a + (c - 48)) = _
    have e := ih (2 * 0 + (c - 48))
    have e2 : valL (c :: r) = (2 * 0 + (c - 48)) * 2 ^ r.length + valL r := e
    rw [ih, e2, List.length_cons, Nat.pow_succ, Nat.add_mul, Nat.add_mul, Nat.mul_zero, Nat.zero_mul, Nat.mul_comm 2 a, Nat.mul_assoc, Nat.mul_comm 2 (2 ^ r.length)]
    omega
theorem valL_cons (c : Nat) (r : List Nat) : valL (c :: r) = (c - 48) * 2 ^ r.length + valL r := by
  have e := valL_foldl r (2 * 0 + (c - 48))
  show r.foldl _ (2 * 0 + (c - 48)) = _
  rw [e, show 2 * 0 + (c - 48) = c - 48 by omega]
theorem valL_mod : ∀ (w n : Nat), valL (digL n w) = n % 2 ^ w
  | 0, n => by rw [Nat.pow_zero, Nat.mod_one]; rfl
  | w + 1, n => by
    rw [digL, valL_snoc, valL_mod w (n / 2), Nat.pow_succ', Nat.mod_mul]
    omega
theorem binL_bits (n : Nat) : isBits (binL n) := digL_bits _ _
theorem binL_head {n : Nat} : ∀ (f : Nat), 0 < n → n ≤ f → (binL n).head? = some 49
  := fun f => by
  induction f generalizing n with
  | zero => intro h h'; omega
  | succ f ih =>
    intro h h'
    rw [binL_pos h]
    by_cases z : n / 2 = 0
    · rw [z]
      have : n % 2 = 1 := by omega
      rw [this]
      rfl
    · have e := ih (n := n / 2) (by omega) (by omega)
      cases hb : binL (n / 2) with
      | nil => rw [hb] at e; cases e
      | cons c r => rw [hb] at e; exact e
theorem binL_shape {n : Nat} (h : 0 < n) : ∃ t, binL n = 49 :: t ∧ t.length = width n - 1 ∧ isBits t ∧ 2 ^ (width n - 1) + valL t = n := by
  have e := binL_head n h (Nat.le_refl n)
  cases hb : binL n with
  | nil => rw [hb] at e; cases e
  | cons c r =>
    rw [hb] at e
    have ec : c = 49 := Option.some.inj e
    subst ec
    have hl : (binL n).length = r.length + 1 := by rw [hb]; rfl
    rw [binL_len] at hl
    have hv : valL (binL n) = n := valL_digL _ _ (lt_width _ _ (Nat.le_refl _))
    rw [hb, valL_cons] at hv
    refine ⟨r, rfl, by omega, fun x hx => binL_bits n x (by rw [hb]; exact List.mem_cons_of_mem _ hx), ?_⟩
    rw [← show r.length = width n - 1 by omega]
    omega
/-- gamma, read back: whatever stands behind -/
theorem r_gamma (n : Nat) (h : n < 100000) (rest : List Nat) (hb : isBits rest) : m_read_gamma [.str (gamL n ++ rest), .int 0] = some (.tup [.int n, .int (gamL n).length]) := by
  obtain ⟨t, ht, hl, htb, hv⟩ := binL_shape (n := n + 1) (by omega)
  have hw := width_small (n := n + 1) (by omega)
  have h0 : 0 < width (n + 1) := by rw [width_pos (by omega)]; omega
  have hbl := binL_len (n + 1)
  have e := e_read_gamma (width (n + 1) - 1) (binL (n + 1) ++ rest) (by rw [ht]; intro z; cases z) (by omega) (isBits_app (binL_bits _) hb)
  rw [if_pos (by rw [List.length_append, hbl]; omega), List.take_append_of_le_length (by rw [hbl]; omega), List.take_of_length_le (by rw [hbl]; omega), show valL (binL (n + 1)) = n + 1 from valL_digL _ _ (lt_width _ _ (Nat.le_refl _)), ← List.append_assoc] at e
  rw [gamL_len]
  refine e.trans ?_
  congr 5
  omega
/-- and cut short it is none -/
theorem r_gamma_cut (n : Nat) (h : n < 100000) : m_read_gamma [.str (gamL n).dropLast, .int 0] = some .non := by
  obtain ⟨t, ht, hl, htb, hv⟩ := binL_shape (n := n + 1) (by omega)
  have hw := width_small (n := n + 1) (by omega)
  have hbl := binL_len (n + 1)
  have ed : (gamL n).dropLast = List.replicate (width (n + 1) - 1) 48 ++ (binL (n + 1)).dropLast := by
    unfold gamL
    rw [List.dropLast_append_of_ne_nil (by rw [ht]; simp)]
  rw [ed]
  have e := e_read_gamma (width (n + 1) - 1) (binL (n + 1)).dropLast (by
    rw [ht]
    cases t with
    | nil => intro z; cases z
    | cons c r => intro z; cases z) (by omega) (isBits_sub (binL_bits _) fun c hc => List.dropLast_subset _ hc)
  rw [if_neg (by rw [List.length_dropLast, hbl]; omega)] at e
  exact e
theorem r_delta (n : Nat) (h : n < 100000) (rest : List Nat) (hb : isBits rest) : m_read_delta [.str (delL n ++ rest), .int 0] = some (.tup [.int n, .int (delL n).length]) := by
  obtain ⟨t, ht, hl, htb, hv⟩ := binL_shape (n := n + 1) (by omega)
  have hw := width_small (n := n + 1) (by omega)
  have hd : (binL (n + 1)).drop 1 = t := by rw [ht]; rfl
  have e1 := r_gamma (width (n + 1) - 1) (by omega) (t ++ rest) (isBits_app htb hb)
  have ea : delL n ++ rest = gamL (width (n + 1) - 1) ++ (t ++ rest) := by unfold delL; rw [hd, List.append_assoc]
  have el : (delL n).length = (gamL (width (n + 1) - 1)).length + (width (n + 1) - 1) := by unfold delL; rw [hd, List.length_append, hl]
  have e2 := e_read_digits (gamL (width (n + 1) - 1) ++ (t ++ rest)) (gamL (width (n + 1) - 1)).length (width (n + 1) - 1) (isBits_app (isBits_app (isBits_rep (.inl rfl)) (binL_bits _)) (isBits_app htb hb))
  rw [if_pos (by rw [List.length_append, List.length_append, hl]; omega), List.drop_left, List.take_append_of_le_length (by omega), List.take_of_length_le (by omega)] at e2
  rw [ea, el]
  have e3 := e_two_to (width (n + 1) - 1) (by omega)
  have e4 : ((2 ^ (width (n + 1) - 1) : Nat) : Int) + (valL t : Int) - 1 = (n : Int) := by omega
  simp only [u_read_delta, F_read_delta, sSeq, sSet, sOwn, sRet, sRetN, sIf, sNil, sBk, sCt, sAsg, sPar2, sPar3, sPar2f, sPar3f, sAug, sApp, sExt, sSetI, sFor, gVar, gC, g1, g2, gF, gM, gCons, gNil, gT, gCh, gAnd, gOr, gNot, gIf, tAndG, tOrG, tNotG, gTup, gLst, gOn, gOs, gCut, toB, toI, toL, toT, iL, iT, iR1_eq, iR2_eq, toNat_nat, iZip, bName, bCons, bNil, bTup, dAdd, dAddS, dSub, dMul, dDiv, dMod, dPow, dShl, dShr, dAnd, dXor, dNeg, fI, fI0, dLt, dLe, dGt, dGe, dEq, dNe, dIs, dIsNot, isNon, dep, deps, deq, deqs, dIdx, dCut, fLen, fAbs, fTuple, fList, fSum, fAll, fAny, fMax2, fMin2, toInts, toBls, isTy, lstAt, mkR, dRev, atI_0, atI_1, atI_2, cYes, Option.bind_some, Option.bind_none, Option.bind, List.getElem?_cons_zero, List.getElem?_cons_succ, List.set_cons_zero, List.set_cons_succ, List.length_cons, List.length_nil, if_true, if_false, reduceIte, decide_true, decide_false, Nat.zero_le, Nat.reduceLeDiff, Nat.reduceLT, Nat.reduceAdd, beq_self_eq_true, Bool.not_true, Bool.not_false, Bool.true_and, Bool.false_and, Bool.and_true, Bool.and_false, Bool.and_self, Bool.or_self, Bool.true_or, Bool.false_or, Bool.not_eq_true, Bool.false_eq_true, and_self, true_and, and_true, e1, e2, e3, e4]
theorem r_delta_cut (n : Nat) (h : n < 100000) : m_read_delta [.str (delL n).dropLast, .int 0] = some .non := by
  obtain ⟨t, ht, hl, htb, hv⟩ := binL_shape (n := n + 1) (by omega)
  have hw := width_small (n := n + 1) (by omega)
  have hd : (binL (n + 1)).drop 1 = t := by rw [ht]; rfl
  by_cases z : t = []
  · have ea : (delL n).dropLast = (gamL (width (n + 1) - 1)).dropLast := by unfold delL; rw [hd, z, List.append_nil]
    have e1 := r_gamma_cut (width (n + 1) - 1) (by omega)
    rw [ea]
    simp only [u_read_delta, F_read_delta, sSeq, sSet, sOwn, sRet, sRetN, sIf, sNil, sBk, sCt, sAsg, sPar2, sPar3, sPar2f, sPar3f, sAug, sApp, sExt, sSetI, sFor, gVar, gC, g1, g2, gF, gM, gCons, gNil, gT, gCh, gAnd, gOr, gNot, gIf, tAndG, tOrG, tNotG, gTup, gLst, gOn, gOs, gCut, toB, toI, toL, toT, iL, iT, iR1_eq, iR2_eq, toNat_nat, iZip, bName, bCons, bNil, bTup, dAdd, dAddS, dSub, dMul, dDiv, dMod, dPow, dShl, dShr, dAnd, dXor, dNeg, fI, fI0, dLt, dLe, dGt, dGe, dEq, dNe, dIs, dIsNot, isNon, dep, deps, deq, deqs, dIdx, dCut, fLen, fAbs, fTuple, fList, fSum, fAll, fAny, fMax2, fMin2, toInts, toBls, isTy, lstAt, mkR, dRev, atI_0, atI_1, atI_2, cYes, Option.bind_some, Option.bind_none, Option.bind, List.getElem?_cons_zero, List.getElem?_cons_succ, List.set_cons_zero, List.set_cons_succ, List.length_cons, List.length_nil, if_true, if_false, reduceIte, decide_true, decide_false, Nat.zero_le, Nat.reduceLeDiff, Nat.reduceLT, Nat.reduceAdd, beq_self_eq_true, Bool.not_true, Bool.not_false, Bool.true_and, Bool.false_and, Bool.and_true, Bool.and_false, Bool.and_self, Bool.or_self, Bool.true_or, Bool.false_or, Bool.not_eq_true, Bool.false_eq_true, and_self, true_and, and_true, e1]
  · have hb : isBits t.dropLast := isBits_sub htb fun c hc => List.dropLast_subset _ hc
    have ea : (delL n).dropLast = gamL (width (n + 1) - 1) ++ t.dropLast := by unfold delL; rw [hd, List.dropLast_append_of_ne_nil z]
    have e1 := r_gamma (width (n + 1) - 1) (by omega) t.dropLast hb
    have h0 : 0 < t.length := List.length_pos_iff.mpr z
    have e2 := e_read_digits (gamL (width (n + 1) - 1) ++ t.dropLast) (gamL (width (n + 1) - 1)).length (width (n + 1) - 1) (isBits_app (isBits_app (isBits_rep (.inl rfl)) (binL_bits _)) hb)
    rw [if_neg (by rw [List.length_append, List.length_dropLast, hl]; omega)] at e2
    rw [ea]
    simp only [u_read_delta, F_read_delta, sSeq, sSet, sOwn, sRet, sRetN, sIf, sNil, sBk, sCt, sAsg, sPar2, sPar3, sPar2f, sPar3f, sAug, sApp, sExt, sSetI, sFor, gVar, gC, g1, g2, gF, gM, gCons, gNil, gT, gCh, gAnd, gOr, gNot, gIf, tAndG, tOrG, tNotG, gTup, gLst, gOn, gOs, gCut, toB, toI, toL, toT, iL, iT, iR1_eq, iR2_eq, toNat_nat, iZip, bName, bCons, bNil, bTup, dAdd, dAddS, dSub, dMul, dDiv, dMod, dPow, dShl, dShr, dAnd, dXor, dNeg, fI, fI0, dLt, dLe, dGt, dGe, dEq, dNe, dIs, dIsNot, isNon, dep, deps, deq, deqs, dIdx, dCut, fLen, fAbs, fTuple, fList, fSum, fAll, fAny, fMax2, fMin2, toInts, toBls, isTy, lstAt, mkR, dRev, atI_0, atI_1, atI_2, cYes, Option.bind_some, Option.bind_none, Option.bind, List.getElem?_cons_zero, List.getElem?_cons_succ, List.set_cons_zero, List.set_cons_succ, List.length_cons, List.length_nil, if_true, if_false, reduceIte, decide_true, decide_false, Nat.zero_le, Nat.reduceLeDiff, Nat.reduceLT, Nat.reduceAdd, beq_self_eq_true, Bool.not_true, Bool.not_false, Bool.true_and, Bool.false_and, Bool.and_true, Bool.and_false, Bool.and_self, Bool.or_self, Bool.true_or, Bool.false_or, Bool.not_eq_true, Bool.false_eq_true, and_self, true_and, and_true, e1, e2]
/-! ### rice and golomb, read -/
theorem mul_nat (a b : Nat) (h : b ≤ 1000000) : dMul (.int a) (.int b) = some (.int (a * b : Nat)) := by
  have hc : cMul a b = true := cMul_r (by omega) (by omega)
  show (if cMul a b = true then some (D.int ((a : Int) * (b : Int))) else none) = _
  rw [if_pos hc, Int.natCast_mul]
theorem e_read_rice (q k : Nat) (rest : List Nat) (hr : rest.head? ≠ some 49) (hq : q < 1000) (hk : k ≤ 10) (hb : isBits rest) : m_read_rice [.str (List.replicate q 49 ++ rest), .int 0, .int k] = some (if rest = [] then .non else if q + 1 + k ≤ q + rest.length then .tup [.int (q * 2 ^ k + valL ((rest.drop 1).take k) : Nat), .int (q + 1 + k : Nat)] else .non) := by
  have e1 := e_read_unary q rest hr hq
  by_cases z : rest = []
  · rw [if_pos z] at e1 ⊢
    simp only [u_read_rice, F_read_rice, sSeq, sSet, sOwn, sRet, sRetN, sIf, sNil, sBk, sCt, sAsg, sPar2, sPar3, sPar2f, sPar3f, sAug, sApp, sExt, sSetI, sFor, gVar, gC, g1, g2, gF, gM, gCons, gNil, gT, gCh, gAnd, gOr, gNot, gIf, tAndG, tOrG, tNotG, gTup, gLst, gOn, gOs, gCut, toB, toI, toL, toT, iL, iT, iR1_eq, iR2_eq, toNat_nat, iZip, bName, bCons, bNil, bTup, dAddS, dSub, dPow, dShl, dShr, dAnd, dXor, dNeg, fI0, dLt, dLe, dGt, dGe, dEq, dNe, dIs, dIsNot, isNon, dep, deps, deq, deqs, dIdx, dCut, fLen, fAbs, fTuple, fList, fSum, fAll, fAny, fMax2, fMin2, toInts, toBls, isTy, lstAt, mkR, dRev, atI_0, atI_1, atI_2, cYes, Option.bind_some, Option.bind_none, Option.bind, List.getElem?_cons_zero, List.getElem?_cons_succ, List.set_cons_zero, List.set_cons_succ, List.length_cons, List.length_nil, if_true, if_false, reduceIte, decide_true, decide_false, Nat.zero_le, Nat.reduceLeDiff, Nat.reduceLT, Nat.reduceAdd, beq_self_eq_true, Bool.not_true, Bool.not_false, Bool.true_and, Bool.false_and, Bool.and_true, Bool.and_false, Bool.and_self, Bool.or_self, Bool.true_or, Bool.false_or, Bool.not_eq_true, Bool.false_eq_true, and_self, true_and, and_true, dAdd_int, e1]
  · rw [if_neg z] at e1 ⊢
    have e2 := e_read_digits (List.replicate q 49 ++ rest) (q + 1) k (isBits_app (isBits_rep (.inr rfl)) hb)
    have hl : (List.replicate q 49 ++ rest).length = q + rest.length := by rw [List.length_append, List.length_replicate]
    have ed : (List.replicate q 49 ++ rest).drop (q + 1) = rest.drop 1 := by
      rw [List.drop_append, List.length_replicate, List.drop_of_length_le (by rw [List.length_replicate]; omega), show q + 1 - q = 1 by omega]
      rfl
    rw [hl, ed] at e2
    have hp := pow_small k hk
    by_cases y : q + 1 + k ≤ q + rest.length
    · rw [if_pos y] at e2 ⊢
      have e5 : ((q * 2 ^ k : Nat) : Int) + (valL ((rest.drop 1).take k) : Int) = ((q * 2 ^ k + valL ((rest.drop 1).take k) : Nat) : Int) := by omega
      simp only [u_read_rice, F_read_rice, sSeq, sSet, sOwn, sRet, sRetN, sIf, sNil, sBk, sCt, sAsg, sPar2, sPar3, sPar2f, sPar3f, sAug, sApp, sExt, sSetI, sFor, gVar, gC, g1, g2, gF, gM, gCons, gNil, gT, gCh, gAnd, gOr, gNot, gIf, tAndG, tOrG, tNotG, gTup, gLst, gOn, gOs, gCut, toB, toI, toL, toT, iL, iT, iR1_eq, iR2_eq, toNat_nat, iZip, bName, bCons, bNil, bTup, dAddS, dSub, dPow, dShl, dShr, dAnd, dXor, dNeg, fI0, dLt, dLe, dGt, dGe, dEq, dNe, dIs, dIsNot, isNon, dep, deps, deq, deqs, dIdx, dCut, fLen, fAbs, fTuple, fList, fSum, fAll, fAny, fMax2, fMin2, toInts, toBls, isTy, lstAt, mkR, dRev, atI_0, atI_1, atI_2, cYes, Option.bind_some, Option.bind_none, Option.bind, List.getElem?_cons_zero, List.getElem?_cons_succ, List.set_cons_zero, List.set_cons_succ, List.length_cons, List.length_nil, if_true, if_false, reduceIte, decide_true, decide_false, Nat.zero_le, Nat.reduceLeDiff, Nat.reduceLT, Nat.reduceAdd, beq_self_eq_true, Bool.not_true, Bool.not_false, Bool.true_and, Bool.false_and, Bool.and_true, Bool.and_false, Bool.and_self, Bool.or_self, Bool.true_or, Bool.false_or, Bool.not_eq_true, Bool.false_eq_true, and_self, true_and, and_true, dAdd_int, e1, e2, e_two_to k (by omega), mul_nat q (2 ^ k) (by omega), e5]
    · rw [if_neg y] at e2 ⊢
      simp only [u_read_rice, F_read_rice, sSeq, sSet, sOwn, sRet, sRetN, sIf, sNil, sBk, sCt, sAsg, sPar2, sPar3, sPar2f, sPar3f, sAug, sApp, sExt, sSetI, sFor, gVar, gC, g1, g2, gF, gM, gCons, gNil, gT, gCh, gAnd, gOr, gNot, gIf, tAndG, tOrG, tNotG, gTup, gLst, gOn, gOs, gCut, toB, toI, toL, toT, iL, iT, iR1_eq, iR2_eq, toNat_nat, iZip, bName, bCons, bNil, bTup, dAddS, dSub, dPow, dShl, dShr, dAnd, dXor, dNeg, fI0, dLt, dLe, dGt, dGe, dEq, dNe, dIs, dIsNot, isNon, dep, deps, deq, deqs, dIdx, dCut, fLen, fAbs, fTuple, fList, fSum, fAll, fAny, fMax2, fMin2, toInts, toBls, isTy, lstAt, mkR, dRev, atI_0, atI_1, atI_2, cYes, Option.bind_some, Option.bind_none, Option.bind, List.getElem?_cons_zero, List.getElem?_cons_succ, List.set_cons_zero, List.set_cons_succ, List.length_cons, List.length_nil, if_true, if_false, reduceIte, decide_true, decide_false, Nat.zero_le, Nat.reduceLeDiff, Nat.reduceLT, Nat.reduceAdd, beq_self_eq_true, Bool.not_true, Bool.not_false, Bool.true_and, Bool.false_and, Bool.and_true, Bool.and_false, Bool.and_self, Bool.or_self, Bool.true_or, Bool.false_or, Bool.not_eq_true, Bool.false_eq_true, and_self, true_and, and_true, dAdd_int, e1, e2]
def shortW (m : Nat) : Nat := 2 ^ width (m - 1) - m
theorem width_m {m : Nat} (h : 1 ≤ m) : m ≤ 2 ^ width (m - 1) := by
  have := lt_width _ _ (Nat.le_refl (width (m - 1)))
  omega
theorem e_rest_width (m : Nat) (h : 1 ≤ m) (h' : m ≤ 1000) : m_rest_width [.int m] = some (.tup [.int (width (m - 1)), .int (shortW m)]) := by
  have hw := width_small (n := m - 1) (by omega)
  have e1 : (m : Int) - 1 = ((m - 1 : Nat) : Int) := by omega
  have e2 : ((binL (m - 1)).length : Int) = ((width (m - 1) : Nat) : Int) := by rw [binL_len]
  have hm := width_m h
  have e3 : ((2 ^ width (m - 1) : Nat) : Int) - (m : Int) = ((shortW m : Nat) : Int) := by unfold shortW; omega
  simp only [u_rest_width, F_rest_width, sSeq, sSet, sOwn, sRet, sRetN, sIf, sNil, sBk, sCt, sAsg, sPar2, sPar3, sPar2f, sPar3f, sAug, sApp, sExt, sSetI, sFor, gVar, gC, g1, g2, gF, gM, gCons, gNil, gT, gCh, gAnd, gOr, gNot, gIf, tAndG, tOrG, tNotG, gTup, gLst, gOn, gOs, gCut, toB, toI, toL, toT, iL, iT, iR1_eq, iR2_eq, toNat_nat, iZip, bName, bCons, bNil, bTup, dAddS, dSub, dPow, dShl, dShr, dAnd, dXor, dNeg, fI0, dLt, dLe, dGt, dGe, dEq, dNe, dIs, dIsNot, isNon, dep, deps, deq, deqs, dIdx, dCut, fLen, fAbs, fTuple, fList, fSum, fAll, fAny, fMax2, fMin2, toInts, toBls, isTy, lstAt, mkR, dRev, atI_0, atI_1, atI_2, cYes, Option.bind_some, Option.bind_none, Option.bind, List.getElem?_cons_zero, List.getElem?_cons_succ, List.set_cons_zero, List.set_cons_succ, List.length_cons, List.length_nil, if_true, if_false, reduceIte, decide_true, decide_false, Nat.zero_le, Nat.reduceLeDiff, Nat.reduceLT, Nat.reduceAdd, beq_self_eq_true, Bool.not_true, Bool.not_false, Bool.true_and, Bool.false_and, Bool.and_true, Bool.and_false, Bool.and_self, Bool.or_self, Bool.true_or, Bool.false_or, Bool.not_eq_true, Bool.false_eq_true, and_self, true_and, and_true, dAdd_int, e1, e_binary (m - 1) (by omega), e2, e_two_to (width (m - 1)) (by omega), e3]
theorem short_wide {m : Nat} (h : 1 ≤ m) (hs : 0 < shortW m) : 1 ≤ width (m - 1) := by
  by_cases z : m = 1
  · subst z; exact absurd hs (by decide)
  · rw [width_pos (by omega)]; omega
theorem short_two {m : Nat} (h : 1 ≤ m) (hs : 0 < shortW m) : m + shortW m = 2 * 2 ^ (width (m - 1) - 1) ∧ shortW m < m := by
  have hw := short_wide h hs
  have hm := width_m h
  have e : 2 ^ width (m - 1) = 2 * 2 ^ (width (m - 1) - 1) := by rw [← Nat.pow_succ', show (width (m - 1) - 1).succ = width (m - 1) by omega]
  have h2 : 2 ^ (width (m - 1) - 1) ≤ m - 1 := by
    by_cases z : 2 ^ (width (m - 1) - 1) ≤ m - 1
    · exact z
    · have := width_lt (width (m - 1) - 1) (m - 1) (by omega)
      omega
  unfold shortW at *
  omega
/-- what is read at a cut that golomb's reader makes -/
theorem g_digits (q : Nat) (rest : List Nat) (a : Nat) (hb : isBits rest) : m_read_digits [.str (List.replicate q 49 ++ rest), .int (q + 1 : Nat), .int a] = some (if q + 1 + a ≤ q + rest.length then .tup [.int (valL ((rest.drop 1).take a)), .int (q + 1 + a : Nat)] else .non) := by
  have e2 := e_read_digits (List.replicate q 49 ++ rest) (q + 1) a (isBits_app (isBits_rep (.inr rfl)) hb)
  have hl : (List.replicate q 49 ++ rest).length = q + rest.length := by rw [List.length_append, List.length_replicate]
  have ed : (List.replicate q 49 ++ rest).drop (q + 1) = rest.drop 1 := by
    rw [List.drop_append, List.length_replicate, List.drop_of_length_le (by rw [List.length_replicate]; omega), show q + 1 - q = 1 by omega]
    rfl
  rw [hl, ed] at e2
  exact e2
/-- the reader's last part -/
def golEnd (q m : Nat) (rest : List Nat) : D := if q + 1 + width (m - 1) ≤ q + rest.length then .tup [.int (((q * m : Nat) : Int) + (valL ((rest.drop 1).take (width (m - 1))) : Nat) - (shortW m : Nat)), .int (q + 1 + width (m - 1) : Nat)] else .non
theorem e_read_golomb (q m : Nat) (rest : List Nat) (hr : rest.head? ≠ some 49) (hq : q < 1000) (hm : 1 ≤ m) (hm' : m ≤ 1000) (hb : isBits rest) : m_read_golomb [.str (List.replicate q 49 ++ rest), .int 0, .int m] = some (if rest = [] then .non else
    if 0 < shortW m then (if q + 1 + (width (m - 1) - 1) ≤ q + rest.length then (if valL ((rest.drop 1).take (width (m - 1) - 1)) < shortW m then .tup [.int (q * m + valL ((rest.drop 1).take (width (m - 1) - 1)) : Nat), .int (q + 1 + (width (m - 1) - 1) : Nat)] else golEnd q m rest) else .non) else golEnd q m rest) := by
  have e1 := e_read_unary q rest hr hq
  by_cases z : rest = []
  · rw [if_pos z] at e1 ⊢
    simp only [u_read_golomb, F_read_golomb, sSeq, sSet, sOwn, sRet, sRetN, sIf, sNil, sBk, sCt, sAsg, sPar2, sPar3, sPar2f, sPar3f, sAug, sApp, sExt, sSetI, sFor, gVar, gC, g1, g2, gF, gM, gCons, gNil, gT, gCh, gAnd, gOr, gNot, gIf, tAndG, tOrG, tNotG, gTup, gLst, gOn, gOs, gCut, toB, toI, toL, toT, iL, iT, iR1_eq, iR2_eq, toNat_nat, iZip, bName, bCons, bNil, bTup, dAddS, dSub, dPow, dShl, dShr, dAnd, dXor, dNeg, fI0, dLt, dLe, dGt, dGe, dEq, dNe, dIs, dIsNot, isNon, dep, deps, deq, deqs, dIdx, dCut, fLen, fAbs, fTuple, fList, fSum, fAll, fAny, fMax2, fMin2, toInts, toBls, isTy, lstAt, mkR, dRev, atI_0, atI_1, atI_2, cYes, Option.bind_some, Option.bind_none, Option.bind, List.getElem?_cons_zero, List.getElem?_cons_succ, List.set_cons_zero, List.set_cons_succ, List.length_cons, List.length_nil, if_true, if_false, reduceIte, decide_true, decide_false, Nat.zero_le, Nat.reduceLeDiff, Nat.reduceLT, Nat.reduceAdd, beq_self_eq_true, Bool.not_true, Bool.not_false, Bool.true_and, Bool.false_and, Bool.and_true, Bool.and_false, Bool.and_self, Bool.or_self, Bool.true_or, Bool.false_or, Bool.not_eq_true, Bool.false_eq_true, and_self, true_and, and_true, dAdd_int, e1]
  · rw [if_neg z] at e1 ⊢
    have ew := e_rest_width m hm hm'
    have e3 := g_digits q rest (width (m - 1)) hb
    have em := mul_nat q m (by omega)
    have ended : ∀ (w6 : D), mkR (sSeq (sSet 6 (gF m_read_digits (gCons (gVar 0) (gCons (g2 dIdx (gVar 3) (gC (.int 1))) (gCons (gVar 4) gNil))))) (sRet (gIf (gT (g2 dIs (gVar 6) (gC .non))) (gC .non) (gTup (gCons (g2 dSub (g2 dAdd (g2 dMul (g2 dIdx (gVar 3) (gC (.int 0))) (gVar 2)) (g2 dIdx (gVar 6) (gC (.int 0)))) (gVar 5)) (gCons (g2 dIdx (gVar 6) (gC (.int 1))) gNil))))) [.str (List.replicate q 49 ++ rest), .int 0, .int m, .tup [.int q, .int (q + 1 : Nat)], .int (width (m - 1)), .int (shortW m), w6]) = some (golEnd q m rest) := fun w6 => by
      unfold golEnd
      by_cases y : q + 1 + width (m - 1) ≤ q + rest.length
      · rw [if_pos y] at e3 ⊢
        simp only [sSeq, sSet, sOwn, sRet, sRetN, sIf, sNil, sBk, sCt, sAsg, sPar2, sPar3, sPar2f, sPar3f, sAug, sApp, sExt, sSetI, sFor, gVar, gC, g1, g2, gF, gM, gCons, gNil, gT, gCh, gAnd, gOr, gNot, gIf, tAndG, tOrG, tNotG, gTup, gLst, gOn, gOs, gCut, toB, toI, toL, toT, iL, iT, iR1_eq, iR2_eq, toNat_nat, iZip, bName, bCons, bNil, bTup, dAddS, dSub, dPow, dShl, dShr, dAnd, dXor, dNeg, fI0, dLt, dLe, dGt, dGe, dEq, dNe, dIs, dIsNot, isNon, dep, deps, deq, deqs, dIdx, dCut, fLen, fAbs, fTuple, fList, fSum, fAll, fAny, fMax2, fMin2, toInts, toBls, isTy, lstAt, mkR, dRev, atI_0, atI_1, atI_2, cYes, Option.bind_some, Option.bind_none, Option.bind, List.getElem?_cons_zero, List.getElem?_cons_succ, List.set_cons_zero, List.set_cons_succ, List.length_cons, List.length_nil, if_true, if_false, reduceIte, decide_true, decide_false, Nat.zero_le, Nat.reduceLeDiff, Nat.reduceLT, Nat.reduceAdd, beq_self_eq_true, Bool.not_true, Bool.not_false, Bool.true_and, Bool.false_and, Bool.and_true, Bool.and_false, Bool.and_self, Bool.or_self, Bool.true_or, Bool.false_or, Bool.not_eq_true, Bool.false_eq_true, and_self, true_and, and_true, dAdd_int, e3, em]
      · rw [if_neg y] at e3 ⊢
        simp only [sSeq, sSet, sOwn, sRet, sRetN, sIf, sNil, sBk, sCt, sAsg, sPar2, sPar3, sPar2f, sPar3f, sAug, sApp, sExt, sSetI, sFor, gVar, gC, g1, g2, gF, gM, gCons, gNil, gT, gCh, gAnd, gOr, gNot, gIf, tAndG, tOrG, tNotG, gTup, gLst, gOn, gOs, gCut, toB, toI, toL, toT, iL, iT, iR1_eq, iR2_eq, toNat_nat, iZip, bName, bCons, bNil, bTup, dAddS, dSub, dPow, dShl, dShr, dAnd, dXor, dNeg, fI0, dLt, dLe, dGt, dGe, dEq, dNe, dIs, dIsNot, isNon, dep, deps, deq, deqs, dIdx, dCut, fLen, fAbs, fTuple, fList, fSum, fAll, fAny, fMax2, fMin2, toInts, toBls, isTy, lstAt, mkR, dRev, atI_0, atI_1, atI_2, cYes, Option.bind_some, Option.bind_none, Option.bind, List.getElem?_cons_zero, List.getElem?_cons_succ, List.set_cons_zero, List.set_cons_succ, List.length_cons, List.length_nil, if_true, if_false, reduceIte, decide_true, decide_false, Nat.zero_le, Nat.reduceLeDiff, Nat.reduceLT, Nat.reduceAdd, beq_self_eq_true, Bool.not_true, Bool.not_false, Bool.true_and, Bool.false_and, Bool.and_true, Bool.and_false, Bool.and_self, Bool.or_self, Bool.true_or, Bool.false_or, Bool.not_eq_true, Bool.false_eq_true, and_self, true_and, and_true, dAdd_int, e3]
    by_cases s : 0 < shortW m
    · rw [if_pos s]
      have hw := short_wide hm s
      have e2 := g_digits q rest (width (m - 1) - 1) hb
      have ea : (width (m - 1) : Int) - 1 = ((width (m - 1) - 1 : Nat) : Int) := by omega
      have hs : decide ((0 : Int) < (shortW m : Int)) = true := decide_eq_true (by omega)
      by_cases y : q + 1 + (width (m - 1) - 1) ≤ q + rest.length
      · rw [if_pos y] at e2 ⊢
        by_cases v : valL ((rest.drop 1).take (width (m - 1) - 1)) < shortW m
        · rw [if_pos v]
          have hv : decide (((valL ((rest.drop 1).take (width (m - 1) - 1)) : Nat) : Int) < (shortW m : Int)) = true := decide_eq_true (by omega)
          have e5 : ((q * m : Nat) : Int) + (valL ((rest.drop 1).take (width (m - 1) - 1)) : Int) = ((q * m + valL ((rest.drop 1).take (width (m - 1) - 1)) : Nat) : Int) := by omega
          simp only [u_read_golomb, F_read_golomb, sSeq, sSet, sOwn, sRet, sRetN, sIf, sNil, sBk, sCt, sAsg, sPar2, sPar3, sPar2f, sPar3f, sAug, sApp, sExt, sSetI, sFor, gVar, gC, g1, g2, gF, gM, gCons, gNil, gT, gCh, gAnd, gOr, gNot, gIf, tAndG, tOrG, tNotG, gTup, gLst, gOn, gOs, gCut, toB, toI, toL, toT, iL, iT, iR1_eq, iR2_eq, toNat_nat, iZip, bName, bCons, bNil, bTup, dAddS, dSub, dPow, dShl, dShr, dAnd, dXor, dNeg, fI0, dLt, dLe, dGt, dGe, dEq, dNe, dIs, dIsNot, isNon, dep, deps, deq, deqs, dIdx, dCut, fLen, fAbs, fTuple, fList, fSum, fAll, fAny, fMax2, fMin2, toInts, toBls, isTy, lstAt, mkR, dRev, atI_0, atI_1, atI_2, cYes, Option.bind_some, Option.bind_none, Option.bind, List.getElem?_cons_zero, List.getElem?_cons_succ, List.set_cons_zero, List.set_cons_succ, List.length_cons, List.length_nil, if_true, if_false, reduceIte, decide_true, decide_false, Nat.zero_le, Nat.reduceLeDiff, Nat.reduceLT, Nat.reduceAdd, beq_self_eq_true, Bool.not_true, Bool.not_false, Bool.true_and, Bool.false_and, Bool.and_true, Bool.and_false, Bool.and_self, Bool.or_self, Bool.true_or, Bool.false_or, Bool.not_eq_true, Bool.false_eq_true, and_self, true_and, and_true, dAdd_int, e1, ew, hs, ea, e2, hv, em, e5]
        · rw [if_neg v]
          have hv : decide (((valL ((rest.drop 1).take (width (m - 1) - 1)) : Nat) : Int) < (shortW m : Int)) = false := decide_eq_false (by omega)
          rw [← ended (.tup [.int (valL ((rest.drop 1).take (width (m - 1) - 1))), .int (q + 1 + (width (m - 1) - 1) : Nat)])]
          simp only [u_read_golomb, F_read_golomb, sSeq, sSet, sOwn, sRet, sRetN, sIf, sNil, sBk, sCt, sAsg, sPar2, sPar3, sPar2f, sPar3f, sAug, sApp, sExt, sSetI, sFor, gVar, gC, g1, g2, gF, gM, gCons, gNil, gT, gCh, gAnd, gOr, gNot, gIf, tAndG, tOrG, tNotG, gTup, gLst, gOn, gOs, gCut, toB, toI, toL, toT, iL, iT, iR1_eq, iR2_eq, toNat_nat, iZip, bName, bCons, bNil, bTup, dAddS, dSub, dPow, dShl, dShr, dAnd, dXor, dNeg, fI0, dLt, dLe, dGt, dGe, dEq, dNe, dIs, dIsNot, isNon, dep, deps, deq, deqs, dIdx, dCut, fLen, fAbs, fTuple, fList, fSum, fAll, fAny, fMax2, fMin2, toInts, toBls, isTy, lstAt, mkR, dRev, atI_0, atI_1, atI_2, cYes, Option.bind_some, Option.bind_none, Option.bind, List.getElem?_cons_zero, List.getElem?_cons_succ, List.set_cons_zero, List.set_cons_succ, List.length_cons, List.length_nil, if_true, if_false, reduceIte, decide_true, decide_false, Nat.zero_le, Nat.reduceLeDiff, Nat.reduceLT, Nat.reduceAdd, beq_self_eq_true, Bool.not_true, Bool.not_false, Bool.true_and, Bool.false_and, Bool.and_true, Bool.and_false, Bool.and_self, Bool.or_self, Bool.true_or, Bool.false_or, Bool.not_eq_true, Bool.false_eq_true, and_self, true_and, and_true, dAdd_int, e1, ew, hs, ea, e2, hv]
      · rw [if_neg y] at e2 ⊢
        simp only [u_read_golomb, F_read_golomb, sSeq, sSet, sOwn, sRet, sRetN, sIf, sNil, sBk, sCt, sAsg, sPar2, sPar3, sPar2f, sPar3f, sAug, sApp, sExt, sSetI, sFor, gVar, gC, g1, g2, gF, gM, gCons, gNil, gT, gCh, gAnd, gOr, gNot, gIf, tAndG, tOrG, tNotG, gTup, gLst, gOn, gOs, gCut, toB, toI, toL, toT, iL, iT, iR1_eq, iR2_eq, toNat_nat, iZip, bName, bCons, bNil, bTup, dAddS, dSub, dPow, dShl, dShr, dAnd, dXor, dNeg, fI0, dLt, dLe, dGt, dGe, dEq, dNe, dIs, dIsNot, isNon, dep, deps, deq, deqs, dIdx, dCut, fLen, fAbs, fTuple, fList, fSum, fAll, fAny, fMax2, fMin2, toInts, toBls, isTy, lstAt, mkR, dRev, atI_0, atI_1, atI_2, cYes, Option.bind_some, Option.bind_none, Option.bind, List.getElem?_cons_zero, List.getElem?_cons_succ, List.set_cons_zero, List.set_cons_succ, List.length_cons, List.length_nil, if_true, if_false, reduceIte, decide_true, decide_false, Nat.zero_le, Nat.reduceLeDiff, Nat.reduceLT, Nat.reduceAdd, beq_self_eq_true, Bool.not_true, Bool.not_false, Bool.true_and, Bool.false_and, Bool.and_true, Bool.and_false, Bool.and_self, Bool.or_self, Bool.true_or, Bool.false_or, Bool.not_eq_true, Bool.false_eq_true, and_self, true_and, and_true, dAdd_int, e1, ew, hs, ea, e2]
    · rw [if_neg s]
      have hs : decide ((0 : Int) < (shortW m : Int)) = false := decide_eq_false (by omega)
      rw [← ended .bot]
      simp only [u_read_golomb, F_read_golomb, sSeq, sSet, sOwn, sRet, sRetN, sIf, sNil, sBk, sCt, sAsg, sPar2, sPar3, sPar2f, sPar3f, sAug, sApp, sExt, sSetI, sFor, gVar, gC, g1, g2, gF, gM, gCons, gNil, gT, gCh, gAnd, gOr, gNot, gIf, tAndG, tOrG, tNotG, gTup, gLst, gOn, gOs, gCut, toB, toI, toL, toT, iL, iT, iR1_eq, iR2_eq, toNat_nat, iZip, bName, bCons, bNil, bTup, dAddS, dSub, dPow, dShl, dShr, dAnd, dXor, dNeg, fI0, dLt, dLe, dGt, dGe, dEq, dNe, dIs, dIsNot, isNon, dep, deps, deq, deqs, dIdx, dCut, fLen, fAbs, fTuple, fList, fSum, fAll, fAny, fMax2, fMin2, toInts, toBls, isTy, lstAt, mkR, dRev, atI_0, atI_1, atI_2, cYes, Option.bind_some, Option.bind_none, Option.bind, List.getElem?_cons_zero, List.getElem?_cons_succ, List.set_cons_zero, List.set_cons_succ, List.length_cons, List.length_nil, if_true, if_false, reduceIte, decide_true, decide_false, Nat.zero_le, Nat.reduceLeDiff, Nat.reduceLT, Nat.reduceAdd, beq_self_eq_true, Bool.not_true, Bool.not_false, Bool.true_and, Bool.false_and, Bool.and_true, Bool.and_false, Bool.and_self, Bool.or_self, Bool.true_or, Bool.false_or, Bool.not_eq_true, Bool.false_eq_true, and_self, true_and, and_true, dAdd_int, e1, ew, hs]
/-! ### golomb, by_two, written and read -/
def golT (n m : Nat) : List Nat := if n % m < shortW m then digL (n % m) (width (m - 1) - 1) else digL (n % m + shortW m) (width (m - 1))
def golL (n m : Nat) : List Nat := List.replicate (n / m) 49 ++ ([48] ++ golT n m)
theorem golT_bits (n m : Nat) : isBits (golT n m) := by unfold golT; split <;> exact digL_bits _ _
theorem golT_len (n m : Nat) (hm' : m ≤ 1000) : (golT n m).length ≤ 20 := by
  have hw := width_small (n := m - 1) (by omega)
  unfold golT
  split <;> rw [digL_len] <;> omega
theorem add_nat (a b : Nat) : dAdd (.int a) (.int b) = some (.int (a + b : Nat)) := rfl
theorem e_golomb (n m : Nat) (h : n < 100000) (hm : 1 ≤ m) (hm' : m ≤ 1000) : m_golomb [.int n, .int m] = some (.str (golL n m)) := by
  have ew := e_rest_width m hm hm'
  have hw := width_small (n := m - 1) (by omega)
  have h4 : n / m ≤ n := Nat.div_le_self _ _
  have ht := golT_len n m hm'
  have e3 := app_str (List.replicate (n / m) 49 ++ [48]) (golT n m) (by rw [List.length_append, List.length_replicate, List.length_singleton]; omega)
  rw [List.append_assoc] at e3
  have e4 := mod_nat n m hm
  have e5 := div_nat n m hm (by omega)
  have e6 := e_unary (n / m) (by omega)
  by_cases s : n % m < shortW m
  · have hs : decide (((n % m : Nat) : Int) < (shortW m : Int)) = true := decide_eq_true (by omega)
    have hw1 := short_wide hm (by omega : 0 < shortW m)
    have ea : (width (m - 1) : Int) - 1 = ((width (m - 1) - 1 : Nat) : Int) := by omega
    have e7 := e_digits_of (n % m) (width (m - 1) - 1) (by omega)
    rw [show golT n m = digL (n % m) (width (m - 1) - 1) from if_pos s] at e3
    unfold golL
    rw [show golT n m = digL (n % m) (width (m - 1) - 1) from if_pos s]
    simp only [u_golomb, F_golomb, sSeq, sSet, sOwn, sRet, sRetN, sIf, sNil, sBk, sCt, sAsg, sPar2, sPar3, sPar2f, sPar3f, sAug, sApp, sExt, sSetI, sFor, gVar, gC, g1, g2, gF, gM, gCons, gNil, gT, gCh, gAnd, gOr, gNot, gIf, tAndG, tOrG, tNotG, gTup, gLst, gOn, gOs, gCut, toB, toI, toL, toT, iL, iT, iR1_eq, iR2_eq, toNat_nat, iZip, bName, bCons, bNil, bTup, dAddS, dSub, dPow, dShl, dShr, dAnd, dXor, dNeg, fI0, dLt, dLe, dGt, dGe, dEq, dNe, dIs, dIsNot, isNon, dep, deps, deq, deqs, dIdx, dCut, fLen, fAbs, fTuple, fList, fSum, fAll, fAny, fMax2, fMin2, toInts, toBls, isTy, lstAt, mkR, dRev, atI_0, atI_1, atI_2, cYes, Option.bind_some, Option.bind_none, Option.bind, List.getElem?_cons_zero, List.getElem?_cons_succ, List.set_cons_zero, List.set_cons_succ, List.length_cons, List.length_nil, if_true, if_false, reduceIte, decide_true, decide_false, Nat.zero_le, Nat.reduceLeDiff, Nat.reduceLT, Nat.reduceAdd, beq_self_eq_true, Bool.not_true, Bool.not_false, Bool.true_and, Bool.false_and, Bool.and_true, Bool.and_false, Bool.and_self, Bool.or_self, Bool.true_or, Bool.false_or, Bool.not_eq_true, Bool.false_eq_true, and_self, true_and, and_true, dAdd_int, ew, e4, hs, e5, e6, ea, e7, e3]
  · have hs : decide (((n % m : Nat) : Int) < (shortW m : Int)) = false := decide_eq_false (by omega)
    have e7 := e_digits_of (n % m + shortW m) (width (m - 1)) (by omega)
    rw [show golT n m = digL (n % m + shortW m) (width (m - 1)) from if_neg s] at e3
    have e8 : ((n % m : Nat) : Int) + (shortW m : Int) = ((n % m + shortW m : Nat) : Int) := by omega
    unfold golL
    rw [show golT n m = digL (n % m + shortW m) (width (m - 1)) from if_neg s]
    simp only [u_golomb, F_golomb, sSeq, sSet, sOwn, sRet, sRetN, sIf, sNil, sBk, sCt, sAsg, sPar2, sPar3, sPar2f, sPar3f, sAug, sApp, sExt, sSetI, sFor, gVar, gC, g1, g2, gF, gM, gCons, gNil, gT, gCh, gAnd, gOr, gNot, gIf, tAndG, tOrG, tNotG, gTup, gLst, gOn, gOs, gCut, toB, toI, toL, toT, iL, iT, iR1_eq, iR2_eq, toNat_nat, iZip, bName, bCons, bNil, bTup, dAddS, dSub, dPow, dShl, dShr, dAnd, dXor, dNeg, fI0, dLt, dLe, dGt, dGe, dEq, dNe, dIs, dIsNot, isNon, dep, deps, deq, deqs, dIdx, dCut, fLen, fAbs, fTuple, fList, fSum, fAll, fAny, fMax2, fMin2, toInts, toBls, isTy, lstAt, mkR, dRev, atI_0, atI_1, atI_2, cYes, Option.bind_some, Option.bind_none, Option.bind, List.getElem?_cons_zero, List.getElem?_cons_succ, List.set_cons_zero, List.set_cons_succ, List.length_cons, List.length_nil, if_true, if_false, reduceIte, decide_true, decide_false, Nat.zero_le, Nat.reduceLeDiff, Nat.reduceLT, Nat.reduceAdd, beq_self_eq_true, Bool.not_true, Bool.not_false, Bool.true_and, Bool.false_and, Bool.and_true, Bool.and_false, Bool.and_self, Bool.or_self, Bool.true_or, Bool.false_or, Bool.not_eq_true, Bool.false_eq_true, and_self, true_and, and_true, dAdd_int, ew, e4, hs, e5, e6, e8, e7, e3]
theorem digL_take : ∀ (a b n : Nat), b ≤ a → (digL n a).take b = digL (n / 2 ^ (a - b)) b
  | 0, b, n, h => by
    have : b = 0 := by omega
    subst this; rfl
  | a + 1, b, n, h => by
    by_cases z : b = a + 1
    · subst z
      rw [List.take_of_length_le (by rw [digL_len]; exact Nat.le_refl _), Nat.sub_self, Nat.pow_zero, Nat.div_one]
    · rw [digL, List.take_append_of_le_length (by rw [digL_len]; omega), digL_take a b (n / 2) (by omega), Nat.div_div_eq_div_mul, ← Nat.pow_succ', show (a - b).succ = a + 1 - b by omega]
theorem r_golomb (n m : Nat) (h : n < 1000) (hm : 1 ≤ m) (hm' : m ≤ 1000) (rest : List Nat) (hb : isBits rest) : m_read_golomb [.str (golL n m ++ rest), .int 0, .int m] = some (.tup [.int n, .int (golL n m).length]) := by
  have h4 : n / m ≤ n := Nat.div_le_self _ _
  have hmod : n % m < m := Nat.mod_lt _ hm
  have hdm : n / m * m + n % m = n := by rw [Nat.mul_comm]; exact Nat.div_add_mod n m
  have e := e_read_golomb (n / m) m ([48] ++ golT n m ++ rest) (by intro z; cases z) (by omega) hm hm' (isBits_app (isBits_app (fun c hc => .inl (List.mem_singleton.mp hc)) (golT_bits n m)) hb)
  have ed : ([48] ++ golT n m ++ rest).drop 1 = golT n m ++ rest := rfl
  have el : ([48] ++ golT n m ++ rest).length = (golT n m).length + rest.length + 1 := by simp
  have ell : (golL n m).length = n / m + 1 + (golT n m).length := by unfold golL; simp; omega
  rw [if_neg (by intro z; cases z)] at e
  have ea : golL n m ++ rest = List.replicate (n / m) 49 ++ ([48] ++ golT n m ++ rest) := by unfold golL; simp
  rw [ea]
  refine e.trans (congrArg some ?_)
  unfold golEnd
  rw [ed, el, ell]
  by_cases s : n % m < shortW m
  · have hT : golT n m = digL (n % m) (width (m - 1) - 1) := if_pos s
    have hlt : (golT n m).length = width (m - 1) - 1 := by rw [hT, digL_len]
    have hs2 := short_two hm (by omega : 0 < shortW m)
    have hv : valL ((golT n m ++ rest).take (width (m - 1) - 1)) = n % m := by
      rw [List.take_append_of_le_length (by omega), List.take_of_length_le (by omega), hT]
      exact valL_digL _ _ (by omega)
    rw [if_pos (by omega), if_pos (by omega), hv, if_pos s, hdm, hlt]
  · have hT : golT n m = digL (n % m + shortW m) (width (m - 1)) := if_neg s
    have hlt : (golT n m).length = width (m - 1) := by rw [hT, digL_len]
    have hm2 := width_m hm
    have hv : valL ((golT n m ++ rest).take (width (m - 1))) = n % m + shortW m := by
      rw [List.take_append_of_le_length (by omega), List.take_of_length_le (by omega), hT]
      exact valL_digL _ _ (by unfold shortW; omega)
    have hend : D.tup [D.int (((n / m * m : Nat) : Int) + ((n % m + shortW m : Nat) : Int) - ((shortW m : Nat) : Int)), D.int ((n / m + 1 + width (m - 1) : Nat) : Int)] = .tup [.int n, .int ((n / m + 1 + width (m - 1) : Nat) : Int)] := by
      have : ((n / m * m : Nat) : Int) + ((n % m + shortW m : Nat) : Int) - ((shortW m : Nat) : Int) = n := by omega
      rw [this]
    by_cases p : 0 < shortW m
    · have hs2 := short_two hm p
      have hw := short_wide hm p
      have hv2 : ¬ valL ((golT n m ++ rest).take (width (m - 1) - 1)) < shortW m := by
        rw [List.take_append_of_le_length (by omega), hT, digL_take _ _ _ (by omega), show width (m - 1) - (width (m - 1) - 1) = 1 by omega, Nat.pow_one, valL_digL _ _ (by omega)]
        omega
      rw [if_pos p, if_pos (by omega), if_neg hv2, if_pos (by omega), hv, hend, hlt]
    · rw [if_neg p, if_pos (by omega), hv, hend, hlt]
/-- any bits are read to something -/
theorem split_ones : ∀ l : List Nat, ∃ q rest, l = List.replicate q 49 ++ rest ∧ rest.head? ≠ some 49 ∧ q + rest.length = l.length
  | [] => ⟨0, [], rfl, by simp, rfl⟩
  | c :: r => by
    by_cases z : c = 49
    · obtain ⟨q, rest, h1, h2, h3⟩ := split_ones r
      exact ⟨q + 1, rest, by rw [h1, z]; rfl, h2, by rw [List.length_cons]; omega⟩
    · exact ⟨0, c :: r, rfl, by simp [z], by simp⟩
theorem d_rice (l : List Nat) (k : Nat) (hb : isBits l) (hl : l.length < 1000) (hk : k ≤ 10) : ∃ x, m_read_rice [.str l, .int 0, .int k] = some x := by
  obtain ⟨q, rest, rfl, h2, h3⟩ := split_ones l
  exact ⟨_, e_read_rice q k rest h2 (by omega) hk (isBits_sub hb fun c hc => List.mem_append_right _ hc)⟩
theorem d_golomb (l : List Nat) (m : Nat) (hb : isBits l) (hl : l.length < 1000) (hm : 1 ≤ m) (hm' : m ≤ 1000) : ∃ x, m_read_golomb [.str l, .int 0, .int m] = some x := by
  obtain ⟨q, rest, rfl, h2, h3⟩ := split_ones l
  exact ⟨_, e_read_golomb q m rest h2 (by omega) hm hm' (isBits_sub hb fun c hc => List.mem_append_right _ hc)⟩
/-! ### by_two -/
def stW (n : Nat) : Nat → List Nat → Nat → Nat → List Nat
  | 0, l, p, q => l ++ [p, q]
  | f + 1, l, p, q => if q ≤ n then stW n f (l ++ [p]) q (p + q) else l ++ [p, q]
def dI (l : List Nat) : List D := l.map fun (x : Nat) => D.int (x : Int)
theorem dI_app (a b : List Nat) : dI (a ++ b) = dI a ++ dI b := List.map_append
theorem dI_len (a : List Nat) : (dI a).length = a.length := List.length_map _
theorem l_steps (n : Nat) (w : D) : ∀ (f : Nat) (l : List Nat) (p q : Nat), 1 ≤ p → 1 ≤ q → n + 1 - q < f → l.length + f < 10000 → whileF C_steps_up_to_0 L_steps_up_to_0 f [.int n, .lst (dI (l ++ [p, q])), w] = some (.nx [.int n, .lst (dI (stW n f l p q)), w])
  | 0, l, p, q, _, _, h, _ => absurd h (Nat.not_lt_zero _)
  | f + 1, l, p, q, h1, h0, h2, h3 => by
    have es : dI (l ++ [p, q]) = dI l ++ [.int p, .int q] := dI_app _ _
    by_cases z : q ≤ n
    · have c : C_steps_up_to_0 [.int n, .lst (dI (l ++ [p, q])), w] = some true := by
        have hd : decide ((q : Int) ≤ (n : Int)) = true := decide_eq_true (by omega)
        rw [es]
        simp only [C_steps_up_to_0, sSeq, sSet, sOwn, sRet, sRetN, sIf, sNil, sBk, sCt, sAsg, sPar2, sPar3, sPar2f, sPar3f, sAug, sApp, sExt, sSetI, sFor, gVar, gC, g1, g2, gF, gM, gCons, gNil, gT, gCh, gAnd, gOr, gNot, gIf, tAndG, tOrG, tNotG, gTup, gLst, gOn, gOs, gCut, toB, toI, toL, toT, iL, iT, iR1_eq, iR2_eq, toNat_nat, iZip, bName, bCons, bNil, bTup, dAdd, dAddS, dSub, dMul, dDiv, dMod, dPow, dShl, dShr, dAnd, dXor, dNeg, fI, fI0, dLt, dLe, dGt, dGe, dEq, dNe, dIs, dIsNot, isNon, dep, deps, deq, deqs, dIdx, dCut, fLen, fAbs, fTuple, fList, fSum, fAll, fAny, fMax2, fMin2, toInts, toBls, isTy, lstAt, mkR, dRev, atI_0, atI_1, atI_2, cYes, Option.bind_some, Option.bind_none, Option.bind, List.getElem?_cons_zero, List.getElem?_cons_succ, List.set_cons_zero, List.set_cons_succ, List.length_cons, List.length_nil, if_true, if_false, reduceIte, decide_true, decide_false, Nat.zero_le, Nat.reduceLeDiff, Nat.reduceLT, Nat.reduceAdd, beq_self_eq_true, Bool.not_true, Bool.not_false, Bool.true_and, Bool.false_and, Bool.and_true, Bool.and_false, Bool.and_self, Bool.or_self, Bool.true_or, Bool.false_or, Bool.not_eq_true, Bool.false_eq_true, and_self, true_and, and_true, atI_end2, hd]
      have s : L_steps_up_to_0 [.int n, .lst (dI (l ++ [p, q])), w] = some (.nx [.int n, .lst (dI ((l ++ [p]) ++ [q, p + q])), w]) := by
        have hl : (dI l ++ [D.int p, D.int q]).length < 1000000 := by rw [List.length_append, dI_len]; show l.length + 2 < _; omega
        have ep : (q : Int) + (p : Int) = ((p + q : Nat) : Int) := by omega
        have ee : dI l ++ [D.int p, D.int q] ++ [D.int (p + q : Nat)] = dI ((l ++ [p]) ++ [q, p + q]) := by rw [dI_app, dI_app, List.append_assoc, List.append_assoc]; rfl
        rw [es]
        simp only [L_steps_up_to_0, sSeq, sSet, sOwn, sRet, sRetN, sIf, sNil, sBk, sCt, sAsg, sPar2, sPar3, sPar2f, sPar3f, sAug, sApp, sExt, sSetI, sFor, gVar, gC, g1, g2, gF, gM, gCons, gNil, gT, gCh, gAnd, gOr, gNot, gIf, tAndG, tOrG, tNotG, gTup, gLst, gOn, gOs, gCut, toB, toI, toL, toT, iL, iT, iR1_eq, iR2_eq, toNat_nat, iZip, bName, bCons, bNil, bTup, dAdd, dAddS, dSub, dMul, dDiv, dMod, dPow, dShl, dShr, dAnd, dXor, dNeg, fI, fI0, dLt, dLe, dGt, dGe, dEq, dNe, dIs, dIsNot, isNon, dep, deps, deq, deqs, dIdx, dCut, fLen, fAbs, fTuple, fList, fSum, fAll, fAny, fMax2, fMin2, toInts, toBls, isTy, lstAt, mkR, dRev, atI_0, atI_1, atI_2, cYes, Option.bind_some, Option.bind_none, Option.bind, List.getElem?_cons_zero, List.getElem?_cons_succ, List.set_cons_zero, List.set_cons_succ, List.length_cons, List.length_nil, if_true, if_false, reduceIte, decide_true, decide_false, Nat.zero_le, Nat.reduceLeDiff, Nat.reduceLT, Nat.reduceAdd, beq_self_eq_true, Bool.not_true, Bool.not_false, Bool.true_and, Bool.false_and, Bool.and_true, Bool.and_false, Bool.and_self, Bool.or_self, Bool.true_or, Bool.false_or, Bool.not_eq_true, Bool.false_eq_true, and_self, true_and, and_true, atI_end2, atI_last2, hl, ep, ee]
      rw [whileF_step c s, l_steps n w f (l ++ [p]) q (p + q) (by omega) (by omega) (by omega) (by rw [List.length_append, List.length_singleton]; omega), stW, if_pos z]
    · have c : C_steps_up_to_0 [.int n, .lst (dI (l ++ [p, q])), w] = some false := by
        have hd : decide ((q : Int) ≤ (n : Int)) = false := decide_eq_false (by omega)
        rw [es]
        simp only [C_steps_up_to_0, sSeq, sSet, sOwn, sRet, sRetN, sIf, sNil, sBk, sCt, sAsg, sPar2, sPar3, sPar2f, sPar3f, sAug, sApp, sExt, sSetI, sFor, gVar, gC, g1, g2, gF, gM, gCons, gNil, gT, gCh, gAnd, gOr, gNot, gIf, tAndG, tOrG, tNotG, gTup, gLst, gOn, gOs, gCut, toB, toI, toL, toT, iL, iT, iR1_eq, iR2_eq, toNat_nat, iZip, bName, bCons, bNil, bTup, dAdd, dAddS, dSub, dMul, dDiv, dMod, dPow, dShl, dShr, dAnd, dXor, dNeg, fI, fI0, dLt, dLe, dGt, dGe, dEq, dNe, dIs, dIsNot, isNon, dep, deps, deq, deqs, dIdx, dCut, fLen, fAbs, fTuple, fList, fSum, fAll, fAny, fMax2, fMin2, toInts, toBls, isTy, lstAt, mkR, dRev, atI_0, atI_1, atI_2, cYes, Option.bind_some, Option.bind_none, Option.bind, List.getElem?_cons_zero, List.getElem?_cons_succ, List.set_cons_zero, List.set_cons_succ, List.length_cons, List.length_nil, if_true, if_false, reduceIte, decide_true, decide_false, Nat.zero_le, Nat.reduceLeDiff, Nat.reduceLT, Nat.reduceAdd, beq_self_eq_true, Bool.not_true, Bool.not_false, Bool.true_and, Bool.false_and, Bool.and_true, Bool.and_false, Bool.and_self, Bool.or_self, Bool.true_or, Bool.false_or, Bool.not_eq_true, Bool.false_eq_true, and_self, true_and, and_true, atI_end2, hd]
      rw [whileF_end c, stW, if_neg z]
def stL (n : Nat) : List Nat := (stW n 1000 [] 1 2).filter fun x => decide (x ≤ n)
theorem stW_len (n : Nat) : ∀ (f : Nat) (l : List Nat) (p q : Nat), (stW n f l p q).length ≤ l.length + f + 2
  | 0, l, p, q => by rw [stW, List.length_append]; show l.length + 2 ≤ _; omega
  | f + 1, l, p, q => by
    rw [stW]
    split
    · have := stW_len n f (l ++ [p]) q (p + q)
      rw [List.length_append, List.length_singleton] at this
      omega
    · rw [List.length_append]; show l.length + 2 ≤ _; omega
theorem filter_dI (p : Nat → Bool) (P : D → Bool) (h : ∀ x : Nat, P (.int x) = p x) : ∀ l : List Nat, (dI l).filter P = dI (l.filter p)
  | [] => rfl
  | x :: r => by
    show (D.int x :: dI r).filter P = _
    rw [List.filter_cons, List.filter_cons, h x, filter_dI p P h r]
    split <;> rfl
theorem mem_dI {l : List Nat} {d : D} (h : d ∈ dI l) : ∃ x : Nat, d = .int x := by
  obtain ⟨x, _, rfl⟩ := List.mem_map.mp h
  exact ⟨x, rfl⟩
def leD (n : Nat) : D → Bool
  | .int i => decide (i ≤ (n : Int))
  | _ => false
theorem e_steps (n : Nat) (h : n < 998) : m_steps_up_to [.int n] = some (.lst (dI (stL n))) := by
  have h1 := l_steps n .bot 1000 [] 1 2 (by omega) (by omega) (by omega) (by simp)
  have hc : compL (bName 2) K_steps_up_to_0 E_steps_up_to_0 [.int n, .lst (dI (stW n 1000 [] 1 2)), .bot] (dI (stW n 1000 [] 1 2)) = some (dI (stL n)) := by
    have hh := compL_filter (bd := bName 2) (c := K_steps_up_to_0) (e := E_steps_up_to_0) (δw := [.int n, .lst (dI (stW n 1000 [] 1 2)), .bot]) (leD n) id (l := dI (stW n 1000 [] 1 2)) fun d hd => by
      obtain ⟨x, rfl⟩ := mem_dI hd
      refine ⟨_, rfl, ?_, fun _ => ?_⟩
      · simp only [K_steps_up_to_0, sSeq, sSet, sOwn, sRet, sRetN, sIf, sNil, sBk, sCt, sAsg, sPar2, sPar3, sPar2f, sPar3f, sAug, sApp, sExt, sSetI, sFor, gVar, gC, g1, g2, gF, gM, gCons, gNil, gT, gCh, gAnd, gOr, gNot, gIf, tAndG, tOrG, tNotG, gTup, gLst, gOn, gOs, gCut, toB, toI, toL, toT, iL, iT, iR1_eq, iR2_eq, toNat_nat, iZip, bName, bCons, bNil, bTup, dAdd, dAddS, dSub, dMul, dDiv, dMod, dPow, dShl, dShr, dAnd, dXor, dNeg, fI, fI0, dLt, dLe, dGt, dGe, dEq, dNe, dIs, dIsNot, isNon, dep, deps, deq, deqs, dIdx, dCut, fLen, fAbs, fTuple, fList, fSum, fAll, fAny, fMax2, fMin2, toInts, toBls, isTy, lstAt, mkR, dRev, atI_0, atI_1, atI_2, cYes, Option.bind_some, Option.bind_none, Option.bind, List.getElem?_cons_zero, List.getElem?_cons_succ, List.set_cons_zero, List.set_cons_succ, List.length_cons, List.length_nil, if_true, if_false, reduceIte, decide_true, decide_false, Nat.zero_le, Nat.reduceLeDiff, Nat.reduceLT, Nat.reduceAdd, beq_self_eq_true, Bool.not_true, Bool.not_false, Bool.true_and, Bool.false_and, Bool.and_true, Bool.and_false, Bool.and_self, Bool.or_self, Bool.true_or, Bool.false_or, Bool.not_eq_true, Bool.false_eq_true, and_self, true_and, and_true, leD]
      · simp only [E_steps_up_to_0, sSeq, sSet, sOwn, sRet, sRetN, sIf, sNil, sBk, sCt, sAsg, sPar2, sPar3, sPar2f, sPar3f, sAug, sApp, sExt, sSetI, sFor, gVar, gC, g1, g2, gF, gM, gCons, gNil, gT, gCh, gAnd, gOr, gNot, gIf, tAndG, tOrG, tNotG, gTup, gLst, gOn, gOs, gCut, toB, toI, toL, toT, iL, iT, iR1_eq, iR2_eq, toNat_nat, iZip, bName, bCons, bNil, bTup, dAdd, dAddS, dSub, dMul, dDiv, dMod, dPow, dShl, dShr, dAnd, dXor, dNeg, fI, fI0, dLt, dLe, dGt, dGe, dEq, dNe, dIs, dIsNot, isNon, dep, deps, deq, deqs, dIdx, dCut, fLen, fAbs, fTuple, fList, fSum, fAll, fAny, fMax2, fMin2, toInts, toBls, isTy, lstAt, mkR, dRev, atI_0, atI_1, atI_2, cYes, Option.bind_some, Option.bind_none, Option.bind, List.getElem?_cons_zero, List.getElem?_cons_succ, List.set_cons_zero, List.set_cons_succ, List.length_cons, List.length_nil, if_true, if_false, reduceIte, decide_true, decide_false, Nat.zero_le, Nat.reduceLeDiff, Nat.reduceLT, Nat.reduceAdd, beq_self_eq_true, Bool.not_true, Bool.not_false, Bool.true_and, Bool.false_and, Bool.and_true, Bool.and_false, Bool.and_self, Bool.or_self, Bool.true_or, Bool.false_or, Bool.not_eq_true, Bool.false_eq_true, and_self, true_and, and_true, id]
    rw [List.map_id, filter_dI (fun x => decide (x ≤ n)) (leD n) (fun x => by show decide ((x : Int) ≤ (n : Int)) = decide (x ≤ n); simp)] at hh
    exact hh
  have hl : (dI (stW n 1000 [] 1 2)).length ≤ 1000000 := by
    have := stW_len n 1000 [] 1 2
    rw [dI_len]
    simp at this
    omega
  have hs : [D.int 1, D.int 2] = dI ([] ++ [1, 2]) := rfl
  have hs2 : (dI ([] ++ [1, 2])).length = 2 := rfl
  simp only [u_steps_up_to, F_steps_up_to, sSeq, sSet, sOwn, sRet, sRetN, sIf, sNil, sBk, sCt, sAsg, sPar2, sPar3, sPar2f, sPar3f, sAug, sApp, sExt, sSetI, sFor, gVar, gC, g1, g2, gF, gM, gCons, gNil, gT, gCh, gAnd, gOr, gNot, gIf, tAndG, tOrG, tNotG, gTup, gLst, gOn, gOs, gCut, toB, toI, toL, toT, iL, iT, iR1_eq, iR2_eq, toNat_nat, iZip, bName, bCons, bNil, bTup, dAdd, dAddS, dSub, dMul, dDiv, dMod, dPow, dShl, dShr, dAnd, dXor, dNeg, fI, fI0, dLt, dLe, dGt, dGe, dEq, dNe, dIs, dIsNot, isNon, dep, deps, deq, deqs, dIdx, dCut, fLen, fAbs, fTuple, fList, fSum, fAll, fAny, fMax2, fMin2, toInts, toBls, isTy, lstAt, mkR, dRev, atI_0, atI_1, atI_2, cYes, Option.bind_some, Option.bind_none, Option.bind, List.getElem?_cons_zero, List.getElem?_cons_succ, List.set_cons_zero, List.set_cons_succ, List.length_cons, List.length_nil, if_true, if_false, reduceIte, decide_true, decide_false, Nat.zero_le, Nat.reduceLeDiff, Nat.reduceLT, Nat.reduceAdd, beq_self_eq_true, Bool.not_true, Bool.not_false, Bool.true_and, Bool.false_and, Bool.and_true, Bool.and_false, Bool.and_self, Bool.or_self, Bool.true_or, Bool.false_or, Bool.not_eq_true, Bool.false_eq_true, and_self, true_and, and_true, hs, hs2, h1, gLc, wipeE, hl, hc]
/-! ### by_two -/
def grd : List Nat → Nat → List Nat → List Nat × Nat
  | [], left, acc => (acc, left)
  | o :: r, left, acc => if o ≤ left then grd r (left - o) (49 :: acc) else grd r left (48 :: acc)
theorem l_by_two (a : D) : ∀ (l : List Nat) (left : Nat) (acc : List Nat) (z : D), acc.length + l.length < 100000 → ∃ z', forL (bName 3) L_by_two_0 (dI l) [a, .int left, .str acc, z] = some (.nx [a, .int (grd l left acc).2, .str (grd l left acc).1, z'])
  | [], left, acc, z, _ => ⟨z, rfl⟩
  | o :: r, left, acc, z, hl => by
    have hl2 : 1 + acc.length ≤ 16777216 := by rw [List.length_cons] at hl; omega
    by_cases c : o ≤ left
    · obtain ⟨z', h⟩ := l_by_two a r (left - o) (49 :: acc) (.int o) (by rw [List.length_cons] at *; omega)
      refine ⟨z', ?_⟩
      have hd : decide ((o : Int) ≤ (left : Int)) = true := decide_eq_true (by omega)
      have he : (left : Int) - (o : Int) = ((left - o : Nat) : Int) := by omega
      have s : L_by_two_0 [a, .int left, .str acc, .int o] = some (.nx [a, .int (left - o : Nat), .str (49 :: acc), .int o]) := by
        simp only [L_by_two_0, sSeq, sSet, sOwn, sRet, sRetN, sIf, sNil, sBk, sCt, sAsg, sPar2, sPar3, sPar2f, sPar3f, sAug, sApp, sExt, sSetI, sFor, gVar, gC, g1, g2, gF, gM, gCons, gNil, gT, gCh, gAnd, gOr, gNot, gIf, tAndG, tOrG, tNotG, gTup, gLst, gOn, gOs, gCut, toB, toI, toL, toT, iL, iT, iR1_eq, iR2_eq, toNat_nat, iZip, bName, bCons, bNil, bTup, dAdd, dAddS, dSub, dMul, dDiv, dMod, dPow, dShl, dShr, dAnd, dXor, dNeg, fI, fI0, dLt, dLe, dGt, dGe, dEq, dNe, dIs, dIsNot, isNon, dep, deps, deq, deqs, dIdx, dCut, fLen, fAbs, fTuple, fList, fSum, fAll, fAny, fMax2, fMin2, toInts, toBls, isTy, lstAt, mkR, dRev, atI_0, atI_1, atI_2, cYes, Option.bind_some, Option.bind_none, Option.bind, List.getElem?_cons_zero, List.getElem?_cons_succ, List.set_cons_zero, List.set_cons_succ, List.length_cons, List.length_nil, if_true, if_false, reduceIte, decide_true, decide_false, Nat.zero_le, Nat.reduceLeDiff, Nat.reduceLT, Nat.reduceAdd, beq_self_eq_true, Bool.not_true, Bool.not_false, Bool.true_and, Bool.false_and, Bool.and_true, Bool.and_false, Bool.and_self, Bool.or_self, Bool.true_or, Bool.false_or, Bool.not_eq_true, Bool.false_eq_true, and_self, true_and, and_true, hd, hl2, he]
        rfl
      show forL (bName 3) L_by_two_0 (D.int o :: dI r) _ = _
      rw [forL_step rfl s, grd, if_pos c]
      exact h
    · obtain ⟨z', h⟩ := l_by_two a r left (48 :: acc) (.int o) (by rw [List.length_cons] at *; omega)
      refine ⟨z', ?_⟩
      have hd : decide ((o : Int) ≤ (left : Int)) = false := decide_eq_false (by omega)
      have he : (left : Int) - 0 = (left : Int) := by omega
      have s : L_by_two_0 [a, .int left, .str acc, .int o] = some (.nx [a, .int left, .str (48 :: acc), .int o]) := by
        simp only [L_by_two_0, sSeq, sSet, sOwn, sRet, sRetN, sIf, sNil, sBk, sCt, sAsg, sPar2, sPar3, sPar2f, sPar3f, sAug, sApp, sExt, sSetI, sFor, gVar, gC, g1, g2, gF, gM, gCons, gNil, gT, gCh, gAnd, gOr, gNot, gIf, tAndG, tOrG, tNotG, gTup, gLst, gOn, gOs, gCut, toB, toI, toL, toT, iL, iT, iR1_eq, iR2_eq, toNat_nat, iZip, bName, bCons, bNil, bTup, dAdd, dAddS, dSub, dMul, dDiv, dMod, dPow, dShl, dShr, dAnd, dXor, dNeg, fI, fI0, dLt, dLe, dGt, dGe, dEq, dNe, dIs, dIsNot, isNon, dep, deps, deq, deqs, dIdx, dCut, fLen, fAbs, fTuple, fList, fSum, fAll, fAny, fMax2, fMin2, toInts, toBls, isTy, lstAt, mkR, dRev, atI_0, atI_1, atI_2, cYes, Option.bind_some, Option.bind_none, Option.bind, List.getElem?_cons_zero, List.getElem?_cons_succ, List.set_cons_zero, List.set_cons_succ, List.length_cons, List.length_nil, if_true, if_false, reduceIte, decide_true, decide_false, Nat.zero_le, Nat.reduceLeDiff, Nat.reduceLT, Nat.reduceAdd, beq_self_eq_true, Bool.not_true, Bool.not_false, Bool.true_and, Bool.false_and, Bool.and_true, Bool.and_false, Bool.and_self, Bool.or_self, Bool.true_or, Bool.false_or, Bool.not_eq_true, Bool.false_eq_true, and_self, true_and, and_true, hd, hl2, he]
        rfl
      show forL (bName 3) L_by_two_0 (D.int o :: dI r) _ = _
      rw [forL_step rfl s, grd, if_neg c]
      exact h
def txL (n : Nat) : List Nat := (grd (stL (n + 1)).reverse (n + 1) []).1
theorem grd_len : ∀ (l : List Nat) (left : Nat) (acc : List Nat), (grd l left acc).1.length = acc.length + l.length
  | [], left, acc => rfl
  | o :: r, left, acc => by
    rw [grd]
    split <;> rw [grd_len, List.length_cons, List.length_cons] <;> omega
theorem stL_len (n : Nat) : (stL n).length ≤ 1002 := by
  have := stW_len n 1000 [] 1 2
  have h2 : (stL n).length ≤ (stW n 1000 [] 1 2).length := List.length_filter_le _ _
  simp at this
  omega
theorem dI_rev (l : List Nat) : (dI l).reverse = dI l.reverse := by unfold dI; rw [List.map_reverse]
theorem e_by_two (n : Nat) (h : n < 997) : m_by_two [.int n] = some (.str (txL n ++ [49])) := by
  have hs := stL_len (n + 1)
  obtain ⟨z', h1⟩ := l_by_two (.int n) (stL (n + 1)).reverse (n + 1) [] .bot (by rw [List.length_reverse]; simp; omega)
  have e1 : (n : Int) + 1 = ((n + 1 : Nat) : Int) := by omega
  have hl : (txL n).length ≤ 1002 := by unfold txL; rw [grd_len, List.length_reverse]; simp; omega
  have e2 := app_str (txL n) [49] (by rw [List.length_singleton]; omega)
  simp only [u_by_two, F_by_two, sSeq, sSet, sOwn, sRet, sRetN, sIf, sNil, sBk, sCt, sAsg, sPar2, sPar3, sPar2f, sPar3f, sAug, sApp, sExt, sSetI, sFor, gVar, gC, g1, g2, gF, gM, gCons, gNil, gT, gCh, gAnd, gOr, gNot, gIf, tAndG, tOrG, tNotG, gTup, gLst, gOn, gOs, gCut, toB, toI, toL, toT, iL, iT, iR1_eq, iR2_eq, toNat_nat, iZip, bName, bCons, bNil, bTup, dAddS, dSub, dPow, dShl, dShr, dAnd, dXor, dNeg, fI0, dLt, dLe, dGt, dGe, dEq, dNe, dIs, dIsNot, isNon, dep, deps, deq, deqs, dIdx, dCut, fLen, fAbs, fTuple, fList, fSum, fAll, fAny, fMax2, fMin2, toInts, toBls, isTy, lstAt, mkR, dRev, atI_0, atI_1, atI_2, cYes, Option.bind_some, Option.bind_none, Option.bind, List.getElem?_cons_zero, List.getElem?_cons_succ, List.set_cons_zero, List.set_cons_succ, List.length_cons, List.length_nil, if_true, if_false, reduceIte, decide_true, decide_false, Nat.zero_le, Nat.reduceLeDiff, Nat.reduceLT, Nat.reduceAdd, beq_self_eq_true, Bool.not_true, Bool.not_false, Bool.true_and, Bool.false_and, Bool.and_true, Bool.and_false, Bool.and_self, Bool.or_self, Bool.true_or, Bool.false_or, Bool.not_eq_true, Bool.false_eq_true, and_self, true_and, and_true, dAdd_int, e1, e_steps (n + 1) (by omega), dI_rev, h1]
  exact congrArg (fun o => mkR (o.bind fun d => some (Out.ret d))) e2
def dec : List Nat → Nat → Nat → Nat → Nat
  | [], f, _, _ => f
  | c :: r, f, a, b => dec r (if c = 49 then f + a else f) b (a + b)
def occ1 (x : List Nat) : Option Nat := (occs x [49, 49] 0 1).head?
def twoOk (n : Nat) : Bool := !subL [49, 49] (txL n) && (occ1 (txL n ++ [49] ++ [48, 49]) == some ((txL n).length - 1)) && decide (1 ≤ (txL n).length) && decide (dec (txL n) 0 1 2 = n + 1) && (occ1 (txL n) == none)
theorem two_all : (List.range 997).all twoOk = true := by decide +kernel
theorem l_dec (a b c : D) : ∀ (l : List Nat) (f p q : Nat) (z : D), ∃ z' p' q', forL (bName 6) L_read_by_two_0 (l.map fun c => .str [c]) [a, b, c, .int f, .int p, .int q, z] = some (.nx [a, b, c, .int (dec l f p q), p', q', z'])
  | [], f, p, q, z => ⟨z, _, _, rfl⟩
  | x :: r, f, p, q, z => by
    obtain ⟨z', p', q', h⟩ := l_dec a b c r (if x = 49 then f + p else f) q (p + q) (.str [x])
    refine ⟨z', p', q', ?_⟩
    have s : L_read_by_two_0 [a, b, c, .int f, .int p, .int q, .str [x]] = some (.nx [a, b, c, .int (if x = 49 then f + p else f : Nat), .int q, .int (p + q : Nat), .str [x]]) := by
      by_cases e : x = 49
      · have he : ([x] == [49]) = true := by rw [e]; rfl
        rw [if_pos e]
        simp only [L_read_by_two_0, sSeq, sSet, sOwn, sRet, sRetN, sIf, sNil, sBk, sCt, sAsg, sPar2, sPar3, sPar2f, sPar3f, sAug, sApp, sExt, sSetI, sFor, gVar, gC, g1, g2, gF, gM, gCons, gNil, gT, gCh, gAnd, gOr, gNot, gIf, tAndG, tOrG, tNotG, gTup, gLst, gOn, gOs, gCut, toB, toI, toL, toT, iL, iT, iR1_eq, iR2_eq, toNat_nat, iZip, bName, bCons, bNil, bTup, dAdd, dAddS, dSub, dMul, dDiv, dMod, dPow, dShl, dShr, dAnd, dXor, dNeg, fI, fI0, dLt, dLe, dGt, dGe, dEq, dNe, dIs, dIsNot, isNon, dep, deps, deq, deqs, dIdx, dCut, fLen, fAbs, fTuple, fList, fSum, fAll, fAny, fMax2, fMin2, toInts, toBls, isTy, lstAt, mkR, dRev, atI_0, atI_1, atI_2, cYes, Option.bind_some, Option.bind_none, Option.bind, List.getElem?_cons_zero, List.getElem?_cons_succ, List.set_cons_zero, List.set_cons_succ, List.length_cons, List.length_nil, if_true, if_false, reduceIte, decide_true, decide_false, Nat.zero_le, Nat.reduceLeDiff, Nat.reduceLT, Nat.reduceAdd, beq_self_eq_true, Bool.not_true, Bool.not_false, Bool.true_and, Bool.false_and, Bool.and_true, Bool.and_false, Bool.and_self, Bool.or_self, Bool.true_or, Bool.false_or, Bool.not_eq_true, Bool.false_eq_true, and_self, true_and, and_true, he]
        rfl
      · have he : ([x] == [49]) = false := by simp [e]
        rw [if_neg e]
        simp only [L_read_by_two_0, sSeq, sSet, sOwn, sRet, sRetN, sIf, sNil, sBk, sCt, sAsg, sPar2, sPar3, sPar2f, sPar3f, sAug, sApp, sExt, sSetI, sFor, gVar, gC, g1, g2, gF, gM, gCons, gNil, gT, gCh, gAnd, gOr, gNot, gIf, tAndG, tOrG, tNotG, gTup, gLst, gOn, gOs, gCut, toB, toI, toL, toT, iL, iT, iR1_eq, iR2_eq, toNat_nat, iZip, bName, bCons, bNil, bTup, dAdd, dAddS, dSub, dMul, dDiv, dMod, dPow, dShl, dShr, dAnd, dXor, dNeg, fI, fI0, dLt, dLe, dGt, dGe, dEq, dNe, dIs, dIsNot, isNon, dep, deps, deq, deqs, dIdx, dCut, fLen, fAbs, fTuple, fList, fSum, fAll, fAny, fMax2, fMin2, toInts, toBls, isTy, lstAt, mkR, dRev, atI_0, atI_1, atI_2, cYes, Option.bind_some, Option.bind_none, Option.bind, List.getElem?_cons_zero, List.getElem?_cons_succ, List.set_cons_zero, List.set_cons_succ, List.length_cons, List.length_nil, if_true, if_false, reduceIte, decide_true, decide_false, Nat.zero_le, Nat.reduceLeDiff, Nat.reduceLT, Nat.reduceAdd, beq_self_eq_true, Bool.not_true, Bool.not_false, Bool.true_and, Bool.false_and, Bool.and_true, Bool.and_false, Bool.and_self, Bool.or_self, Bool.true_or, Bool.false_or, Bool.not_eq_true, Bool.false_eq_true, and_self, true_and, and_true, he]
        rw [Int.add_zero]
        rfl
    rw [List.map_cons, forL_step rfl s, dec]
    exact h
theorem find_two (x : List Nat) : m_str_find (.str x) [.str [49, 49], .int 0] = some (.int (match occ1 x with | some i => (i : Int) | none => -1)) := by
  have h : PySem.fromIndex x.length 0 = 0 := fromIndex_nat x.length 0
  unfold m_str_find occ1
  simp only [h]
  cases occs x [49, 49] 0 1 with
  | nil => rfl
  | cons i r => rfl
theorem r_by_two (x rest : List Nat) (k : Nat) (hk : 1 ≤ x.length) (ho : occ1 (x ++ rest) = some (x.length - 1)) (hn : dec x 0 1 2 = k + 1) : m_read_by_two [.str (x ++ rest), .int 0] = some (.tup [.int k, .int (x.length + 1 : Nat)]) := by
  have hf := find_two (x ++ rest)
  rw [ho] at hf
  obtain ⟨z', p', q', h1⟩ := l_dec (.str (x ++ rest)) (.int 0) (.int (x.length - 1 : Nat)) x 0 1 2 .bot
  rw [hn] at h1
  have hd : decide (((x.length - 1 : Nat) : Int) < 0) = false := decide_eq_false (by omega)
  have e1 : ((x.length - 1 : Nat) : Int) + 1 = ((x.length : Nat) : Int) := by omega
  have e2 : cut (x ++ rest) (some 0) (some ((x.length : Nat) : Int)) = x := by
    have := cut_nat (x ++ rest) 0 x.length
    rw [List.drop_zero, Nat.sub_zero, List.take_left'] at this
    · exact this
    · rfl
  have e3 : ((k + 1 : Nat) : Int) - 1 = (k : Int) := by omega
  have e4 : ((x.length - 1 : Nat) : Int) + 2 = ((x.length + 1 : Nat) : Int) := by omega
  rw [show ((0 : Nat) : Int) = 0 from rfl, show ((1 : Nat) : Int) = 1 from rfl, show ((2 : Nat) : Int) = 2 from rfl] at h1
  simp only [u_read_by_two, F_read_by_two, sSeq, sSet, sOwn, sRet, sRetN, sIf, sNil, sBk, sCt, sAsg, sPar2, sPar3, sPar2f, sPar3f, sAug, sApp, sExt, sSetI, sFor, gVar, gC, g1, g2, gF, gM, gCons, gNil, gT, gCh, gAnd, gOr, gNot, gIf, tAndG, tOrG, tNotG, gTup, gLst, gOn, gOs, gCut, toB, toI, toL, toT, iL, iT, iR1_eq, iR2_eq, toNat_nat, iZip, bName, bCons, bNil, bTup, dAdd, dAddS, dSub, dMul, dDiv, dMod, dPow, dShl, dShr, dAnd, dXor, dNeg, fI, fI0, dLt, dLe, dGt, dGe, dEq, dNe, dIs, dIsNot, isNon, dep, deps, deq, deqs, dIdx, dCut, fLen, fAbs, fTuple, fList, fSum, fAll, fAny, fMax2, fMin2, toInts, toBls, isTy, lstAt, mkR, dRev, atI_0, atI_1, atI_2, cYes, Option.bind_some, Option.bind_none, Option.bind, List.getElem?_cons_zero, List.getElem?_cons_succ, List.set_cons_zero, List.set_cons_succ, List.length_cons, List.length_nil, if_true, if_false, reduceIte, decide_true, decide_false, Nat.zero_le, Nat.reduceLeDiff, Nat.reduceLT, Nat.reduceAdd, beq_self_eq_true, Bool.not_true, Bool.not_false, Bool.true_and, Bool.false_and, Bool.and_true, Bool.and_false, Bool.and_self, Bool.or_self, Bool.true_or, Bool.false_or, Bool.not_eq_true, Bool.false_eq_true, and_self, true_and, and_true, iS, hf, hd, e1, e2, h1, e3, e4]
theorem r_by_two_no (x : List Nat) (ho : occ1 x = none) : m_read_by_two [.str x, .int 0] = some .non := by
  have hf := find_two x
  rw [ho] at hf
  have hd : decide ((-1 : Int) < 0) = true := rfl
  simp only [u_read_by_two, F_read_by_two, sSeq, sSet, sOwn, sRet, sRetN, sIf, sNil, sBk, sCt, sAsg, sPar2, sPar3, sPar2f, sPar3f, sAug, sApp, sExt, sSetI, sFor, gVar, gC, g1, g2, gF, gM, gCons, gNil, gT, gCh, gAnd, gOr, gNot, gIf, tAndG, tOrG, tNotG, gTup, gLst, gOn, gOs, gCut, toB, toI, toL, toT, iL, iT, iR1_eq, iR2_eq, toNat_nat, iZip, bName, bCons, bNil, bTup, dAdd, dAddS, dSub, dMul, dDiv, dMod, dPow, dShl, dShr, dAnd, dXor, dNeg, fI, fI0, dLt, dLe, dGt, dGe, dEq, dNe, dIs, dIsNot, isNon, dep, deps, deq, deqs, dIdx, dCut, fLen, fAbs, fTuple, fList, fSum, fAll, fAny, fMax2, fMin2, toInts, toBls, isTy, lstAt, mkR, dRev, atI_0, atI_1, atI_2, cYes, Option.bind_some, Option.bind_none, Option.bind, List.getElem?_cons_zero, List.getElem?_cons_succ, List.set_cons_zero, List.set_cons_succ, List.length_cons, List.length_nil, if_true, if_false, reduceIte, decide_true, decide_false, Nat.zero_le, Nat.reduceLeDiff, Nat.reduceLT, Nat.reduceAdd, beq_self_eq_true, Bool.not_true, Bool.not_false, Bool.true_and, Bool.false_and, Bool.and_true, Bool.and_false, Bool.and_self, Bool.or_self, Bool.true_or, Bool.false_or, Bool.not_eq_true, Bool.false_eq_true, and_self, true_and, and_true, hf, hd]
/-! ### rows of bytes -/
def byt : Nat → Nat → List Nat
  | 0, n => [n]
  | f + 1, n => if 128 ≤ n then (n % 128 + 128) :: byt f (n / 128) else [n]
theorem l_byte_rows : ∀ (f n : Nat) (acc : List Nat), n < 128 ^ f → 1 ≤ f → acc.length + f < 10000 → ∃ l x, whileF C_byte_rows_0 L_byte_rows_0 f [.int n, .lst (dI acc)] = some (.nx [.int (x : Nat), .lst (dI (acc ++ l))]) ∧ byt f n = l ++ [x] ∧ l.length < f
  | 0, n, acc, _, h, _ => absurd h (by decide)
  | f + 1, n, acc, h, h1, h2 => by
    by_cases z : 128 ≤ n
    · by_cases f0 : f = 0
      · subst f0
        omega
      · obtain ⟨l, x, e, e2, e3⟩ := l_byte_rows f (n / 128) (acc ++ [n % 128 + 128]) (by rw [Nat.pow_succ] at h; omega) (by omega) (by rw [List.length_append, List.length_singleton]; omega)
        have hc : C_byte_rows_0 [.int n, .lst (dI acc)] = some true := by
          have hd : decide ((128 : Int) ≤ (n : Int)) = true := decide_eq_true (by omega)
          simp only [C_byte_rows_0, sSeq, sSet, sOwn, sRet, sRetN, sIf, sNil, sBk, sCt, sAsg, sPar2, sPar3, sPar2f, sPar3f, sAug, sApp, sExt, sSetI, sFor, gVar, gC, g1, g2, gF, gM, gCons, gNil, gT, gCh, gAnd, gOr, gNot, gIf, tAndG, tOrG, tNotG, gTup, gLst, gOn, gOs, gCut, toB, toI, toL, toT, iL, iT, iR1_eq, iR2_eq, toNat_nat, iZip, bName, bCons, bNil, bTup, dAdd, dAddS, dSub, dMul, dDiv, dMod, dPow, dShl, dShr, dAnd, dXor, dNeg, fI, fI0, dLt, dLe, dGt, dGe, dEq, dNe, dIs, dIsNot, isNon, dep, deps, deq, deqs, dIdx, dCut, fLen, fAbs, fTuple, fList, fSum, fAll, fAny, fMax2, fMin2, toInts, toBls, isTy, lstAt, mkR, dRev, atI_0, atI_1, atI_2, cYes, Option.bind_some, Option.bind_none, Option.bind, List.getElem?_cons_zero, List.getElem?_cons_succ, List.set_cons_zero, List.set_cons_succ, List.length_cons, List.length_nil, if_true, if_false, reduceIte, decide_true, decide_false, Nat.zero_le, Nat.reduceLeDiff, Nat.reduceLT, Nat.reduceAdd, beq_self_eq_true, Bool.not_true, Bool.not_false, Bool.true_and, Bool.false_and, Bool.and_true, Bool.and_false, Bool.and_self, Bool.or_self, Bool.true_or, Bool.false_or, Bool.not_eq_true, Bool.false_eq_true, and_self, true_and, and_true, hd]
        have s : L_byte_rows_0 [.int n, .lst (dI acc)] = some (.nx [.int (n / 128 : Nat), .lst (dI (acc ++ [n % 128 + 128]))]) := by
          have hl : (dI acc).length < 1000000 := by rw [dI_len]; omega
          have e4 := mod_nat n 128 (by decide)
          have e5 := div_nat n 128 (by decide) (by decide)
          rw [show ((128 : Nat) : Int) = 128 from rfl] at e4 e5
          rw [dI_app]
          simp only [L_byte_rows_0, sSeq, sSet, sOwn, sRet, sRetN, sIf, sNil, sBk, sCt, sAsg, sPar2, sPar3, sPar2f, sPar3f, sAug, sApp, sExt, sSetI, sFor, gVar, gC, g1, g2, gF, gM, gCons, gNil, gT, gCh, gAnd, gOr, gNot, gIf, tAndG, tOrG, tNotG, gTup, gLst, gOn, gOs, gCut, toB, toI, toL, toT, iL, iT, iR1_eq, iR2_eq, toNat_nat, iZip, bName, bCons, bNil, bTup, dAddS, dSub, dPow, dShl, dShr, dAnd, dXor, dNeg, fI0, dLt, dLe, dGt, dGe, dEq, dNe, dIs, dIsNot, isNon, dep, deps, deq, deqs, dIdx, dCut, fLen, fAbs, fTuple, fList, fSum, fAll, fAny, fMax2, fMin2, toInts, toBls, isTy, lstAt, mkR, dRev, atI_0, atI_1, atI_2, cYes, Option.bind_some, Option.bind_none, Option.bind, List.getElem?_cons_zero, List.getElem?_cons_succ, List.set_cons_zero, List.set_cons_succ, List.length_cons, List.length_nil, if_true, if_false, reduceIte, decide_true, decide_false, Nat.zero_le, Nat.reduceLeDiff, Nat.reduceLT, Nat.reduceAdd, beq_self_eq_true, Bool.not_true, Bool.not_false, Bool.true_and, Bool.false_and, Bool.and_true, Bool.and_false, Bool.and_self, Bool.or_self, Bool.true_or, Bool.false_or, Bool.not_eq_true, Bool.false_eq_true, and_self, true_and, and_true, dAdd_int, e4, e5, hl]
          rfl
        refine ⟨(n % 128 + 128) :: l, x, ?_, ?_, by rw [List.length_cons]; omega⟩
        · rw [whileF_step hc s, e, List.append_assoc]; rfl
        · rw [byt, if_pos z, e2]; rfl
    · have hc : C_byte_rows_0 [.int n, .lst (dI acc)] = some false := by
        have hd : decide ((128 : Int) ≤ (n : Int)) = false := decide_eq_false (by omega)
        simp only [C_byte_rows_0, sSeq, sSet, sOwn, sRet, sRetN, sIf, sNil, sBk, sCt, sAsg, sPar2, sPar3, sPar2f, sPar3f, sAug, sApp, sExt, sSetI, sFor, gVar, gC, g1, g2, gF, gM, gCons, gNil, gT, gCh, gAnd, gOr, gNot, gIf, tAndG, tOrG, tNotG, gTup, gLst, gOn, gOs, gCut, toB, toI, toL, toT, iL, iT, iR1_eq, iR2_eq, toNat_nat, iZip, bName, bCons, bNil, bTup, dAdd, dAddS, dSub, dMul, dDiv, dMod, dPow, dShl, dShr, dAnd, dXor, dNeg, fI, fI0, dLt, dLe, dGt, dGe, dEq, dNe, dIs, dIsNot, isNon, dep, deps, deq, deqs, dIdx, dCut, fLen, fAbs, fTuple, fList, fSum, fAll, fAny, fMax2, fMin2, toInts, toBls, isTy, lstAt, mkR, dRev, atI_0, atI_1, atI_2, cYes, Option.bind_some, Option.bind_none, Option.bind, List.getElem?_cons_zero, List.getElem?_cons_succ, List.set_cons_zero, List.set_cons_succ, List.length_cons, List.length_nil, if_true, if_false, reduceIte, decide_true, decide_false, Nat.zero_le, Nat.reduceLeDiff, Nat.reduceLT, Nat.reduceAdd, beq_self_eq_true, Bool.not_true, Bool.not_false, Bool.true_and, Bool.false_and, Bool.and_true, Bool.and_false, Bool.and_self, Bool.or_self, Bool.true_or, Bool.false_or, Bool.not_eq_true, Bool.false_eq_true, and_self, true_and, and_true, hd]
      exact ⟨[], n, by rw [whileF_end hc, List.append_nil], by rw [byt, if_neg z]; rfl, by simp⟩
theorem byt_fuel : ∀ (f g n : Nat), n < 128 ^ f → n < 128 ^ g → 1 ≤ f → 1 ≤ g → byt f n = byt g n
  | 0, _, _, _, _, h, _ => absurd h (by decide)
  | _, 0, _, _, _, _, h => absurd h (by decide)
  | f + 1, g + 1, n, h, h', _, _ => by
    rw [byt, byt]
    by_cases z : 128 ≤ n
    · rw [if_pos z, if_pos z]
      by_cases f0 : f = 0
      · subst f0; omega
      · by_cases g0 : g = 0
        · subst g0; omega
        · rw [byt_fuel f g (n / 128) (by rw [Nat.pow_succ] at h; omega) (by rw [Nat.pow_succ] at h'; omega) (by omega) (by omega)]
    · rw [if_neg z, if_neg z]
end G03
namespace G03
open PySem VS
theorem pow128 {n : Nat} (h : n < 2000000) : n < 128 ^ 3 ∧ n < 128 ^ 1000 := ⟨by omega, Nat.lt_of_lt_of_le (show n < 128 ^ 3 by omega) (Nat.pow_le_pow_right (Nat.zero_lt_succ 127) (Nat.le_add_left 3 997))⟩
def bytL (n : Nat) : List Nat := byt 3 n
theorem e_byte_rows (n : Nat) (h : n < 2000000) : m_byte_rows [.int n] = some (.tup (dI (bytL n))) := by
  obtain ⟨l, x, e, e2, e3⟩ := l_byte_rows 1000 n [] (pow128 h).2 (by decide) (by decide)
  have eb : bytL n = l ++ [x] := (byt_fuel 3 1000 n (pow128 h).1 (pow128 h).2 (by decide) (by decide)).trans e2
  have hl : (dI l).length + 1 ≤ 16777216 := by rw [dI_len]; omega
  have ea : dI l ++ [D.int x] = dI (bytL n) := by rw [eb, dI_app]; rfl
  have e0 : D.lst [] = .lst (dI []) := rfl
  rw [List.nil_append] at e
  simp only [u_byte_rows, F_byte_rows, sSeq, sSet, sOwn, sRet, sRetN, sIf, sNil, sBk, sCt, sAsg, sPar2, sPar3, sPar2f, sPar3f, sAug, sApp, sExt, sSetI, sFor, gVar, gC, g1, g2, gF, gM, gCons, gNil, gT, gCh, gAnd, gOr, gNot, gIf, tAndG, tOrG, tNotG, gTup, gLst, gOn, gOs, gCut, toB, toI, toL, toT, iL, iT, iR1_eq, iR2_eq, toNat_nat, iZip, bName, bCons, bNil, bTup, dAdd, dAddS, dSub, dMul, dDiv, dMod, dPow, dShl, dShr, dAnd, dXor, dNeg, fI, fI0, dLt, dLe, dGt, dGe, dEq, dNe, dIs, dIsNot, isNon, dep, deps, deq, deqs, dIdx, dCut, fLen, fAbs, fTuple, fList, fSum, fAll, fAny, fMax2, fMin2, toInts, toBls, isTy, lstAt, mkR, dRev, atI_0, atI_1, atI_2, cYes, Option.bind_some, Option.bind_none, Option.bind, List.getElem?_cons_zero, List.getElem?_cons_succ, List.set_cons_zero, List.set_cons_succ, List.length_cons, List.length_nil, if_true, if_false, reduceIte, decide_true, decide_false, Nat.zero_le, Nat.reduceLeDiff, Nat.reduceLT, Nat.reduceAdd, beq_self_eq_true, Bool.not_true, Bool.not_false, Bool.true_and, Bool.false_and, Bool.and_true, Bool.and_false, Bool.and_self, Bool.or_self, Bool.true_or, Bool.false_or, Bool.not_eq_true, Bool.false_eq_true, and_self, true_and, and_true, e0, e, hl, ea]
/-- one turn of the reader's loop: a byte that is not the last -/
theorem rb_more (row : List D) (found : List Nat) (now by' i v : Nat) (h : row[i]? = some (.int v)) (h1 : 128 ≤ v) (h2 : v < 256) : L_read_byte_rows_0 [.tup row, .lst (dI found), .int now, .int by', .int i] = some (.nx [.tup row, .lst (dI found), .int (now + v % 128 * by' : Nat), .int (by' * 128 : Nat), .int i]) := by
  have hx : dIdx (.tup row) (.int i) = some (.int v) := by show L2.atI row (i : Int) = _; rw [atI_nat']; exact h
  have hb : m_is_below [.int v, .int 256] = some (.bl true) := by
    have d1 : decide ((0 : Int) ≤ (v : Int)) = true := decide_eq_true (by omega)
    have d2 : decide ((v : Int) < 256) = true := decide_eq_true (by omega)
    simp only [u_is_below, F_is_below, u_is_number, F_is_number, sSeq, sSet, sOwn, sRet, sRetN, sIf, sNil, sBk, sCt, sAsg, sPar2, sPar3, sPar2f, sPar3f, sAug, sApp, sExt, sSetI, sFor, gVar, gC, g1, g2, gF, gM, gCons, gNil, gT, gCh, gAnd, gOr, gNot, gIf, tAndG, tOrG, tNotG, gTup, gLst, gOn, gOs, gCut, toB, toI, toL, toT, iL, iT, iR1_eq, iR2_eq, toNat_nat, iZip, bName, bCons, bNil, bTup, dAdd, dAddS, dSub, dMul, dDiv, dMod, dPow, dShl, dShr, dAnd, dXor, dNeg, fI, fI0, dLt, dLe, dGt, dGe, dEq, dNe, dIs, dIsNot, isNon, dep, deps, deq, deqs, dIdx, dCut, fLen, fAbs, fTuple, fList, fSum, fAll, fAny, fMax2, fMin2, toInts, toBls, isTy, lstAt, mkR, dRev, atI_0, atI_1, atI_2, cYes, Option.bind_some, Option.bind_none, Option.bind, List.getElem?_cons_zero, List.getElem?_cons_succ, List.set_cons_zero, List.set_cons_succ, List.length_cons, List.length_nil, if_true, if_false, reduceIte, decide_true, decide_false, Nat.zero_le, Nat.reduceLeDiff, Nat.reduceLT, Nat.reduceAdd, beq_self_eq_true, Bool.not_true, Bool.not_false, Bool.true_and, Bool.false_and, Bool.and_true, Bool.and_false, Bool.and_self, Bool.or_self, Bool.true_or, Bool.false_or, Bool.not_eq_true, Bool.false_eq_true, and_self, true_and, and_true, d1, d2]
  have hz : ((v : Int) == 0) = false := by simp; omega
  have e4 := mod_nat v 128 (by decide)
  rw [show ((128 : Nat) : Int) = 128 from rfl] at e4
  have hc : cMul ((v % 128 : Nat) : Int) (by' : Int) = true := cMul_l (by omega) (by omega)
  have hc2 : cMul (by' : Int) 128 = true := cMul_r (by decide) (by decide)
  have hd : decide ((v : Int) < 128) = false := decide_eq_false (by omega)
  have e5 : (now : Int) + ((v % 128 : Nat) : Int) * (by' : Int) = ((now + v % 128 * by' : Nat) : Int) := by rw [Int.natCast_add, Int.natCast_mul]
  have e6 : (by' : Int) * 128 = ((by' * 128 : Nat) : Int) := by rw [Int.natCast_mul]; rfl
  simp only [L_read_byte_rows_0, sSeq, sSet, sOwn, sRet, sRetN, sIf, sNil, sBk, sCt, sAsg, sPar2, sPar3, sPar2f, sPar3f, sAug, sApp, sExt, sSetI, sFor, gVar, gC, g1, g2, gF, gM, gCons, gNil, gT, gCh, gAnd, gOr, gNot, gIf, tAndG, tOrG, tNotG, gTup, gLst, gOn, gOs, gCut, toB, toI, toL, toT, iL, iT, iR1_eq, iR2_eq, toNat_nat, iZip, bName, bCons, bNil, bTup, dAddS, dSub, dPow, dShl, dShr, dAnd, dXor, dNeg, fI0, dLt, dLe, dGt, dGe, dEq, dNe, dIs, dIsNot, isNon, dep, deps, deq, deqs, dCut, fLen, fAbs, fTuple, fList, fSum, fAll, fAny, fMax2, fMin2, toInts, toBls, isTy, lstAt, mkR, dRev, atI_0, atI_1, atI_2, cYes, Option.bind_some, Option.bind_none, Option.bind, List.getElem?_cons_zero, List.getElem?_cons_succ, List.set_cons_zero, List.set_cons_succ, List.length_cons, List.length_nil, if_true, if_false, reduceIte, decide_true, decide_false, Nat.zero_le, Nat.reduceLeDiff, Nat.reduceLT, Nat.reduceAdd, beq_self_eq_true, Bool.not_true, Bool.not_false, Bool.true_and, Bool.false_and, Bool.and_true, Bool.and_false, Bool.and_self, Bool.or_self, Bool.true_or, Bool.false_or, Bool.not_eq_true, Bool.false_eq_true, and_self, true_and, and_true, dAdd_int, hx, hb, hz, e4, hc, hc2, hd, e5, e6, dMul]
theorem rb_last (row : List D) (found : List Nat) (now by' i v : Nat) (h : row[i]? = some (.int v)) (h1 : v < 128) (h2 : v ≠ 0 ∨ by' = 1) (hf : found.length < 1000) : L_read_byte_rows_0 [.tup row, .lst (dI found), .int now, .int by', .int i] = some (.nx [.tup row, .lst (dI (found ++ [now + v * by'])), .int 0, .int 1, .int i]) := by
  have hx : dIdx (.tup row) (.int i) = some (.int v) := by show L2.atI row (i : Int) = _; rw [atI_nat']; exact h
  have hb : m_is_below [.int v, .int 256] = some (.bl true) := by
    have d1 : decide ((0 : Int) ≤ (v : Int)) = true := decide_eq_true (by omega)
    have d2 : decide ((v : Int) < 256) = true := decide_eq_true (by omega)
    simp only [u_is_below, F_is_below, u_is_number, F_is_number, sSeq, sSet, sOwn, sRet, sRetN, sIf, sNil, sBk, sCt, sAsg, sPar2, sPar3, sPar2f, sPar3f, sAug, sApp, sExt, sSetI, sFor, gVar, gC, g1, g2, gF, gM, gCons, gNil, gT, gCh, gAnd, gOr, gNot, gIf, tAndG, tOrG, tNotG, gTup, gLst, gOn, gOs, gCut, toB, toI, toL, toT, iL, iT, iR1_eq, iR2_eq, toNat_nat, iZip, bName, bCons, bNil, bTup, dAdd, dAddS, dSub, dMul, dDiv, dMod, dPow, dShl, dShr, dAnd, dXor, dNeg, fI, fI0, dLt, dLe, dGt, dGe, dEq, dNe, dIs, dIsNot, isNon, dep, deps, deq, deqs, dIdx, dCut, fLen, fAbs, fTuple, fList, fSum, fAll, fAny, fMax2, fMin2, toInts, toBls, isTy, lstAt, mkR, dRev, atI_0, atI_1, atI_2, cYes, Option.bind_some, Option.bind_none, Option.bind, List.getElem?_cons_zero, List.getElem?_cons_succ, List.set_cons_zero, List.set_cons_succ, List.length_cons, List.length_nil, if_true, if_false, reduceIte, decide_true, decide_false, Nat.zero_le, Nat.reduceLeDiff, Nat.reduceLT, Nat.reduceAdd, beq_self_eq_true, Bool.not_true, Bool.not_false, Bool.true_and, Bool.false_and, Bool.and_true, Bool.and_false, Bool.and_self, Bool.or_self, Bool.true_or, Bool.false_or, Bool.not_eq_true, Bool.false_eq_true, and_self, true_and, and_true, d1, d2]
  have e4 := mod_nat v 128 (by decide)
  rw [show ((128 : Nat) : Int) = 128 from rfl, Nat.mod_eq_of_lt h1] at e4
  have hc : cMul (v : Int) (by' : Int) = true := cMul_l (by omega) (by omega)
  have hc2 : cMul (by' : Int) 128 = true := cMul_r (by decide) (by decide)
  have hd : decide ((v : Int) < 128) = true := decide_eq_true (by omega)
  have e5 : (now : Int) + (v : Int) * (by' : Int) = ((now + v * by' : Nat) : Int) := by rw [Int.natCast_add, Int.natCast_mul]
  have e6 : dI found ++ [D.int ((now + v * by' : Nat) : Int)] = dI (found ++ [now + v * by']) := by rw [dI_app]; rfl
  have hl : (dI found).length < 1000000 := by rw [dI_len]; omega
  by_cases z : v = 0
  · have hz : ((v : Int) == 0) = true := by simp; omega
    have hy : decide ((1 : Int) < (by' : Int)) = false := decide_eq_false (by omega)
    simp only [L_read_byte_rows_0, sSeq, sSet, sOwn, sRet, sRetN, sIf, sNil, sBk, sCt, sAsg, sPar2, sPar3, sPar2f, sPar3f, sAug, sApp, sExt, sSetI, sFor, gVar, gC, g1, g2, gF, gM, gCons, gNil, gT, gCh, gAnd, gOr, gNot, gIf, tAndG, tOrG, tNotG, gTup, gLst, gOn, gOs, gCut, toB, toI, toL, toT, iL, iT, iR1_eq, iR2_eq, toNat_nat, iZip, bName, bCons, bNil, bTup, dAddS, dSub, dPow, dShl, dShr, dAnd, dXor, dNeg, fI0, dLt, dLe, dGt, dGe, dEq, dNe, dIs, dIsNot, isNon, dep, deps, deq, deqs, dCut, fLen, fAbs, fTuple, fList, fSum, fAll, fAny, fMax2, fMin2, toInts, toBls, isTy, lstAt, mkR, dRev, atI_0, atI_1, atI_2, cYes, Option.bind_some, Option.bind_none, Option.bind, List.getElem?_cons_zero, List.getElem?_cons_succ, List.set_cons_zero, List.set_cons_succ, List.length_cons, List.length_nil, if_true, if_false, reduceIte, decide_true, decide_false, Nat.zero_le, Nat.reduceLeDiff, Nat.reduceLT, Nat.reduceAdd, beq_self_eq_true, Bool.not_true, Bool.not_false, Bool.true_and, Bool.false_and, Bool.and_true, Bool.and_false, Bool.and_self, Bool.or_self, Bool.true_or, Bool.false_or, Bool.not_eq_true, Bool.false_eq_true, and_self, true_and, and_true, dAdd_int, hx, hb, hz, hy, e4, hc, hc2, hd, e5, e6, hl, dMul]
  · have hz : ((v : Int) == 0) = false := by simp; omega
    simp only [L_read_byte_rows_0, sSeq, sSet, sOwn, sRet, sRetN, sIf, sNil, sBk, sCt, sAsg, sPar2, sPar3, sPar2f, sPar3f, sAug, sApp, sExt, sSetI, sFor, gVar, gC, g1, g2, gF, gM, gCons, gNil, gT, gCh, gAnd, gOr, gNot, gIf, tAndG, tOrG, tNotG, gTup, gLst, gOn, gOs, gCut, toB, toI, toL, toT, iL, iT, iR1_eq, iR2_eq, toNat_nat, iZip, bName, bCons, bNil, bTup, dAddS, dSub, dPow, dShl, dShr, dAnd, dXor, dNeg, fI0, dLt, dLe, dGt, dGe, dEq, dNe, dIs, dIsNot, isNon, dep, deps, deq, deqs, dCut, fLen, fAbs, fTuple, fList, fSum, fAll, fAny, fMax2, fMin2, toInts, toBls, isTy, lstAt, mkR, dRev, atI_0, atI_1, atI_2, cYes, Option.bind_some, Option.bind_none, Option.bind, List.getElem?_cons_zero, List.getElem?_cons_succ, List.set_cons_zero, List.set_cons_succ, List.length_cons, List.length_nil, if_true, if_false, reduceIte, decide_true, decide_false, Nat.zero_le, Nat.reduceLeDiff, Nat.reduceLT, Nat.reduceAdd, beq_self_eq_true, Bool.not_true, Bool.not_false, Bool.true_and, Bool.false_and, Bool.and_true, Bool.and_false, Bool.and_self, Bool.or_self, Bool.true_or, Bool.false_or, Bool.not_eq_true, Bool.false_eq_true, and_self, true_and, and_true, dAdd_int, hx, hb, hz, e4, hc, hc2, hd, e5, e6, hl, dMul]
theorem byt_one {n : Nat} (h : n < 128) : bytL n = [n] := by
  show byt (2 + 1) n = _
  rw [byt, if_neg (by omega)]
theorem byt_two {n : Nat} (h : 128 ≤ n) (h' : n < 16384) : bytL n = [n % 128 + 128, n / 128] := by
  show byt (1 + 1 + 1) n = _
  rw [byt, if_pos h, byt, if_neg (by omega)]
theorem rngD3 : rngD 0 3 = [.int (0 : Nat), .int (1 : Nat), .int (2 : Nat)] := rfl
theorem rngD2 : rngD 0 2 = [.int (0 : Nat), .int (1 : Nat)] := rfl
theorem e_read_rows (n m : Nat) (h : n < 16384) (h' : m < 128) : m_read_byte_rows [.tup (dI (bytL n) ++ dI (bytL m))] = some (.tup [.int n, .int m]) := by
  rw [byt_one h']
  have hdo : [D.int n, D.int m] = dI ([] ++ [n] ++ [m]) := rfl
  by_cases z : n < 128
  · rw [byt_one z]
    have s1 := rb_last (dI [n] ++ dI [m]) [] 0 1 0 n rfl z (.inr rfl) (by decide)
    have s2 := rb_last (dI [n] ++ dI [m]) ([] ++ [0 + n * 1]) 0 1 1 m rfl h' (.inr rfl) (by simp)
    rw [Nat.zero_add, Nat.mul_one] at s1 s2
    have hfor : forL (bName 4) L_read_byte_rows_0 (rngD 0 2) [.tup (dI [n] ++ dI [m]), .lst (dI []), .int 0, .int 1, .bot] = some (.nx [.tup (dI [n] ++ dI [m]), .lst (dI ([] ++ [n] ++ [0 + m * 1])), .int 0, .int 1, .int (1 : Nat)]) := by
      rw [rngD2, forL_step (δ1 := [.tup (dI [n] ++ dI [m]), .lst (dI []), .int 0, .int 1, .int (0 : Nat)]) rfl s1, forL_step (δ1 := [.tup (dI [n] ++ dI [m]), .lst (dI ([] ++ [n])), .int 0, .int 1, .int (1 : Nat)]) rfl s2]
      rfl
    rw [Nat.zero_add, Nat.mul_one] at hfor
    have hlen : (((dI [n] ++ dI [m]).length : Nat) : Int) = ((2 : Nat) : Int) := rfl
    have e0 : D.lst [] = .lst (dI []) := rfl
    simp only [u_read_byte_rows, F_read_byte_rows, sSeq, sSet, sOwn, sRet, sRetN, sIf, sNil, sBk, sCt, sAsg, sPar2, sPar3, sPar2f, sPar3f, sAug, sApp, sExt, sSetI, sFor, gVar, gC, g1, g2, gF, gM, gCons, gNil, gT, gCh, gAnd, gOr, gNot, gIf, tAndG, tOrG, tNotG, gTup, gLst, gOn, gOs, gCut, toB, toI, toL, toT, iL, iT, iR1_eq, iR2_eq, toNat_nat, iZip, bName, bCons, bNil, bTup, dAdd, dAddS, dSub, dMul, dDiv, dMod, dPow, dShl, dShr, dAnd, dXor, dNeg, fI, fI0, dLt, dLe, dGt, dGe, dEq, dNe, dIs, dIsNot, isNon, dep, deps, deq, deqs, dIdx, dCut, fLen, fAbs, fTuple, fList, fSum, fAll, fAny, fMax2, fMin2, toInts, toBls, isTy, lstAt, mkR, dRev, atI_0, atI_1, atI_2, cYes, Option.bind_some, Option.bind_none, Option.bind, List.getElem?_cons_zero, List.getElem?_cons_succ, List.set_cons_zero, List.set_cons_succ, List.length_cons, List.length_nil, if_true, if_false, reduceIte, decide_true, decide_false, Nat.zero_le, Nat.reduceLeDiff, Nat.reduceLT, Nat.reduceAdd, beq_self_eq_true, Bool.not_true, Bool.not_false, Bool.true_and, Bool.false_and, Bool.and_true, Bool.and_false, Bool.and_self, Bool.or_self, Bool.true_or, Bool.false_or, Bool.not_eq_true, Bool.false_eq_true, and_self, true_and, and_true, e0, hlen, rOk_nat 2 (by decide), hfor, hdo]
  · rw [byt_two (by omega) h]
    have s0 := rb_more (dI [n % 128 + 128, n / 128] ++ dI [m]) [] 0 1 0 (n % 128 + 128) rfl (by omega) (by omega)
    have s1 := rb_last (dI [n % 128 + 128, n / 128] ++ dI [m]) [] (0 + (n % 128 + 128) % 128 * 1) (1 * 128) 1 (n / 128) rfl (by omega) (.inl (by omega)) (by decide)
    rw [show 0 + (n % 128 + 128) % 128 * 1 + n / 128 * (1 * 128) = n by omega] at s1
    have s2 := rb_last (dI [n % 128 + 128, n / 128] ++ dI [m]) ([] ++ [n]) 0 1 2 m rfl h' (.inr rfl) (by simp)
    have hfor : forL (bName 4) L_read_byte_rows_0 (rngD 0 3) [.tup (dI [n % 128 + 128, n / 128] ++ dI [m]), .lst (dI []), .int 0, .int 1, .bot] = some (.nx [.tup (dI [n % 128 + 128, n / 128] ++ dI [m]), .lst (dI ([] ++ [n] ++ [0 + m * 1])), .int 0, .int 1, .int (2 : Nat)]) := by
      rw [rngD3, forL_step (δ1 := [.tup (dI [n % 128 + 128, n / 128] ++ dI [m]), .lst (dI []), .int 0, .int 1, .int (0 : Nat)]) rfl s0, forL_step (δ1 := [.tup (dI [n % 128 + 128, n / 128] ++ dI [m]), .lst (dI []), .int (0 + (n % 128 + 128) % 128 * 1 : Nat), .int (1 * 128 : Nat), .int (1 : Nat)]) rfl s1, forL_step (δ1 := [.tup (dI [n % 128 + 128, n / 128] ++ dI [m]), .lst (dI ([] ++ [n])), .int 0, .int 1, .int (2 : Nat)]) rfl s2]
      rfl
    rw [Nat.zero_add, Nat.mul_one] at hfor
    have hlen : (((dI [n % 128 + 128, n / 128] ++ dI [m]).length : Nat) : Int) = ((3 : Nat) : Int) := rfl
    have e0 : D.lst [] = .lst (dI []) := rfl
    simp only [u_read_byte_rows, F_read_byte_rows, sSeq, sSet, sOwn, sRet, sRetN, sIf, sNil, sBk, sCt, sAsg, sPar2, sPar3, sPar2f, sPar3f, sAug, sApp, sExt, sSetI, sFor, gVar, gC, g1, g2, gF, gM, gCons, gNil, gT, gCh, gAnd, gOr, gNot, gIf, tAndG, tOrG, tNotG, gTup, gLst, gOn, gOs, gCut, toB, toI, toL, toT, iL, iT, iR1_eq, iR2_eq, toNat_nat, iZip, bName, bCons, bNil, bTup, dAdd, dAddS, dSub, dMul, dDiv, dMod, dPow, dShl, dShr, dAnd, dXor, dNeg, fI, fI0, dLt, dLe, dGt, dGe, dEq, dNe, dIs, dIsNot, isNon, dep, deps, deq, deqs, dIdx, dCut, fLen, fAbs, fTuple, fList, fSum, fAll, fAny, fMax2, fMin2, toInts, toBls, isTy, lstAt, mkR, dRev, atI_0, atI_1, atI_2, cYes, Option.bind_some, Option.bind_none, Option.bind, List.getElem?_cons_zero, List.getElem?_cons_succ, List.set_cons_zero, List.set_cons_succ, List.length_cons, List.length_nil, if_true, if_false, reduceIte, decide_true, decide_false, Nat.zero_le, Nat.reduceLeDiff, Nat.reduceLT, Nat.reduceAdd, beq_self_eq_true, Bool.not_true, Bool.not_false, Bool.true_and, Bool.false_and, Bool.and_true, Bool.and_false, Bool.and_self, Bool.or_self, Bool.true_or, Bool.false_or, Bool.not_eq_true, Bool.false_eq_true, and_self, true_and, and_true, e0, hlen, rOk_nat 3 (by decide), hfor, hdo]
end G03
namespace G03
open PySem VS
/-! ### the law: its parts -/
theorem shr_nat (a k : Nat) : dShr (.int a) (.int k) = some (.int (a / 2 ^ k : Nat)) := by
  show (if decide ((0 : Int) ≤ (k : Int)) = true then some (D.int ((a : Int) / 2 ^ ((k : Int)).toNat)) else none) = _
  rw [if_pos (decide_eq_true (by omega)), Int.toNat_natCast, Int.natCast_ediv, Int.natCast_pow]
  rfl
theorem shl_one (k : Nat) (h : k ≤ 1000) : dShl (.int 1) (.int k) = some (.int (2 ^ k : Nat)) := by
  have hc : cPow 1 k = true := by
    unfold cPow
    rw [decide_eq_true (by omega : (0 : Int) ≤ k), decide_eq_true (p := (k : Int).natAbs ≤ _) (by omega), decide_eq_true (p := (1 : Int).natAbs < _) (by decide)]
    rfl
  show (if cPow 1 k = true then some (D.int ((1 : Int) * 2 ^ ((k : Int)).toNat)) else none) = _
  rw [if_pos hc, Int.toNat_natCast, Int.one_mul, Int.natCast_pow]
  rfl
theorem ones_mul (n : Nat) (h : n ≤ 100000) : dMul (.str [49]) (.int n) = some (.str (List.replicate n 49)) := by
  have h1 : ((n : Int)).natAbs ≤ 100000 := by omega
  have h3 : (List.replicate n [49]).flatten = List.replicate n 49 := by simp
  simp only [sSeq, sSet, sOwn, sRet, sRetN, sIf, sNil, sBk, sCt, sAsg, sPar2, sPar3, sPar2f, sPar3f, sAug, sApp, sExt, sSetI, sFor, gVar, gC, g1, g2, gF, gM, gCons, gNil, gT, gCh, gAnd, gOr, gNot, gIf, tAndG, tOrG, tNotG, gTup, gLst, gOn, gOs, gCut, toB, toI, toL, toT, iL, iT, iR1_eq, iR2_eq, toNat_nat, iZip, bName, bCons, bNil, bTup, dAdd, dAddS, dSub, dMul, dDiv, dMod, dPow, dShl, dShr, dAnd, dXor, dNeg, fI, fI0, dLt, dLe, dGt, dGe, dEq, dNe, dIs, dIsNot, isNon, dep, deps, deq, deqs, dIdx, dCut, fLen, fAbs, fTuple, fList, fSum, fAll, fAny, fMax2, fMin2, toInts, toBls, isTy, lstAt, mkR, dRev, atI_0, atI_1, atI_2, cYes, Option.bind_some, Option.bind_none, Option.bind, List.getElem?_cons_zero, List.getElem?_cons_succ, List.set_cons_zero, List.set_cons_succ, List.length_cons, List.length_nil, if_true, if_false, reduceIte, decide_true, decide_false, Nat.zero_le, Nat.reduceLeDiff, Nat.reduceLT, Nat.reduceAdd, beq_self_eq_true, Bool.not_true, Bool.not_false, Bool.true_and, Bool.false_and, Bool.and_true, Bool.and_false, Bool.and_self, Bool.or_self, Bool.true_or, Bool.false_or, Bool.not_eq_true, Bool.false_eq_true, and_self, true_and, and_true, h1, h3]
def sUn : List Nat := [117, 110, 97, 114, 121]
def sGa : List Nat := [103, 97, 109, 109, 97]
def sDe : List Nat := [100, 101, 108, 116, 97]
def sRi : List Nat := [114, 105, 99, 101]
def sGo : List Nat := [103, 111, 108, 111, 109, 98]
def sTw : List Nat := [116, 119, 111]
theorem q00 : dEq (.str sUn) (.str [117, 110, 97, 114, 121]) = some (.bl true) := rfl
theorem q10 : dEq (.str sGa) (.str [117, 110, 97, 114, 121]) = some (.bl false) := rfl
theorem q11 : dEq (.str sGa) (.str [103, 97, 109, 109, 97]) = some (.bl true) := rfl
theorem q20 : dEq (.str sDe) (.str [117, 110, 97, 114, 121]) = some (.bl false) := rfl
theorem q21 : dEq (.str sDe) (.str [103, 97, 109, 109, 97]) = some (.bl false) := rfl
theorem q22 : dEq (.str sDe) (.str [100, 101, 108, 116, 97]) = some (.bl true) := rfl
theorem q30 : dEq (.str sRi) (.str [117, 110, 97, 114, 121]) = some (.bl false) := rfl
theorem q31 : dEq (.str sRi) (.str [103, 97, 109, 109, 97]) = some (.bl false) := rfl
theorem q32 : dEq (.str sRi) (.str [100, 101, 108, 116, 97]) = some (.bl false) := rfl
theorem q33 : dEq (.str sRi) (.str [114, 105, 99, 101]) = some (.bl true) := rfl
theorem q40 : dEq (.str sGo) (.str [117, 110, 97, 114, 121]) = some (.bl false) := rfl
theorem q41 : dEq (.str sGo) (.str [103, 97, 109, 109, 97]) = some (.bl false) := rfl
theorem q42 : dEq (.str sGo) (.str [100, 101, 108, 116, 97]) = some (.bl false) := rfl
theorem q43 : dEq (.str sGo) (.str [114, 105, 99, 101]) = some (.bl false) := rfl
theorem q44 : dEq (.str sGo) (.str [103, 111, 108, 111, 109, 98]) = some (.bl true) := rfl
theorem q50 : dEq (.str sTw) (.str [117, 110, 97, 114, 121]) = some (.bl false) := rfl
theorem q51 : dEq (.str sTw) (.str [103, 97, 109, 109, 97]) = some (.bl false) := rfl
theorem q52 : dEq (.str sTw) (.str [100, 101, 108, 116, 97]) = some (.bl false) := rfl
theorem q53 : dEq (.str sTw) (.str [114, 105, 99, 101]) = some (.bl false) := rfl
theorem q54 : dEq (.str sTw) (.str [103, 111, 108, 111, 109, 98]) = some (.bl false) := rfl
section
variable {n m k : Nat}
theorem w0 (h : n < 997) : m_write_number [.tup [.str sUn], .int n] = some (.str (List.replicate n 49 ++ [48])) := by
  simp only [u_write_number, F_write_number, sSeq, sSet, sOwn, sRet, sRetN, sIf, sNil, sBk, sCt, sAsg, sPar2, sPar3, sPar2f, sPar3f, sAug, sApp, sExt, sSetI, sFor, gVar, gC, g1, g2, gF, gM, gCons, gNil, gT, gCh, gAnd, gOr, gNot, gIf, tAndG, tOrG, tNotG, gTup, gLst, gOn, gOs, gCut, toB, toI, toL, toT, iL, iT, iR1_eq, iR2_eq, toNat_nat, iZip, bName, bCons, bNil, bTup, dAddS, dSub, dPow, dShl, dShr, dAnd, dXor, dNeg, fI0, dLt, dLe, dGt, dGe, dIs, dIsNot, isNon, dep, deps, deq, deqs, dCut, fLen, fAbs, fTuple, fList, fSum, fAll, fAny, fMax2, fMin2, toInts, toBls, isTy, lstAt, mkR, dRev, atI_0, atI_1, atI_2, cYes, Option.bind_some, Option.bind_none, Option.bind, List.getElem?_cons_zero, List.getElem?_cons_succ, List.set_cons_zero, List.set_cons_succ, List.length_cons, List.length_nil, if_true, if_false, reduceIte, decide_true, decide_false, Nat.zero_le, Nat.reduceLeDiff, Nat.reduceLT, Nat.reduceAdd, beq_self_eq_true, Bool.not_true, Bool.not_false, Bool.true_and, Bool.false_and, Bool.and_true, Bool.and_false, Bool.and_self, Bool.or_self, Bool.true_or, Bool.false_or, Bool.not_eq_true, Bool.false_eq_true, and_self, true_and, and_true, dAdd_int, dIdx, q00, e_unary n (by omega)]
theorem w1 (h : n < 997) : m_write_number [.tup [.str sGa], .int n] = some (.str (gamL n)) := by
  simp only [u_write_number, F_write_number, sSeq, sSet, sOwn, sRet, sRetN, sIf, sNil, sBk, sCt, sAsg, sPar2, sPar3, sPar2f, sPar3f, sAug, sApp, sExt, sSetI, sFor, gVar, gC, g1, g2, gF, gM, gCons, gNil, gT, gCh, gAnd, gOr, gNot, gIf, tAndG, tOrG, tNotG, gTup, gLst, gOn, gOs, gCut, toB, toI, toL, toT, iL, iT, iR1_eq, iR2_eq, toNat_nat, iZip, bName, bCons, bNil, bTup, dAddS, dSub, dPow, dShl, dShr, dAnd, dXor, dNeg, fI0, dLt, dLe, dGt, dGe, dIs, dIsNot, isNon, dep, deps, deq, deqs, dCut, fLen, fAbs, fTuple, fList, fSum, fAll, fAny, fMax2, fMin2, toInts, toBls, isTy, lstAt, mkR, dRev, atI_0, atI_1, atI_2, cYes, Option.bind_some, Option.bind_none, Option.bind, List.getElem?_cons_zero, List.getElem?_cons_succ, List.set_cons_zero, List.set_cons_succ, List.length_cons, List.length_nil, if_true, if_false, reduceIte, decide_true, decide_false, Nat.zero_le, Nat.reduceLeDiff, Nat.reduceLT, Nat.reduceAdd, beq_self_eq_true, Bool.not_true, Bool.not_false, Bool.true_and, Bool.false_and, Bool.and_true, Bool.and_false, Bool.and_self, Bool.or_self, Bool.true_or, Bool.false_or, Bool.not_eq_true, Bool.false_eq_true, and_self, true_and, and_true, dAdd_int, dIdx, q10, q11, e_gamma n (by omega)]
theorem w2 (h : n < 997) : m_write_number [.tup [.str sDe], .int n] = some (.str (delL n)) := by
  simp only [u_write_number, F_write_number, sSeq, sSet, sOwn, sRet, sRetN, sIf, sNil, sBk, sCt, sAsg, sPar2, sPar3, sPar2f, sPar3f, sAug, sApp, sExt, sSetI, sFor, gVar, gC, g1, g2, gF, gM, gCons, gNil, gT, gCh, gAnd, gOr, gNot, gIf, tAndG, tOrG, tNotG, gTup, gLst, gOn, gOs, gCut, toB, toI, toL, toT, iL, iT, iR1_eq, iR2_eq, toNat_nat, iZip, bName, bCons, bNil, bTup, dAddS, dSub, dPow, dShl, dShr, dAnd, dXor, dNeg, fI0, dLt, dLe, dGt, dGe, dIs, dIsNot, isNon, dep, deps, deq, deqs, dCut, fLen, fAbs, fTuple, fList, fSum, fAll, fAny, fMax2, fMin2, toInts, toBls, isTy, lstAt, mkR, dRev, atI_0, atI_1, atI_2, cYes, Option.bind_some, Option.bind_none, Option.bind, List.getElem?_cons_zero, List.getElem?_cons_succ, List.set_cons_zero, List.set_cons_succ, List.length_cons, List.length_nil, if_true, if_false, reduceIte, decide_true, decide_false, Nat.zero_le, Nat.reduceLeDiff, Nat.reduceLT, Nat.reduceAdd, beq_self_eq_true, Bool.not_true, Bool.not_false, Bool.true_and, Bool.false_and, Bool.and_true, Bool.and_false, Bool.and_self, Bool.or_self, Bool.true_or, Bool.false_or, Bool.not_eq_true, Bool.false_eq_true, and_self, true_and, and_true, dAdd_int, dIdx, q20, q21, q22, e_delta n (by omega)]
theorem w3 (h : n < 997) (hk : k < 6) : m_write_number [.tup [.str sRi, .int k], .int n] = some (.str (List.replicate (n / 2 ^ k) 49 ++ [48] ++ digL n k)) := by
  simp only [u_write_number, F_write_number, sSeq, sSet, sOwn, sRet, sRetN, sIf, sNil, sBk, sCt, sAsg, sPar2, sPar3, sPar2f, sPar3f, sAug, sApp, sExt, sSetI, sFor, gVar, gC, g1, g2, gF, gM, gCons, gNil, gT, gCh, gAnd, gOr, gNot, gIf, tAndG, tOrG, tNotG, gTup, gLst, gOn, gOs, gCut, toB, toI, toL, toT, iL, iT, iR1_eq, iR2_eq, toNat_nat, iZip, bName, bCons, bNil, bTup, dAddS, dSub, dPow, dShl, dShr, dAnd, dXor, dNeg, fI0, dLt, dLe, dGt, dGe, dIs, dIsNot, isNon, dep, deps, deq, deqs, dCut, fLen, fAbs, fTuple, fList, fSum, fAll, fAny, fMax2, fMin2, toInts, toBls, isTy, lstAt, mkR, dRev, atI_0, atI_1, atI_2, cYes, Option.bind_some, Option.bind_none, Option.bind, List.getElem?_cons_zero, List.getElem?_cons_succ, List.set_cons_zero, List.set_cons_succ, List.length_cons, List.length_nil, if_true, if_false, reduceIte, decide_true, decide_false, Nat.zero_le, Nat.reduceLeDiff, Nat.reduceLT, Nat.reduceAdd, beq_self_eq_true, Bool.not_true, Bool.not_false, Bool.true_and, Bool.false_and, Bool.and_true, Bool.and_false, Bool.and_self, Bool.or_self, Bool.true_or, Bool.false_or, Bool.not_eq_true, Bool.false_eq_true, and_self, true_and, and_true, dAdd_int, dIdx, q30, q31, q32, q33, e_rice n k (by omega) (by omega)]
theorem w4 (h : n < 997) (hm : 1 ≤ m) (hm' : m ≤ 20) : m_write_number [.tup [.str sGo, .int m], .int n] = some (.str (golL n m)) := by
  simp only [u_write_number, F_write_number, sSeq, sSet, sOwn, sRet, sRetN, sIf, sNil, sBk, sCt, sAsg, sPar2, sPar3, sPar2f, sPar3f, sAug, sApp, sExt, sSetI, sFor, gVar, gC, g1, g2, gF, gM, gCons, gNil, gT, gCh, gAnd, gOr, gNot, gIf, tAndG, tOrG, tNotG, gTup, gLst, gOn, gOs, gCut, toB, toI, toL, toT, iL, iT, iR1_eq, iR2_eq, toNat_nat, iZip, bName, bCons, bNil, bTup, dAddS, dSub, dPow, dShl, dShr, dAnd, dXor, dNeg, fI0, dLt, dLe, dGt, dGe, dIs, dIsNot, isNon, dep, deps, deq, deqs, dCut, fLen, fAbs, fTuple, fList, fSum, fAll, fAny, fMax2, fMin2, toInts, toBls, isTy, lstAt, mkR, dRev, atI_0, atI_1, atI_2, cYes, Option.bind_some, Option.bind_none, Option.bind, List.getElem?_cons_zero, List.getElem?_cons_succ, List.set_cons_zero, List.set_cons_succ, List.length_cons, List.length_nil, if_true, if_false, reduceIte, decide_true, decide_false, Nat.zero_le, Nat.reduceLeDiff, Nat.reduceLT, Nat.reduceAdd, beq_self_eq_true, Bool.not_true, Bool.not_false, Bool.true_and, Bool.false_and, Bool.and_true, Bool.and_false, Bool.and_self, Bool.or_self, Bool.true_or, Bool.false_or, Bool.not_eq_true, Bool.false_eq_true, and_self, true_and, and_true, dAdd_int, dIdx, q40, q41, q42, q43, q44, e_golomb n m (by omega) hm (by omega)]
theorem w5 (h : n < 997) : m_write_number [.tup [.str sTw], .int n] = some (.str (txL n ++ [49])) := by
  simp only [u_write_number, F_write_number, sSeq, sSet, sOwn, sRet, sRetN, sIf, sNil, sBk, sCt, sAsg, sPar2, sPar3, sPar2f, sPar3f, sAug, sApp, sExt, sSetI, sFor, gVar, gC, g1, g2, gF, gM, gCons, gNil, gT, gCh, gAnd, gOr, gNot, gIf, tAndG, tOrG, tNotG, gTup, gLst, gOn, gOs, gCut, toB, toI, toL, toT, iL, iT, iR1_eq, iR2_eq, toNat_nat, iZip, bName, bCons, bNil, bTup, dAddS, dSub, dPow, dShl, dShr, dAnd, dXor, dNeg, fI0, dLt, dLe, dGt, dGe, dIs, dIsNot, isNon, dep, deps, deq, deqs, dCut, fLen, fAbs, fTuple, fList, fSum, fAll, fAny, fMax2, fMin2, toInts, toBls, isTy, lstAt, mkR, dRev, atI_0, atI_1, atI_2, cYes, Option.bind_some, Option.bind_none, Option.bind, List.getElem?_cons_zero, List.getElem?_cons_succ, List.set_cons_zero, List.set_cons_succ, List.length_cons, List.length_nil, if_true, if_false, reduceIte, decide_true, decide_false, Nat.zero_le, Nat.reduceLeDiff, Nat.reduceLT, Nat.reduceAdd, beq_self_eq_true, Bool.not_true, Bool.not_false, Bool.true_and, Bool.false_and, Bool.and_true, Bool.and_false, Bool.and_self, Bool.or_self, Bool.true_or, Bool.false_or, Bool.not_eq_true, Bool.false_eq_true, and_self, true_and, and_true, dAdd_int, dIdx, q50, q51, q52, q53, q54, e_by_two n h]
variable {l : List Nat} {x : D}
theorem g0 (e : m_read_unary [.str l, .int 0] = some x) : m_read_number [.tup [.str sUn], .str l, .int 0] = some x := by
  simp only [u_read_number, F_read_number, sSeq, sSet, sOwn, sRet, sRetN, sIf, sNil, sBk, sCt, sAsg, sPar2, sPar3, sPar2f, sPar3f, sAug, sApp, sExt, sSetI, sFor, gVar, gC, g1, g2, gF, gM, gCons, gNil, gT, gCh, gAnd, gOr, gNot, gIf, tAndG, tOrG, tNotG, gTup, gLst, gOn, gOs, gCut, toB, toI, toL, toT, iL, iT, iR1_eq, iR2_eq, toNat_nat, iZip, bName, bCons, bNil, bTup, dAddS, dSub, dPow, dShl, dShr, dAnd, dXor, dNeg, fI0, dLt, dLe, dGt, dGe, dIs, dIsNot, isNon, dep, deps, deq, deqs, dCut, fLen, fAbs, fTuple, fList, fSum, fAll, fAny, fMax2, fMin2, toInts, toBls, isTy, lstAt, mkR, dRev, atI_0, atI_1, atI_2, cYes, Option.bind_some, Option.bind_none, Option.bind, List.getElem?_cons_zero, List.getElem?_cons_succ, List.set_cons_zero, List.set_cons_succ, List.length_cons, List.length_nil, if_true, if_false, reduceIte, decide_true, decide_false, Nat.zero_le, Nat.reduceLeDiff, Nat.reduceLT, Nat.reduceAdd, beq_self_eq_true, Bool.not_true, Bool.not_false, Bool.true_and, Bool.false_and, Bool.and_true, Bool.and_false, Bool.and_self, Bool.or_self, Bool.true_or, Bool.false_or, Bool.not_eq_true, Bool.false_eq_true, and_self, true_and, and_true, dAdd_int, dIdx, q00, e]
theorem g1' (e : m_read_gamma [.str l, .int 0] = some x) : m_read_number [.tup [.str sGa], .str l, .int 0] = some x := by
  simp only [u_read_number, F_read_number, sSeq, sSet, sOwn, sRet, sRetN, sIf, sNil, sBk, sCt, sAsg, sPar2, sPar3, sPar2f, sPar3f, sAug, sApp, sExt, sSetI, sFor, gVar, gC, g1, g2, gF, gM, gCons, gNil, gT, gCh, gAnd, gOr, gNot, gIf, tAndG, tOrG, tNotG, gTup, gLst, gOn, gOs, gCut, toB, toI, toL, toT, iL, iT, iR1_eq, iR2_eq, toNat_nat, iZip, bName, bCons, bNil, bTup, dAddS, dSub, dPow, dShl, dShr, dAnd, dXor, dNeg, fI0, dLt, dLe, dGt, dGe, dIs, dIsNot, isNon, dep, deps, deq, deqs, dCut, fLen, fAbs, fTuple, fList, fSum, fAll, fAny, fMax2, fMin2, toInts, toBls, isTy, lstAt, mkR, dRev, atI_0, atI_1, atI_2, cYes, Option.bind_some, Option.bind_none, Option.bind, List.getElem?_cons_zero, List.getElem?_cons_succ, List.set_cons_zero, List.set_cons_succ, List.length_cons, List.length_nil, if_true, if_false, reduceIte, decide_true, decide_false, Nat.zero_le, Nat.reduceLeDiff, Nat.reduceLT, Nat.reduceAdd, beq_self_eq_true, Bool.not_true, Bool.not_false, Bool.true_and, Bool.false_and, Bool.and_true, Bool.and_false, Bool.and_self, Bool.or_self, Bool.true_or, Bool.false_or, Bool.not_eq_true, Bool.false_eq_true, and_self, true_and, and_true, dAdd_int, dIdx, q10, q11, e]
theorem g2' (e : m_read_delta [.str l, .int 0] = some x) : m_read_number [.tup [.str sDe], .str l, .int 0] = some x := by
  simp only [u_read_number, F_read_number, sSeq, sSet, sOwn, sRet, sRetN, sIf, sNil, sBk, sCt, sAsg, sPar2, sPar3, sPar2f, sPar3f, sAug, sApp, sExt, sSetI, sFor, gVar, gC, g1, g2, gF, gM, gCons, gNil, gT, gCh, gAnd, gOr, gNot, gIf, tAndG, tOrG, tNotG, gTup, gLst, gOn, gOs, gCut, toB, toI, toL, toT, iL, iT, iR1_eq, iR2_eq, toNat_nat, iZip, bName, bCons, bNil, bTup, dAddS, dSub, dPow, dShl, dShr, dAnd, dXor, dNeg, fI0, dLt, dLe, dGt, dGe, dIs, dIsNot, isNon, dep, deps, deq, deqs, dCut, fLen, fAbs, fTuple, fList, fSum, fAll, fAny, fMax2, fMin2, toInts, toBls, isTy, lstAt, mkR, dRev, atI_0, atI_1, atI_2, cYes, Option.bind_some, Option.bind_none, Option.bind, List.getElem?_cons_zero, List.getElem?_cons_succ, List.set_cons_zero, List.set_cons_succ, List.length_cons, List.length_nil, if_true, if_false, reduceIte, decide_true, decide_false, Nat.zero_le, Nat.reduceLeDiff, Nat.reduceLT, Nat.reduceAdd, beq_self_eq_true, Bool.not_true, Bool.not_false, Bool.true_and, Bool.false_and, Bool.and_true, Bool.and_false, Bool.and_self, Bool.or_self, Bool.true_or, Bool.false_or, Bool.not_eq_true, Bool.false_eq_true, and_self, true_and, and_true, dAdd_int, dIdx, q20, q21, q22, e]
theorem g3 (e : m_read_rice [.str l, .int 0, .int k] = some x) : m_read_number [.tup [.str sRi, .int k], .str l, .int 0] = some x := by
  simp only [u_read_number, F_read_number, sSeq, sSet, sOwn, sRet, sRetN, sIf, sNil, sBk, sCt, sAsg, sPar2, sPar3, sPar2f, sPar3f, sAug, sApp, sExt, sSetI, sFor, gVar, gC, g1, g2, gF, gM, gCons, gNil, gT, gCh, gAnd, gOr, gNot, gIf, tAndG, tOrG, tNotG, gTup, gLst, gOn, gOs, gCut, toB, toI, toL, toT, iL, iT, iR1_eq, iR2_eq, toNat_nat, iZip, bName, bCons, bNil, bTup, dAddS, dSub, dPow, dShl, dShr, dAnd, dXor, dNeg, fI0, dLt, dLe, dGt, dGe, dIs, dIsNot, isNon, dep, deps, deq, deqs, dCut, fLen, fAbs, fTuple, fList, fSum, fAll, fAny, fMax2, fMin2, toInts, toBls, isTy, lstAt, mkR, dRev, atI_0, atI_1, atI_2, cYes, Option.bind_some, Option.bind_none, Option.bind, List.getElem?_cons_zero, List.getElem?_cons_succ, List.set_cons_zero, List.set_cons_succ, List.length_cons, List.length_nil, if_true, if_false, reduceIte, decide_true, decide_false, Nat.zero_le, Nat.reduceLeDiff, Nat.reduceLT, Nat.reduceAdd, beq_self_eq_true, Bool.not_true, Bool.not_false, Bool.true_and, Bool.false_and, Bool.and_true, Bool.and_false, Bool.and_self, Bool.or_self, Bool.true_or, Bool.false_or, Bool.not_eq_true, Bool.false_eq_true, and_self, true_and, and_true, dAdd_int, dIdx, q30, q31, q32, q33, e]
theorem g4 (e : m_read_golomb [.str l, .int 0, .int m] = some x) : m_read_number [.tup [.str sGo, .int m], .str l, .int 0] = some x := by
  simp only [u_read_number, F_read_number, sSeq, sSet, sOwn, sRet, sRetN, sIf, sNil, sBk, sCt, sAsg, sPar2, sPar3, sPar2f, sPar3f, sAug, sApp, sExt, sSetI, sFor, gVar, gC, g1, g2, gF, gM, gCons, gNil, gT, gCh, gAnd, gOr, gNot, gIf, tAndG, tOrG, tNotG, gTup, gLst, gOn, gOs, gCut, toB, toI, toL, toT, iL, iT, iR1_eq, iR2_eq, toNat_nat, iZip, bName, bCons, bNil, bTup, dAddS, dSub, dPow, dShl, dShr, dAnd, dXor, dNeg, fI0, dLt, dLe, dGt, dGe, dIs, dIsNot, isNon, dep, deps, deq, deqs, dCut, fLen, fAbs, fTuple, fList, fSum, fAll, fAny, fMax2, fMin2, toInts, toBls, isTy, lstAt, mkR, dRev, atI_0, atI_1, atI_2, cYes, Option.bind_some, Option.bind_none, Option.bind, List.getElem?_cons_zero, List.getElem?_cons_succ, List.set_cons_zero, List.set_cons_succ, List.length_cons, List.length_nil, if_true, if_false, reduceIte, decide_true, decide_false, Nat.zero_le, Nat.reduceLeDiff, Nat.reduceLT, Nat.reduceAdd, beq_self_eq_true, Bool.not_true, Bool.not_false, Bool.true_and, Bool.false_and, Bool.and_true, Bool.and_false, Bool.and_self, Bool.or_self, Bool.true_or, Bool.false_or, Bool.not_eq_true, Bool.false_eq_true, and_self, true_and, and_true, dAdd_int, dIdx, q40, q41, q42, q43, q44, e]
theorem g5 (e : m_read_by_two [.str l, .int 0] = some x) : m_read_number [.tup [.str sTw], .str l, .int 0] = some x := by
  simp only [u_read_number, F_read_number, sSeq, sSet, sOwn, sRet, sRetN, sIf, sNil, sBk, sCt, sAsg, sPar2, sPar3, sPar2f, sPar3f, sAug, sApp, sExt, sSetI, sFor, gVar, gC, g1, g2, gF, gM, gCons, gNil, gT, gCh, gAnd, gOr, gNot, gIf, tAndG, tOrG, tNotG, gTup, gLst, gOn, gOs, gCut, toB, toI, toL, toT, iL, iT, iR1_eq, iR2_eq, toNat_nat, iZip, bName, bCons, bNil, bTup, dAddS, dSub, dPow, dShl, dShr, dAnd, dXor, dNeg, fI0, dLt, dLe, dGt, dGe, dIs, dIsNot, isNon, dep, deps, deq, deqs, dCut, fLen, fAbs, fTuple, fList, fSum, fAll, fAny, fMax2, fMin2, toInts, toBls, isTy, lstAt, mkR, dRev, atI_0, atI_1, atI_2, cYes, Option.bind_some, Option.bind_none, Option.bind, List.getElem?_cons_zero, List.getElem?_cons_succ, List.set_cons_zero, List.set_cons_succ, List.length_cons, List.length_nil, if_true, if_false, reduceIte, decide_true, decide_false, Nat.zero_le, Nat.reduceLeDiff, Nat.reduceLT, Nat.reduceAdd, beq_self_eq_true, Bool.not_true, Bool.not_false, Bool.true_and, Bool.false_and, Bool.and_true, Bool.and_false, Bool.and_self, Bool.or_self, Bool.true_or, Bool.false_or, Bool.not_eq_true, Bool.false_eq_true, and_self, true_and, and_true, dAdd_int, dIdx, q50, q51, q52, q53, q54, e]
end
theorem pair_ne (a b : Int) : dNe (.tup [.int a, .int b]) (.tup [.int a, .int b]) = some (.bl false) := by
  unfold dNe
  rw [if_pos ⟨(by show 1 ≤ 64; decide), (by show 1 ≤ 64; decide)⟩]
  simp [deq, deqs]
theorem pair_eq (a b : Int) : dEq (.tup [.int a, .int b]) (.tup [.int a, .int b]) = some (.bl true) := by
  unfold dEq
  rw [if_pos ⟨(by show 1 ≤ 64; decide), (by show 1 ≤ 64; decide)⟩]
  simp [deq, deqs]
theorem isnot_some {x : D} : ∃ b, dIsNot x .non = some (.bl b) := by cases x <;> exact ⟨_, rfl⟩
/-- one kind's turn -/
theorem l_kind (w a2 a3 a4 a5 a6 a7 a8 a9 a10 a11 a12 a13 a15 a16 a17 : D) (n : Nat) (nm : List Nat) (more : List D) (bits : List Nat) (x : D)
    (hw : m_write_number [.tup (.str nm :: more), .int n] = some (.str bits)) (hlen : bits.length < 100000)
    (hr : m_read_number [.tup (.str nm :: more), .str (bits ++ [48, 49]), .int 0] = some (.tup [.int n, .int bits.length]))
    (hc : m_read_number [.tup (.str nm :: more), .str bits.dropLast, .int 0] = some x) (hx : x = .non ∨ nm = sRi ∨ nm = sGo) :
    L__law_holds_2 [w, .int n, a2, a3, a4, a5, a6, a7, a8, a9, a10, a11, a12, a13, .tup (.str nm :: more), a15, a16, a17] = some (.nx [w, .int n, a2, a3, a4, a5, a6, a7, a8, a9, a10, a11, a12, a13, .tup (.str nm :: more), .str bits, a16, a17]) := by
  have h1 := app_str bits [48, 49] (by show bits.length + 2 ≤ _; omega)
  have hp := pair_ne n bits.length
  have hcut : cut bits none (some (-1)) = bits.dropLast := cut_last bits
  rcases hx with e | e
  · subst e
    simp only [L__law_holds_2, sSeq, sSet, sOwn, sRet, sRetN, sIf, sNil, sBk, sCt, sAsg, sPar2, sPar3, sPar2f, sPar3f, sAug, sApp, sExt, sSetI, sFor, gVar, gC, g1, g2, gF, gM, gCons, gNil, gT, gCh, gAnd, gOr, gNot, gIf, tAndG, tOrG, tNotG, gTup, gLst, gOn, gOs, gCut, toB, toI, toL, toT, iL, iT, iR1_eq, iR2_eq, toNat_nat, iZip, bName, bCons, bNil, bTup, dAddS, dSub, dPow, dShl, dShr, dAnd, dXor, dNeg, fI0, dLt, dLe, dGt, dGe, dIs, dIsNot, isNon, dep, deps, deq, deqs, dCut, fLen, fAbs, fTuple, fList, fSum, fAll, fAny, fMax2, fMin2, toInts, toBls, isTy, lstAt, mkR, dRev, atI_0, atI_1, atI_2, cYes, Option.bind_some, Option.bind_none, Option.bind, List.getElem?_cons_zero, List.getElem?_cons_succ, List.set_cons_zero, List.set_cons_succ, List.length_cons, List.length_nil, if_true, if_false, reduceIte, decide_true, decide_false, Nat.zero_le, Nat.reduceLeDiff, Nat.reduceLT, Nat.reduceAdd, beq_self_eq_true, Bool.not_true, Bool.not_false, Bool.true_and, Bool.false_and, Bool.and_true, Bool.and_false, Bool.and_self, Bool.or_self, Bool.true_or, Bool.false_or, Bool.not_eq_true, Bool.false_eq_true, and_self, true_and, and_true, dAdd_int, dIdx, hw, h1, hr, hp, hcut, hc]
  · obtain ⟨b, hb⟩ := isnot_some (x := x)
    have hn : dNotIn (.str nm) (.tup [.str [114, 105, 99, 101], .str [103, 111, 108, 111, 109, 98]]) = some (.bl false) := by
      rcases e with e | e <;> subst e <;> rfl
    cases b <;> simp only [L__law_holds_2, sSeq, sSet, sOwn, sRet, sRetN, sIf, sNil, sBk, sCt, sAsg, sPar2, sPar3, sPar2f, sPar3f, sAug, sApp, sExt, sSetI, sFor, gVar, gC, g1, g2, gF, gM, gCons, gNil, gT, gCh, gAnd, gOr, gNot, gIf, tAndG, tOrG, tNotG, gTup, gLst, gOn, gOs, gCut, toB, toI, toL, toT, iL, iT, iR1_eq, iR2_eq, toNat_nat, iZip, bName, bCons, bNil, bTup, dAddS, dSub, dPow, dShl, dShr, dAnd, dXor, dNeg, fI0, dLt, dLe, dGt, dGe, dep, deps, deq, deqs, dCut, fLen, fAbs, fTuple, fList, fSum, fAll, fAny, fMax2, fMin2, toInts, toBls, isTy, lstAt, mkR, dRev, atI_0, atI_1, atI_2, cYes, Option.bind_some, Option.bind_none, Option.bind, List.getElem?_cons_zero, List.getElem?_cons_succ, List.set_cons_zero, List.set_cons_succ, List.length_cons, List.length_nil, if_true, if_false, reduceIte, decide_true, decide_false, Nat.zero_le, Nat.reduceLeDiff, Nat.reduceLT, Nat.reduceAdd, beq_self_eq_true, Bool.not_true, Bool.not_false, Bool.true_and, Bool.false_and, Bool.and_true, Bool.and_false, Bool.and_self, Bool.or_self, Bool.true_or, Bool.false_or, Bool.not_eq_true, Bool.false_eq_true, and_self, true_and, and_true, dAdd_int, dIdx, hw, h1, hr, hp, hcut, hc, hb, hn]
end G03
namespace G03
open PySem VS
/-! ### the law -/
theorem l_own_steps (n : Nat) (w a2 a3 a4 a5 a6 a7 a8 a9 a11 a12 a13 a14 a15 a16 a17 : D) : ∀ (f : Nat) (l : List Nat) (p q : Nat), 1 ≤ p → 1 ≤ q → n + 1 + 1 - q < f → l.length + f < 10000 → whileF C__law_holds_0 L__law_holds_0 f [w, .int n, a2, a3, a4, a5, a6, a7, a8, a9, .lst (dI (l ++ [p, q])), a11, a12, a13, a14, a15, a16, a17] = some (.nx [w, .int n, a2, a3, a4, a5, a6, a7, a8, a9, .lst (dI (stW (n + 1) f l p q)), a11, a12, a13, a14, a15, a16, a17])
  | 0, l, p, q, _, _, h, _ => absurd h (Nat.not_lt_zero _)
  | f + 1, l, p, q, h1, h0, h2, h3 => by
    have es : dI (l ++ [p, q]) = dI l ++ [.int p, .int q] := dI_app _ _
    have en : (n : Int) + 1 = ((n + 1 : Nat) : Int) := by omega
    by_cases z : q ≤ n + 1
    · have c : C__law_holds_0 [w, .int n, a2, a3, a4, a5, a6, a7, a8, a9, .lst (dI (l ++ [p, q])), a11, a12, a13, a14, a15, a16, a17] = some true := by
        have hd : decide ((q : Int) ≤ ((n + 1 : Nat) : Int)) = true := decide_eq_true (by omega)
        rw [es]
        simp only [C__law_holds_0, sSeq, sSet, sOwn, sRet, sRetN, sIf, sNil, sBk, sCt, sAsg, sPar2, sPar3, sPar2f, sPar3f, sAug, sApp, sExt, sSetI, sFor, gVar, gC, g1, g2, gF, gM, gCons, gNil, gT, gCh, gAnd, gOr, gNot, gIf, tAndG, tOrG, tNotG, gTup, gLst, gOn, gOs, gCut, toB, toI, toL, toT, iL, iT, iR1_eq, iR2_eq, toNat_nat, iZip, bName, bCons, bNil, bTup, dAdd, dAddS, dSub, dMul, dDiv, dMod, dPow, dShl, dShr, dAnd, dXor, dNeg, fI, fI0, dLt, dLe, dGt, dGe, dEq, dNe, dIs, dIsNot, isNon, dep, deps, deq, deqs, dIdx, dCut, fLen, fAbs, fTuple, fList, fSum, fAll, fAny, fMax2, fMin2, toInts, toBls, isTy, lstAt, mkR, dRev, atI_0, atI_1, atI_2, cYes, Option.bind_some, Option.bind_none, Option.bind, List.getElem?_cons_zero, List.getElem?_cons_succ, List.set_cons_zero, List.set_cons_succ, List.length_cons, List.length_nil, if_true, if_false, reduceIte, decide_true, decide_false, Nat.zero_le, Nat.reduceLeDiff, Nat.reduceLT, Nat.reduceAdd, beq_self_eq_true, Bool.not_true, Bool.not_false, Bool.true_and, Bool.false_and, Bool.and_true, Bool.and_false, Bool.and_self, Bool.or_self, Bool.true_or, Bool.false_or, Bool.not_eq_true, Bool.false_eq_true, and_self, true_and, and_true, atI_end2, en, hd]
      have s : L__law_holds_0 [w, .int n, a2, a3, a4, a5, a6, a7, a8, a9, .lst (dI (l ++ [p, q])), a11, a12, a13, a14, a15, a16, a17] = some (.nx [w, .int n, a2, a3, a4, a5, a6, a7, a8, a9, .lst (dI ((l ++ [p]) ++ [q, p + q])), a11, a12, a13, a14, a15, a16, a17]) := by
        have hl : (dI l ++ [D.int p, D.int q]).length < 1000000 := by rw [List.length_append, dI_len]; show l.length + 2 < _; omega
        have ep : (q : Int) + (p : Int) = ((p + q : Nat) : Int) := by omega
        have ee : dI l ++ [D.int p, D.int q] ++ [D.int (p + q : Nat)] = dI ((l ++ [p]) ++ [q, p + q]) := by rw [dI_app, dI_app, List.append_assoc, List.append_assoc]; rfl
        rw [es]
        simp only [L__law_holds_0, sSeq, sSet, sOwn, sRet, sRetN, sIf, sNil, sBk, sCt, sAsg, sPar2, sPar3, sPar2f, sPar3f, sAug, sApp, sExt, sSetI, sFor, gVar, gC, g1, g2, gF, gM, gCons, gNil, gT, gCh, gAnd, gOr, gNot, gIf, tAndG, tOrG, tNotG, gTup, gLst, gOn, gOs, gCut, toB, toI, toL, toT, iL, iT, iR1_eq, iR2_eq, toNat_nat, iZip, bName, bCons, bNil, bTup, dAdd, dAddS, dSub, dMul, dDiv, dMod, dPow, dShl, dShr, dAnd, dXor, dNeg, fI, fI0, dLt, dLe, dGt, dGe, dEq, dNe, dIs, dIsNot, isNon, dep, deps, deq, deqs, dIdx, dCut, fLen, fAbs, fTuple, fList, fSum, fAll, fAny, fMax2, fMin2, toInts, toBls, isTy, lstAt, mkR, dRev, atI_0, atI_1, atI_2, cYes, Option.bind_some, Option.bind_none, Option.bind, List.getElem?_cons_zero, List.getElem?_cons_succ, List.set_cons_zero, List.set_cons_succ, List.length_cons, List.length_nil, if_true, if_false, reduceIte, decide_true, decide_false, Nat.zero_le, Nat.reduceLeDiff, Nat.reduceLT, Nat.reduceAdd, beq_self_eq_true, Bool.not_true, Bool.not_false, Bool.true_and, Bool.false_and, Bool.and_true, Bool.and_false, Bool.and_self, Bool.or_self, Bool.true_or, Bool.false_or, Bool.not_eq_true, Bool.false_eq_true, and_self, true_and, and_true, atI_end2, atI_last2, hl, ep, ee]
      rw [whileF_step c s, l_own_steps n w a2 a3 a4 a5 a6 a7 a8 a9 a11 a12 a13 a14 a15 a16 a17 f (l ++ [p]) q (p + q) (by omega) (by omega) (by omega) (by rw [List.length_append, List.length_singleton]; omega), stW, if_pos z]
    · have c : C__law_holds_0 [w, .int n, a2, a3, a4, a5, a6, a7, a8, a9, .lst (dI (l ++ [p, q])), a11, a12, a13, a14, a15, a16, a17] = some false := by
        have hd : decide ((q : Int) ≤ ((n + 1 : Nat) : Int)) = false := decide_eq_false (by omega)
        rw [es]
        simp only [C__law_holds_0, sSeq, sSet, sOwn, sRet, sRetN, sIf, sNil, sBk, sCt, sAsg, sPar2, sPar3, sPar2f, sPar3f, sAug, sApp, sExt, sSetI, sFor, gVar, gC, g1, g2, gF, gM, gCons, gNil, gT, gCh, gAnd, gOr, gNot, gIf, tAndG, tOrG, tNotG, gTup, gLst, gOn, gOs, gCut, toB, toI, toL, toT, iL, iT, iR1_eq, iR2_eq, toNat_nat, iZip, bName, bCons, bNil, bTup, dAdd, dAddS, dSub, dMul, dDiv, dMod, dPow, dShl, dShr, dAnd, dXor, dNeg, fI, fI0, dLt, dLe, dGt, dGe, dEq, dNe, dIs, dIsNot, isNon, dep, deps, deq, deqs, dIdx, dCut, fLen, fAbs, fTuple, fList, fSum, fAll, fAny, fMax2, fMin2, toInts, toBls, isTy, lstAt, mkR, dRev, atI_0, atI_1, atI_2, cYes, Option.bind_some, Option.bind_none, Option.bind, List.getElem?_cons_zero, List.getElem?_cons_succ, List.set_cons_zero, List.set_cons_succ, List.length_cons, List.length_nil, if_true, if_false, reduceIte, decide_true, decide_false, Nat.zero_le, Nat.reduceLeDiff, Nat.reduceLT, Nat.reduceAdd, beq_self_eq_true, Bool.not_true, Bool.not_false, Bool.true_and, Bool.false_and, Bool.and_true, Bool.and_false, Bool.and_self, Bool.or_self, Bool.true_or, Bool.false_or, Bool.not_eq_true, Bool.false_eq_true, and_self, true_and, and_true, atI_end2, en, hd]
      rw [whileF_end c, stW, if_neg z]
theorem l_own_two (w a1 a2 a3 a4 a5 a6 a7 a8 a9 a10 a14 a15 a16 a17 : D) : ∀ (l : List Nat) (left : Nat) (acc : List Nat) (z : D), acc.length + l.length < 100000 → ∃ z', forL (bName 13) L__law_holds_1 (dI l) [w, a1, a2, a3, a4, a5, a6, a7, a8, a9, a10, .int left, .str acc, z, a14, a15, a16, a17] = some (.nx [w, a1, a2, a3, a4, a5, a6, a7, a8, a9, a10, .int (grd l left acc).2, .str (grd l left acc).1, z', a14, a15, a16, a17])
  | [], left, acc, z, _ => ⟨z, rfl⟩
  | o :: r, left, acc, z, hl => by
    have hl2 : 1 + acc.length ≤ 16777216 := by rw [List.length_cons] at hl; omega
    by_cases c : o ≤ left
    · obtain ⟨z', h⟩ := l_own_two w a1 a2 a3 a4 a5 a6 a7 a8 a9 a10 a14 a15 a16 a17 r (left - o) (49 :: acc) (.int o) (by rw [List.length_cons] at *; omega)
      refine ⟨z', ?_⟩
      have hd : decide ((o : Int) ≤ (left : Int)) = true := decide_eq_true (by omega)
      have he : (left : Int) - (o : Int) = ((left - o : Nat) : Int) := by omega
      have s : L__law_holds_1 [w, a1, a2, a3, a4, a5, a6, a7, a8, a9, a10, .int left, .str acc, .int o, a14, a15, a16, a17] = some (.nx [w, a1, a2, a3, a4, a5, a6, a7, a8, a9, a10, .int (left - o : Nat), .str (49 :: acc), .int o, a14, a15, a16, a17]) := by
        simp only [L__law_holds_1, sSeq, sSet, sOwn, sRet, sRetN, sIf, sNil, sBk, sCt, sAsg, sPar2, sPar3, sPar2f, sPar3f, sAug, sApp, sExt, sSetI, sFor, gVar, gC, g1, g2, gF, gM, gCons, gNil, gT, gCh, gAnd, gOr, gNot, gIf, tAndG, tOrG, tNotG, gTup, gLst, gOn, gOs, gCut, toB, toI, toL, toT, iL, iT, iR1_eq, iR2_eq, toNat_nat, iZip, bName, bCons, bNil, bTup, dAdd, dAddS, dSub, dMul, dDiv, dMod, dPow, dShl, dShr, dAnd, dXor, dNeg, fI, fI0, dLt, dLe, dGt, dGe, dEq, dNe, dIs, dIsNot, isNon, dep, deps, deq, deqs, dIdx, dCut, fLen, fAbs, fTuple, fList, fSum, fAll, fAny, fMax2, fMin2, toInts, toBls, isTy, lstAt, mkR, dRev, atI_0, atI_1, atI_2, cYes, Option.bind_some, Option.bind_none, Option.bind, List.getElem?_cons_zero, List.getElem?_cons_succ, List.set_cons_zero, List.set_cons_succ, List.length_cons, List.length_nil, if_true, if_false, reduceIte, decide_true, decide_false, Nat.zero_le, Nat.reduceLeDiff, Nat.reduceLT, Nat.reduceAdd, beq_self_eq_true, Bool.not_true, Bool.not_false, Bool.true_and, Bool.false_and, Bool.and_true, Bool.and_false, Bool.and_self, Bool.or_self, Bool.true_or, Bool.false_or, Bool.not_eq_true, Bool.false_eq_true, and_self, true_and, and_true, hd, hl2, he]
        rfl
      show forL (bName 13) L__law_holds_1 (D.int o :: dI r) _ = _
      rw [forL_step rfl s, grd, if_pos c]
      exact h
    · obtain ⟨z', h⟩ := l_own_two w a1 a2 a3 a4 a5 a6 a7 a8 a9 a10 a14 a15 a16 a17 r left (48 :: acc) (.int o) (by rw [List.length_cons] at *; omega)
      refine ⟨z', ?_⟩
      have hd : decide ((o : Int) ≤ (left : Int)) = false := decide_eq_false (by omega)
      have he : (left : Int) - 0 = (left : Int) := by omega
      have s : L__law_holds_1 [w, a1, a2, a3, a4, a5, a6, a7, a8, a9, a10, .int left, .str acc, .int o, a14, a15, a16, a17] = some (.nx [w, a1, a2, a3, a4, a5, a6, a7, a8, a9, a10, .int left, .str (48 :: acc), .int o, a14, a15, a16, a17]) := by
        simp only [L__law_holds_1, sSeq, sSet, sOwn, sRet, sRetN, sIf, sNil, sBk, sCt, sAsg, sPar2, sPar3, sPar2f, sPar3f, sAug, sApp, sExt, sSetI, sFor, gVar, gC, g1, g2, gF, gM, gCons, gNil, gT, gCh, gAnd, gOr, gNot, gIf, tAndG, tOrG, tNotG, gTup, gLst, gOn, gOs, gCut, toB, toI, toL, toT, iL, iT, iR1_eq, iR2_eq, toNat_nat, iZip, bName, bCons, bNil, bTup, dAdd, dAddS, dSub, dMul, dDiv, dMod, dPow, dShl, dShr, dAnd, dXor, dNeg, fI, fI0, dLt, dLe, dGt, dGe, dEq, dNe, dIs, dIsNot, isNon, dep, deps, deq, deqs, dIdx, dCut, fLen, fAbs, fTuple, fList, fSum, fAll, fAny, fMax2, fMin2, toInts, toBls, isTy, lstAt, mkR, dRev, atI_0, atI_1, atI_2, cYes, Option.bind_some, Option.bind_none, Option.bind, List.getElem?_cons_zero, List.getElem?_cons_succ, List.set_cons_zero, List.set_cons_succ, List.length_cons, List.length_nil, if_true, if_false, reduceIte, decide_true, decide_false, Nat.zero_le, Nat.reduceLeDiff, Nat.reduceLT, Nat.reduceAdd, beq_self_eq_true, Bool.not_true, Bool.not_false, Bool.true_and, Bool.false_and, Bool.and_true, Bool.and_false, Bool.and_self, Bool.or_self, Bool.true_or, Bool.false_or, Bool.not_eq_true, Bool.false_eq_true, and_self, true_and, and_true, hd, hl2, he]
        rfl
      show forL (bName 13) L__law_holds_1 (D.int o :: dI r) _ = _
      rw [forL_step rfl s, grd, if_neg c]
      exact h
theorem l_own_rows (w a1 a2 a3 a4 a5 a6 a7 a8 a9 a10 a12 a13 a14 a15 a17 : D) : ∀ (f n : Nat) (acc : List Nat), n < 128 ^ f → 1 ≤ f → acc.length + f < 10000 → ∃ l x, whileF C__law_holds_1 L__law_holds_3 f [w, a1, a2, a3, a4, a5, a6, a7, a8, a9, a10, .int n, a12, a13, a14, a15, .lst (dI acc), a17] = some (.nx [w, a1, a2, a3, a4, a5, a6, a7, a8, a9, a10, .int (x : Nat), a12, a13, a14, a15, .lst (dI (acc ++ l)), a17]) ∧ byt f n = l ++ [x] ∧ l.length < f
  | 0, n, acc, _, h, _ => absurd h (by decide)
  | f + 1, n, acc, h, h1, h2 => by
    by_cases z : 128 ≤ n
    · by_cases f0 : f = 0
      · subst f0
        omega
      · obtain ⟨l, x, e, e2, e3⟩ := l_own_rows w a1 a2 a3 a4 a5 a6 a7 a8 a9 a10 a12 a13 a14 a15 a17 f (n / 128) (acc ++ [n % 128 + 128]) (by rw [Nat.pow_succ] at h; omega) (by omega) (by rw [List.length_append, List.length_singleton]; omega)
        have hc : C__law_holds_1 [w, a1, a2, a3, a4, a5, a6, a7, a8, a9, a10, .int n, a12, a13, a14, a15, .lst (dI acc), a17] = some true := by
          have hd : decide ((127 : Int) < (n : Int)) = true := decide_eq_true (by omega)
          simp only [C__law_holds_1, sSeq, sSet, sOwn, sRet, sRetN, sIf, sNil, sBk, sCt, sAsg, sPar2, sPar3, sPar2f, sPar3f, sAug, sApp, sExt, sSetI, sFor, gVar, gC, g1, g2, gF, gM, gCons, gNil, gT, gCh, gAnd, gOr, gNot, gIf, tAndG, tOrG, tNotG, gTup, gLst, gOn, gOs, gCut, toB, toI, toL, toT, iL, iT, iR1_eq, iR2_eq, toNat_nat, iZip, bName, bCons, bNil, bTup, dAdd, dAddS, dSub, dMul, dDiv, dMod, dPow, dShl, dShr, dAnd, dXor, dNeg, fI, fI0, dLt, dLe, dGt, dGe, dEq, dNe, dIs, dIsNot, isNon, dep, deps, deq, deqs, dIdx, dCut, fLen, fAbs, fTuple, fList, fSum, fAll, fAny, fMax2, fMin2, toInts, toBls, isTy, lstAt, mkR, dRev, atI_0, atI_1, atI_2, cYes, Option.bind_some, Option.bind_none, Option.bind, List.getElem?_cons_zero, List.getElem?_cons_succ, List.set_cons_zero, List.set_cons_succ, List.length_cons, List.length_nil, if_true, if_false, reduceIte, decide_true, decide_false, Nat.zero_le, Nat.reduceLeDiff, Nat.reduceLT, Nat.reduceAdd, beq_self_eq_true, Bool.not_true, Bool.not_false, Bool.true_and, Bool.false_and, Bool.and_true, Bool.and_false, Bool.and_self, Bool.or_self, Bool.true_or, Bool.false_or, Bool.not_eq_true, Bool.false_eq_true, and_self, true_and, and_true, hd]
        have s : L__law_holds_3 [w, a1, a2, a3, a4, a5, a6, a7, a8, a9, a10, .int n, a12, a13, a14, a15, .lst (dI acc), a17] = some (.nx [w, a1, a2, a3, a4, a5, a6, a7, a8, a9, a10, .int (n / 128 : Nat), a12, a13, a14, a15, .lst (dI (acc ++ [n % 128 + 128])), a17]) := by
          have hl : (dI acc).length < 1000000 := by rw [dI_len]; omega
          have e4 := mod_nat n 128 (by decide)
          have e5 := div_nat n 128 (by decide) (by decide)
          rw [show ((128 : Nat) : Int) = 128 from rfl] at e4 e5
          rw [dI_app]
          simp only [L__law_holds_3, sSeq, sSet, sOwn, sRet, sRetN, sIf, sNil, sBk, sCt, sAsg, sPar2, sPar3, sPar2f, sPar3f, sAug, sApp, sExt, sSetI, sFor, gVar, gC, g1, g2, gF, gM, gCons, gNil, gT, gCh, gAnd, gOr, gNot, gIf, tAndG, tOrG, tNotG, gTup, gLst, gOn, gOs, gCut, toB, toI, toL, toT, iL, iT, iR1_eq, iR2_eq, toNat_nat, iZip, bName, bCons, bNil, bTup, dAddS, dSub, dPow, dShl, dShr, dAnd, dXor, dNeg, fI0, dLt, dLe, dGt, dGe, dEq, dNe, dIs, dIsNot, isNon, dep, deps, deq, deqs, dIdx, dCut, fLen, fAbs, fTuple, fList, fSum, fAll, fAny, fMax2, fMin2, toInts, toBls, isTy, lstAt, mkR, dRev, atI_0, atI_1, atI_2, cYes, Option.bind_some, Option.bind_none, Option.bind, List.getElem?_cons_zero, List.getElem?_cons_succ, List.set_cons_zero, List.set_cons_succ, List.length_cons, List.length_nil, if_true, if_false, reduceIte, decide_true, decide_false, Nat.zero_le, Nat.reduceLeDiff, Nat.reduceLT, Nat.reduceAdd, beq_self_eq_true, Bool.not_true, Bool.not_false, Bool.true_and, Bool.false_and, Bool.and_true, Bool.and_false, Bool.and_self, Bool.or_self, Bool.true_or, Bool.false_or, Bool.not_eq_true, Bool.false_eq_true, and_self, true_and, and_true, dAdd_int, e4, e5, hl]
          rfl
        refine ⟨(n % 128 + 128) :: l, x, ?_, ?_, by rw [List.length_cons]; omega⟩
        · rw [whileF_step hc s, e, List.append_assoc]; rfl
        · rw [byt, if_pos z, e2]; rfl
    · have hc : C__law_holds_1 [w, a1, a2, a3, a4, a5, a6, a7, a8, a9, a10, .int n, a12, a13, a14, a15, .lst (dI acc), a17] = some false := by
        have hd : decide ((127 : Int) < (n : Int)) = false := decide_eq_false (by omega)
        simp only [C__law_holds_1, sSeq, sSet, sOwn, sRet, sRetN, sIf, sNil, sBk, sCt, sAsg, sPar2, sPar3, sPar2f, sPar3f, sAug, sApp, sExt, sSetI, sFor, gVar, gC, g1, g2, gF, gM, gCons, gNil, gT, gCh, gAnd, gOr, gNot, gIf, tAndG, tOrG, tNotG, gTup, gLst, gOn, gOs, gCut, toB, toI, toL, toT, iL, iT, iR1_eq, iR2_eq, toNat_nat, iZip, bName, bCons, bNil, bTup, dAdd, dAddS, dSub, dMul, dDiv, dMod, dPow, dShl, dShr, dAnd, dXor, dNeg, fI, fI0, dLt, dLe, dGt, dGe, dEq, dNe, dIs, dIsNot, isNon, dep, deps, deq, deqs, dIdx, dCut, fLen, fAbs, fTuple, fList, fSum, fAll, fAny, fMax2, fMin2, toInts, toBls, isTy, lstAt, mkR, dRev, atI_0, atI_1, atI_2, cYes, Option.bind_some, Option.bind_none, Option.bind, List.getElem?_cons_zero, List.getElem?_cons_succ, List.set_cons_zero, List.set_cons_succ, List.length_cons, List.length_nil, if_true, if_false, reduceIte, decide_true, decide_false, Nat.zero_le, Nat.reduceLeDiff, Nat.reduceLT, Nat.reduceAdd, beq_self_eq_true, Bool.not_true, Bool.not_false, Bool.true_and, Bool.false_and, Bool.and_true, Bool.and_false, Bool.and_self, Bool.or_self, Bool.true_or, Bool.false_or, Bool.not_eq_true, Bool.false_eq_true, and_self, true_and, and_true, hd]
      exact ⟨[], n, by rw [whileF_end hc, List.append_nil], by rw [byt, if_neg z]; rfl, by simp⟩
theorem cut_shape (q : Nat) (t : List Nat) (hb : isBits t) : ∃ rest, (List.replicate q 49 ++ ([48] ++ t)).dropLast = List.replicate q 49 ++ rest ∧ rest.head? ≠ some 49 ∧ isBits rest := by
  refine ⟨([48] ++ t).dropLast, List.dropLast_append_of_ne_nil (by intro z; cases z), ?_, fun c hc => ?_⟩
  · cases t with
    | nil => intro z; cases z
    | cons a r => intro z; cases z
  · rcases List.mem_append.mp (List.dropLast_subset _ hc) with z | z
    · exact .inl (List.mem_singleton.mp z)
    · exact hb c z
theorem hold (w : D) (n m k : Nat) (h : n < 997) (hm : 1 ≤ m) (hm' : m ≤ 20) (hk : k < 6) : F__law_holds [w, .int (n : Nat), .int (m : Nat), .int (k : Nat), .bot, .bot, .bot, .bot, .bot, .bot, .bot, .bot, .bot, .bot, .bot, .bot, .bot, .bot] = some (.ret (.bl true)) := by
  have hW := width_small (n := n + 1) (by omega)
  have hW0 : 0 < width (n + 1) := by rw [width_pos (by omega)]; omega
  have hS := width_small (n := width (n + 1)) (by omega)
  have hS0 : 0 < width (width (n + 1)) := by rw [width_pos (by omega)]; omega
  have hB := width_small (n := m - 1) (by omega)
  have en : (n : Int) + 1 = ((n + 1 : Nat) : Int) := by omega
  have hmod : n % m < m := Nat.mod_lt _ hm
  have hdle : n / m ≤ n := Nat.div_le_self _ _
  have eu := e_unary k (by omega)
  have htwo := List.all_eq_true.mp two_all n (List.mem_range.mpr h)
  unfold twoOk at htwo
  simp only [Bool.and_eq_true, Bool.not_eq_true', beq_iff_eq, decide_eq_true_eq] at htwo
  obtain ⟨⟨⟨⟨t1, t2⟩, t3⟩, t4⟩, t5⟩ := htwo
  -- wide
  refine sSeq_nx (δ' := [w, .int (n : Nat), .int (m : Nat), .int (k : Nat), .int (width (n + 1)), .bot, .bot, .bot, .bot, .bot, .bot, .bot, .bot, .bot, .bot, .bot, .bot, .bot]) (by
    simp only [sSeq, sSet, sOwn, sRet, sRetN, sIf, sNil, sBk, sCt, sAsg, sPar2, sPar3, sPar2f, sPar3f, sAug, sApp, sExt, sSetI, sFor, gVar, gC, g1, g2, gF, gM, gCons, gNil, gT, gCh, gAnd, gOr, gNot, gIf, tAndG, tOrG, tNotG, gTup, gLst, gOn, gOs, gCut, toB, toI, toL, toT, iL, iT, iR1_eq, iR2_eq, toNat_nat, iZip, bName, bCons, bNil, bTup, dAddS, dSub, dPow, dShl, dShr, dAnd, dXor, dNeg, fI0, dLt, dLe, dGt, dGe, dEq, dNe, dIs, dIsNot, isNon, dep, deps, deq, deqs, dIdx, dCut, fLen, fAbs, fTuple, fList, fSum, fAll, fAny, fMax2, fMin2, toInts, toBls, isTy, lstAt, mkR, dRev, atI_0, atI_1, atI_2, cYes, Option.bind_some, Option.bind_none, Option.bind, List.getElem?_cons_zero, List.getElem?_cons_succ, List.set_cons_zero, List.set_cons_succ, List.length_cons, List.length_nil, if_true, if_false, reduceIte, decide_true, decide_false, Nat.zero_le, Nat.reduceLeDiff, Nat.reduceLT, Nat.reduceAdd, beq_self_eq_true, Bool.not_true, Bool.not_false, Bool.true_and, Bool.false_and, Bool.and_true, Bool.and_false, Bool.and_self, Bool.or_self, Bool.true_or, Bool.false_or, Bool.not_eq_true, Bool.false_eq_true, and_self, true_and, and_true, dAdd_int, en, e__law_wide (n + 1) (by omega)]) ?_
  refine sSeq_nx (δ' := [w, .int (n : Nat), .int (m : Nat), .int (k : Nat), .int (width (n + 1)), .bot, .bot, .bot, .bot, .bot, .bot, .bot, .bot, .bot, .bot, .bot, .bot, .bot]) (by
    have a1 := ones_mul k (by omega)
    have a2 := app_str (List.replicate k 49) [48] (by rw [List.length_replicate, List.length_singleton]; omega)
    have a3 := dNe_refl_str (List.replicate k 49 ++ [48])
    have a4 := e_gamma n (by omega)
    have a5 : (width (n + 1) : Int) - 1 = ((width (n + 1) - 1 : Nat) : Int) := by omega
    have a6 := zeros_mul (width (n + 1) - 1) (by omega)
    have a7 := e__law_digits (n + 1) (width (n + 1)) (by omega)
    have a8 := app_str (List.replicate (width (n + 1) - 1) 48) (digL (n + 1) (width (n + 1))) (by rw [List.length_replicate, digL_len]; omega)
    have a9 := dNe_refl_str (gamL n)
    have b1 : List.replicate (width (n + 1) - 1) 48 ++ digL (n + 1) (width (n + 1)) = gamL n := rfl
    rw [b1] at a8
    simp only [sSeq, sSet, sOwn, sRet, sRetN, sIf, sNil, sBk, sCt, sAsg, sPar2, sPar3, sPar2f, sPar3f, sAug, sApp, sExt, sSetI, sFor, gVar, gC, g1, g2, gF, gM, gCons, gNil, gT, gCh, gAnd, gOr, gNot, gIf, tAndG, tOrG, tNotG, gTup, gLst, gOn, gOs, gCut, toB, toI, toL, toT, iL, iT, iR1_eq, iR2_eq, toNat_nat, iZip, bName, bCons, bNil, bTup, dAddS, dSub, dPow, dShl, dShr, dAnd, dXor, dNeg, fI0, dLt, dLe, dGt, dGe, dIs, dIsNot, isNon, dep, deps, deq, deqs, dCut, fLen, fAbs, fTuple, fList, fSum, fAll, fAny, fMax2, fMin2, toInts, toBls, isTy, lstAt, mkR, dRev, atI_0, atI_1, atI_2, cYes, Option.bind_some, Option.bind_none, Option.bind, List.getElem?_cons_zero, List.getElem?_cons_succ, List.set_cons_zero, List.set_cons_succ, List.length_cons, List.length_nil, if_true, if_false, reduceIte, decide_true, decide_false, Nat.zero_le, Nat.reduceLeDiff, Nat.reduceLT, Nat.reduceAdd, beq_self_eq_true, Bool.not_true, Bool.not_false, Bool.true_and, Bool.false_and, Bool.and_true, Bool.and_false, Bool.and_self, Bool.or_self, Bool.true_or, Bool.false_or, Bool.not_eq_true, Bool.false_eq_true, and_self, true_and, and_true, dAdd_int, dIdx, en, eu, a1, a2, a3, a4, a5, a6, a7, a8, a9]) ?_
  -- size
  refine sSeq_nx (δ' := [w, .int (n : Nat), .int (m : Nat), .int (k : Nat), .int (width (n + 1)), .int (width (width (n + 1))), .bot, .bot, .bot, .bot, .bot, .bot, .bot, .bot, .bot, .bot, .bot, .bot]) (by
    simp only [sSeq, sSet, sOwn, sRet, sRetN, sIf, sNil, sBk, sCt, sAsg, sPar2, sPar3, sPar2f, sPar3f, sAug, sApp, sExt, sSetI, sFor, gVar, gC, g1, g2, gF, gM, gCons, gNil, gT, gCh, gAnd, gOr, gNot, gIf, tAndG, tOrG, tNotG, gTup, gLst, gOn, gOs, gCut, toB, toI, toL, toT, iL, iT, iR1_eq, iR2_eq, toNat_nat, iZip, bName, bCons, bNil, bTup, dAddS, dSub, dPow, dShl, dShr, dAnd, dXor, dNeg, fI0, dLt, dLe, dGt, dGe, dEq, dNe, dIs, dIsNot, isNon, dep, deps, deq, deqs, dIdx, dCut, fLen, fAbs, fTuple, fList, fSum, fAll, fAny, fMax2, fMin2, toInts, toBls, isTy, lstAt, mkR, dRev, atI_0, atI_1, atI_2, cYes, Option.bind_some, Option.bind_none, Option.bind, List.getElem?_cons_zero, List.getElem?_cons_succ, List.set_cons_zero, List.set_cons_succ, List.length_cons, List.length_nil, if_true, if_false, reduceIte, decide_true, decide_false, Nat.zero_le, Nat.reduceLeDiff, Nat.reduceLT, Nat.reduceAdd, beq_self_eq_true, Bool.not_true, Bool.not_false, Bool.true_and, Bool.false_and, Bool.and_true, Bool.and_false, Bool.and_self, Bool.or_self, Bool.true_or, Bool.false_or, Bool.not_eq_true, Bool.false_eq_true, and_self, true_and, and_true, dAdd_int, e__law_wide (width (n + 1)) (by omega)]) ?_
  refine sSeq_nx (δ' := [w, .int (n : Nat), .int (m : Nat), .int (k : Nat), .int (width (n + 1)), .int (width (width (n + 1))), .bot, .bot, .bot, .bot, .bot, .bot, .bot, .bot, .bot, .bot, .bot, .bot]) (by
    have a1 := e_delta n (by omega)
    have a5 : (width (width (n + 1)) : Int) - 1 = ((width (width (n + 1)) - 1 : Nat) : Int) := by omega
    have a6 := zeros_mul (width (width (n + 1)) - 1) (by omega)
    have a7 := e__law_digits (width (n + 1)) (width (width (n + 1))) (by omega)
    have a8 := app_str (List.replicate (width (width (n + 1)) - 1) 48) (digL (width (n + 1)) (width (width (n + 1)))) (by rw [List.length_replicate, digL_len]; omega)
    have a9 := e__law_digits (n + 1) (width (n + 1)) (by omega)
    have b1 : cut (digL (n + 1) (width (n + 1))) (some 1) none = (digL (n + 1) (width (n + 1))).drop 1 := cut_from _ 1
    have b2 := app_str (List.replicate (width (width (n + 1)) - 1) 48 ++ digL (width (n + 1)) (width (width (n + 1)))) ((digL (n + 1) (width (n + 1))).drop 1) (by rw [List.length_append, List.length_replicate, digL_len, List.length_drop, digL_len]; omega)
    have b3 : List.replicate (width (width (n + 1)) - 1) 48 ++ digL (width (n + 1)) (width (width (n + 1))) ++ (digL (n + 1) (width (n + 1))).drop 1 = delL n := by
      unfold delL gamL binL
      rw [show width (n + 1) - 1 + 1 = width (n + 1) by omega]
    rw [b3] at b2
    have b4 := dNe_refl_str (delL n)
    have c1 := e_rice n k (by omega) (by omega)
    have c2 := shr_nat n k
    have hd : n / 2 ^ k ≤ n := Nat.div_le_self _ _
    have c3 := e_unary (n / 2 ^ k) (by omega)
    have c4 := e__law_digits n k (by omega)
    have c5 := app_str (List.replicate (n / 2 ^ k) 49 ++ [48]) (digL n k) (by rw [List.length_append, List.length_replicate, List.length_singleton, digL_len]; omega)
    have c6 := dNe_refl_str (List.replicate (n / 2 ^ k) 49 ++ [48] ++ digL n k)
    simp only [sSeq, sSet, sOwn, sRet, sRetN, sIf, sNil, sBk, sCt, sAsg, sPar2, sPar3, sPar2f, sPar3f, sAug, sApp, sExt, sSetI, sFor, gVar, gC, g1, g2, gF, gM, gCons, gNil, gT, gCh, gAnd, gOr, gNot, gIf, tAndG, tOrG, tNotG, gTup, gLst, gOn, gOs, gCut, toB, toI, toL, toT, iL, iT, iR1_eq, iR2_eq, toNat_nat, iZip, bName, bCons, bNil, bTup, dAddS, dSub, dPow, dAnd, dXor, dNeg, fI0, dLt, dLe, dGt, dGe, dIs, dIsNot, isNon, dep, deps, deq, deqs, dCut, fLen, fAbs, fTuple, fList, fSum, fAll, fAny, fMax2, fMin2, toInts, toBls, isTy, lstAt, mkR, dRev, atI_0, atI_1, atI_2, cYes, Option.bind_some, Option.bind_none, Option.bind, List.getElem?_cons_zero, List.getElem?_cons_succ, List.set_cons_zero, List.set_cons_succ, List.length_cons, List.length_nil, if_true, if_false, reduceIte, decide_true, decide_false, Nat.zero_le, Nat.reduceLeDiff, Nat.reduceLT, Nat.reduceAdd, beq_self_eq_true, Bool.not_true, Bool.not_false, Bool.true_and, Bool.false_and, Bool.and_true, Bool.and_false, Bool.and_self, Bool.or_self, Bool.true_or, Bool.false_or, Bool.not_eq_true, Bool.false_eq_true, and_self, true_and, and_true, dAdd_int, dIdx, en, a1, a5, a6, a7, a8, a9, b1, b2, b4, c1, c2, c3, c4, c5, c6]) ?_
  -- golomb
  refine sSeq_nx (δ' := [w, .int (n : Nat), .int (m : Nat), .int (k : Nat), .int (width (n + 1)), .int (width (width (n + 1))), .int (width (m - 1)), .bot, .bot, .bot, .bot, .bot, .bot, .bot, .bot, .bot, .bot, .bot]) (by
    have a1 : (m : Int) - 1 = ((m - 1 : Nat) : Int) := by omega
    simp only [sSeq, sSet, sOwn, sRet, sRetN, sIf, sNil, sBk, sCt, sAsg, sPar2, sPar3, sPar2f, sPar3f, sAug, sApp, sExt, sSetI, sFor, gVar, gC, g1, g2, gF, gM, gCons, gNil, gT, gCh, gAnd, gOr, gNot, gIf, tAndG, tOrG, tNotG, gTup, gLst, gOn, gOs, gCut, toB, toI, toL, toT, iL, iT, iR1_eq, iR2_eq, toNat_nat, iZip, bName, bCons, bNil, bTup, dAddS, dSub, dPow, dShl, dShr, dAnd, dXor, dNeg, fI0, dLt, dLe, dGt, dGe, dEq, dNe, dIs, dIsNot, isNon, dep, deps, deq, deqs, dIdx, dCut, fLen, fAbs, fTuple, fList, fSum, fAll, fAny, fMax2, fMin2, toInts, toBls, isTy, lstAt, mkR, dRev, atI_0, atI_1, atI_2, cYes, Option.bind_some, Option.bind_none, Option.bind, List.getElem?_cons_zero, List.getElem?_cons_succ, List.set_cons_zero, List.set_cons_succ, List.length_cons, List.length_nil, if_true, if_false, reduceIte, decide_true, decide_false, Nat.zero_le, Nat.reduceLeDiff, Nat.reduceLT, Nat.reduceAdd, beq_self_eq_true, Bool.not_true, Bool.not_false, Bool.true_and, Bool.false_and, Bool.and_true, Bool.and_false, Bool.and_self, Bool.or_self, Bool.true_or, Bool.false_or, Bool.not_eq_true, Bool.false_eq_true, and_self, true_and, and_true, dAdd_int, a1, e__law_wide (m - 1) (by omega)]) ?_
  refine sSeq_nx (δ' := [w, .int (n : Nat), .int (m : Nat), .int (k : Nat), .int (width (n + 1)), .int (width (width (n + 1))), .int (width (m - 1)), .int (shortW m), .int (n % m : Nat), .bot, .bot, .bot, .bot, .bot, .bot, .bot, .bot, .bot]) (by
    have a1 := shl_one (width (m - 1)) (by omega)
    have a2 := mod_nat n m hm
    have a3 := width_m hm
    have a4 : ((2 ^ width (m - 1) : Nat) : Int) - (m : Int) = ((shortW m : Nat) : Int) := by unfold shortW; omega
    simp only [sSeq, sSet, sOwn, sRet, sRetN, sIf, sNil, sBk, sCt, sAsg, sPar2, sPar3, sPar2f, sPar3f, sAug, sApp, sExt, sSetI, sFor, gVar, gC, g1, g2, gF, gM, gCons, gNil, gT, gCh, gAnd, gOr, gNot, gIf, tAndG, tOrG, tNotG, gTup, gLst, gOn, gOs, gCut, toB, toI, toL, toT, iL, iT, iR1_eq, iR2_eq, toNat_nat, iZip, bName, bCons, bNil, bTup, dAddS, dSub, dPow, dAnd, dXor, dNeg, fI0, dLt, dLe, dGt, dGe, dIs, dIsNot, isNon, dep, deps, deq, deqs, dCut, fLen, fAbs, fTuple, fList, fSum, fAll, fAny, fMax2, fMin2, toInts, toBls, isTy, lstAt, mkR, dRev, atI_0, atI_1, atI_2, cYes, Option.bind_some, Option.bind_none, Option.bind, List.getElem?_cons_zero, List.getElem?_cons_succ, List.set_cons_zero, List.set_cons_succ, List.length_cons, List.length_nil, if_true, if_false, reduceIte, decide_true, decide_false, Nat.zero_le, Nat.reduceLeDiff, Nat.reduceLT, Nat.reduceAdd, beq_self_eq_true, Bool.not_true, Bool.not_false, Bool.true_and, Bool.false_and, Bool.and_true, Bool.and_false, Bool.and_self, Bool.or_self, Bool.true_or, Bool.false_or, Bool.not_eq_true, Bool.false_eq_true, and_self, true_and, and_true, dAdd_int, dIdx, a1, a2, a4]) ?_
  refine sSeq_nx (δ' := [w, .int (n : Nat), .int (m : Nat), .int (k : Nat), .int (width (n + 1)), .int (width (width (n + 1))), .int (width (m - 1)), .int (shortW m), .int (n % m : Nat), .str (golL n m), .bot, .bot, .bot, .bot, .bot, .bot, .bot, .bot]) (by
    have a1 := div_nat n m hm (by omega)
    have a2 := e_unary (n / m) (by omega)
    have ht := golT_len n m (by omega)
    have a3 := app_str (List.replicate (n / m) 49 ++ [48]) (golT n m) (by rw [List.length_append, List.length_replicate, List.length_singleton]; omega)
    rw [List.append_assoc, show List.replicate (n / m) 49 ++ ([48] ++ golT n m) = golL n m from rfl] at a3
    by_cases s : n % m < shortW m
    · have hs : decide (((n % m : Nat) : Int) < (shortW m : Int)) = true := decide_eq_true (by omega)
      have hw1 := short_wide hm (by omega : 0 < shortW m)
      have a4 : ((width (m - 1) : Int) == 0) = false := by simp; omega
      have a5 : (width (m - 1) : Int) - 1 = ((width (m - 1) - 1 : Nat) : Int) := by omega
      have a6 := e__law_digits (n % m) (width (m - 1) - 1) (by omega)
      rw [show digL (n % m) (width (m - 1) - 1) = golT n m from (if_pos s).symm] at a6
      simp only [sSeq, sSet, sOwn, sRet, sRetN, sIf, sNil, sBk, sCt, sAsg, sPar2, sPar3, sPar2f, sPar3f, sAug, sApp, sExt, sSetI, sFor, gVar, gC, g1, g2, gF, gM, gCons, gNil, gT, gCh, gAnd, gOr, gNot, gIf, tAndG, tOrG, tNotG, gTup, gLst, gOn, gOs, gCut, toB, toI, toL, toT, iL, iT, iR1_eq, iR2_eq, toNat_nat, iZip, bName, bCons, bNil, bTup, dAddS, dSub, dPow, dShl, dShr, dAnd, dXor, dNeg, fI0, dLt, dLe, dGt, dGe, dEq, dNe, dIs, dIsNot, isNon, dep, deps, deq, deqs, dIdx, dCut, fLen, fAbs, fTuple, fList, fSum, fAll, fAny, fMax2, fMin2, toInts, toBls, isTy, lstAt, mkR, dRev, atI_0, atI_1, atI_2, cYes, Option.bind_some, Option.bind_none, Option.bind, List.getElem?_cons_zero, List.getElem?_cons_succ, List.set_cons_zero, List.set_cons_succ, List.length_cons, List.length_nil, if_true, if_false, reduceIte, decide_true, decide_false, Nat.zero_le, Nat.reduceLeDiff, Nat.reduceLT, Nat.reduceAdd, beq_self_eq_true, Bool.not_true, Bool.not_false, Bool.true_and, Bool.false_and, Bool.and_true, Bool.and_false, Bool.and_self, Bool.or_self, Bool.true_or, Bool.false_or, Bool.not_eq_true, Bool.false_eq_true, and_self, true_and, and_true, dAdd_int, a1, a2, hs, a4, a5, a6, a3]
    · have hs : decide (((n % m : Nat) : Int) < (shortW m : Int)) = false := decide_eq_false (by omega)
      have a5 : ((n % m : Nat) : Int) + (shortW m : Int) = ((n % m + shortW m : Nat) : Int) := by omega
      have a6 := e__law_digits (n % m + shortW m) (width (m - 1)) (by omega)
      rw [show digL (n % m + shortW m) (width (m - 1)) = golT n m from (if_neg s).symm] at a6
      simp only [sSeq, sSet, sOwn, sRet, sRetN, sIf, sNil, sBk, sCt, sAsg, sPar2, sPar3, sPar2f, sPar3f, sAug, sApp, sExt, sSetI, sFor, gVar, gC, g1, g2, gF, gM, gCons, gNil, gT, gCh, gAnd, gOr, gNot, gIf, tAndG, tOrG, tNotG, gTup, gLst, gOn, gOs, gCut, toB, toI, toL, toT, iL, iT, iR1_eq, iR2_eq, toNat_nat, iZip, bName, bCons, bNil, bTup, dAddS, dSub, dPow, dShl, dShr, dAnd, dXor, dNeg, fI0, dLt, dLe, dGt, dGe, dEq, dNe, dIs, dIsNot, isNon, dep, deps, deq, deqs, dIdx, dCut, fLen, fAbs, fTuple, fList, fSum, fAll, fAny, fMax2, fMin2, toInts, toBls, isTy, lstAt, mkR, dRev, atI_0, atI_1, atI_2, cYes, Option.bind_some, Option.bind_none, Option.bind, List.getElem?_cons_zero, List.getElem?_cons_succ, List.set_cons_zero, List.set_cons_succ, List.length_cons, List.length_nil, if_true, if_false, reduceIte, decide_true, decide_false, Nat.zero_le, Nat.reduceLeDiff, Nat.reduceLT, Nat.reduceAdd, beq_self_eq_true, Bool.not_true, Bool.not_false, Bool.true_and, Bool.false_and, Bool.and_true, Bool.and_false, Bool.and_self, Bool.or_self, Bool.true_or, Bool.false_or, Bool.not_eq_true, Bool.false_eq_true, and_self, true_and, and_true, dAdd_int, a1, a2, hs, a5, a6, a3]) ?_
  refine sSeq_nx (δ' := [w, .int (n : Nat), .int (m : Nat), .int (k : Nat), .int (width (n + 1)), .int (width (width (n + 1))), .int (width (m - 1)), .int (shortW m), .int (n % m : Nat), .str (golL n m), .bot, .bot, .bot, .bot, .bot, .bot, .bot, .bot]) (by
    have a1 := e_golomb n m (by omega) hm (by omega)
    have a2 := dNe_refl_str (golL n m)
    simp only [sSeq, sSet, sOwn, sRet, sRetN, sIf, sNil, sBk, sCt, sAsg, sPar2, sPar3, sPar2f, sPar3f, sAug, sApp, sExt, sSetI, sFor, gVar, gC, g1, g2, gF, gM, gCons, gNil, gT, gCh, gAnd, gOr, gNot, gIf, tAndG, tOrG, tNotG, gTup, gLst, gOn, gOs, gCut, toB, toI, toL, toT, iL, iT, iR1_eq, iR2_eq, toNat_nat, iZip, bName, bCons, bNil, bTup, dAddS, dSub, dPow, dShl, dShr, dAnd, dXor, dNeg, fI0, dLt, dLe, dGt, dGe, dIs, dIsNot, isNon, dep, deps, deq, deqs, dCut, fLen, fAbs, fTuple, fList, fSum, fAll, fAny, fMax2, fMin2, toInts, toBls, isTy, lstAt, mkR, dRev, atI_0, atI_1, atI_2, cYes, Option.bind_some, Option.bind_none, Option.bind, List.getElem?_cons_zero, List.getElem?_cons_succ, List.set_cons_zero, List.set_cons_succ, List.length_cons, List.length_nil, if_true, if_false, reduceIte, decide_true, decide_false, Nat.zero_le, Nat.reduceLeDiff, Nat.reduceLT, Nat.reduceAdd, beq_self_eq_true, Bool.not_true, Bool.not_false, Bool.true_and, Bool.false_and, Bool.and_true, Bool.and_false, Bool.and_self, Bool.or_self, Bool.true_or, Bool.false_or, Bool.not_eq_true, Bool.false_eq_true, and_self, true_and, and_true, dAdd_int, dIdx, a1, a2]) ?_
  -- steps
  refine sSeq_nx (δ' := [w, .int (n : Nat), .int (m : Nat), .int (k : Nat), .int (width (n + 1)), .int (width (width (n + 1))), .int (width (m - 1)), .int (shortW m), .int (n % m : Nat), .str (golL n m), .lst (dI ([] ++ [1, 2])), .bot, .bot, .bot, .bot, .bot, .bot, .bot]) (by
    simp only [sSeq, sSet, sOwn, sRet, sRetN, sIf, sNil, sBk, sCt, sAsg, sPar2, sPar3, sPar2f, sPar3f, sAug, sApp, sExt, sSetI, sFor, gVar, gC, g1, g2, gF, gM, gCons, gNil, gT, gCh, gAnd, gOr, gNot, gIf, tAndG, tOrG, tNotG, gTup, gLst, gOn, gOs, gCut, toB, toI, toL, toT, iL, iT, iR1_eq, iR2_eq, toNat_nat, iZip, bName, bCons, bNil, bTup, dAdd, dAddS, dSub, dMul, dDiv, dMod, dPow, dShl, dShr, dAnd, dXor, dNeg, fI, fI0, dLt, dLe, dGt, dGe, dEq, dNe, dIs, dIsNot, isNon, dep, deps, deq, deqs, dIdx, dCut, fLen, fAbs, fTuple, fList, fSum, fAll, fAny, fMax2, fMin2, toInts, toBls, isTy, lstAt, mkR, dRev, atI_0, atI_1, atI_2, cYes, Option.bind_some, Option.bind_none, Option.bind, List.getElem?_cons_zero, List.getElem?_cons_succ, List.set_cons_zero, List.set_cons_succ, List.length_cons, List.length_nil, if_true, if_false, reduceIte, decide_true, decide_false, Nat.zero_le, Nat.reduceLeDiff, Nat.reduceLT, Nat.reduceAdd, beq_self_eq_true, Bool.not_true, Bool.not_false, Bool.true_and, Bool.false_and, Bool.and_true, Bool.and_false, Bool.and_self, Bool.or_self, Bool.true_or, Bool.false_or, Bool.not_eq_true, Bool.false_eq_true, and_self, true_and, and_true]
    rfl) ?_
  refine sSeq_nx (l_own_steps n w (.int m) (.int k) (.int (width (n + 1))) (.int (width (width (n + 1)))) (.int (width (m - 1))) (.int (shortW m)) (.int (n % m : Nat)) (.str (golL n m)) .bot .bot .bot .bot .bot .bot .bot 1000 [] 1 2 (by decide) (by decide) (by omega) (by decide)) ?_
  refine sSeq_nx (δ' := [w, .int (n : Nat), .int (m : Nat), .int (k : Nat), .int (width (n + 1)), .int (width (width (n + 1))), .int (width (m - 1)), .int (shortW m), .int (n % m : Nat), .str (golL n m), .lst (dI (stW (n + 1) 1000 [] 1 2)), .int (n + 1 : Nat), .str [], .bot, .bot, .bot, .bot, .bot]) (by
    simp only [sSeq, sSet, sOwn, sRet, sRetN, sIf, sNil, sBk, sCt, sAsg, sPar2, sPar3, sPar2f, sPar3f, sAug, sApp, sExt, sSetI, sFor, gVar, gC, g1, g2, gF, gM, gCons, gNil, gT, gCh, gAnd, gOr, gNot, gIf, tAndG, tOrG, tNotG, gTup, gLst, gOn, gOs, gCut, toB, toI, toL, toT, iL, iT, iR1_eq, iR2_eq, toNat_nat, iZip, bName, bCons, bNil, bTup, dAdd, dAddS, dSub, dMul, dDiv, dMod, dPow, dShl, dShr, dAnd, dXor, dNeg, fI, fI0, dLt, dLe, dGt, dGe, dEq, dNe, dIs, dIsNot, isNon, dep, deps, deq, deqs, dIdx, dCut, fLen, fAbs, fTuple, fList, fSum, fAll, fAny, fMax2, fMin2, toInts, toBls, isTy, lstAt, mkR, dRev, atI_0, atI_1, atI_2, cYes, Option.bind_some, Option.bind_none, Option.bind, List.getElem?_cons_zero, List.getElem?_cons_succ, List.set_cons_zero, List.set_cons_succ, List.length_cons, List.length_nil, if_true, if_false, reduceIte, decide_true, decide_false, Nat.zero_le, Nat.reduceLeDiff, Nat.reduceLT, Nat.reduceAdd, beq_self_eq_true, Bool.not_true, Bool.not_false, Bool.true_and, Bool.false_and, Bool.and_true, Bool.and_false, Bool.and_self, Bool.or_self, Bool.true_or, Bool.false_or, Bool.not_eq_true, Bool.false_eq_true, and_self, true_and, and_true, en]) ?_
  have hsl := stL_len (n + 1)
  obtain ⟨z1, hz1⟩ := l_own_two w (.int n) (.int m) (.int k) (.int (width (n + 1))) (.int (width (width (n + 1)))) (.int (width (m - 1))) (.int (shortW m)) (.int (n % m : Nat)) (.str (golL n m)) (.lst (dI (stW (n + 1) 1000 [] 1 2))) .bot .bot .bot .bot (stL (n + 1)).reverse (n + 1) [] .bot (by rw [List.length_reverse]; simp; omega)
  refine sSeq_nx (δ' := [w, .int (n : Nat), .int (m : Nat), .int (k : Nat), .int (width (n + 1)), .int (width (width (n + 1))), .int (width (m - 1)), .int (shortW m), .int (n % m : Nat), .str (golL n m), .lst (dI (stW (n + 1) 1000 [] 1 2)), .int (grd (stL (n + 1)).reverse (n + 1) []).2, .str (txL n), z1, .bot, .bot, .bot, .bot]) (by
    have hc : compL (bName 17) K__law_holds_0 E__law_holds_0 [w, .int (n : Nat), .int (m : Nat), .int (k : Nat), .int (width (n + 1)), .int (width (width (n + 1))), .int (width (m - 1)), .int (shortW m), .int (n % m : Nat), .str (golL n m), .lst (dI (stW (n + 1) 1000 [] 1 2)), .int (n + 1 : Nat), .str [], .bot, .bot, .bot, .bot, .bot] (dI (stW (n + 1) 1000 [] 1 2)) = some (dI (stL (n + 1))) := by
      have hh := compL_filter (bd := bName 17) (c := K__law_holds_0) (e := E__law_holds_0) (δw := [w, .int (n : Nat), .int (m : Nat), .int (k : Nat), .int (width (n + 1)), .int (width (width (n + 1))), .int (width (m - 1)), .int (shortW m), .int (n % m : Nat), .str (golL n m), .lst (dI (stW (n + 1) 1000 [] 1 2)), .int (n + 1 : Nat), .str [], .bot, .bot, .bot, .bot, .bot]) (leD (n + 1)) id (l := dI (stW (n + 1) 1000 [] 1 2)) fun d hd => by
        obtain ⟨x, rfl⟩ := mem_dI hd
        refine ⟨_, rfl, ?_, fun _ => ?_⟩
        · simp only [K__law_holds_0, sSeq, sSet, sOwn, sRet, sRetN, sIf, sNil, sBk, sCt, sAsg, sPar2, sPar3, sPar2f, sPar3f, sAug, sApp, sExt, sSetI, sFor, gVar, gC, g1, g2, gF, gM, gCons, gNil, gT, gCh, gAnd, gOr, gNot, gIf, tAndG, tOrG, tNotG, gTup, gLst, gOn, gOs, gCut, toB, toI, toL, toT, iL, iT, iR1_eq, iR2_eq, toNat_nat, iZip, bName, bCons, bNil, bTup, dAdd, dAddS, dSub, dMul, dDiv, dMod, dPow, dShl, dShr, dAnd, dXor, dNeg, fI, fI0, dLt, dLe, dGt, dGe, dEq, dNe, dIs, dIsNot, isNon, dep, deps, deq, deqs, dIdx, dCut, fLen, fAbs, fTuple, fList, fSum, fAll, fAny, fMax2, fMin2, toInts, toBls, isTy, lstAt, mkR, dRev, atI_0, atI_1, atI_2, cYes, Option.bind_some, Option.bind_none, Option.bind, List.getElem?_cons_zero, List.getElem?_cons_succ, List.set_cons_zero, List.set_cons_succ, List.length_cons, List.length_nil, if_true, if_false, reduceIte, decide_true, decide_false, Nat.zero_le, Nat.reduceLeDiff, Nat.reduceLT, Nat.reduceAdd, beq_self_eq_true, Bool.not_true, Bool.not_false, Bool.true_and, Bool.false_and, Bool.and_true, Bool.and_false, Bool.and_self, Bool.or_self, Bool.true_or, Bool.false_or, Bool.not_eq_true, Bool.false_eq_true, and_self, true_and, and_true, leD, en]
        · simp only [E__law_holds_0, sSeq, sSet, sOwn, sRet, sRetN, sIf, sNil, sBk, sCt, sAsg, sPar2, sPar3, sPar2f, sPar3f, sAug, sApp, sExt, sSetI, sFor, gVar, gC, g1, g2, gF, gM, gCons, gNil, gT, gCh, gAnd, gOr, gNot, gIf, tAndG, tOrG, tNotG, gTup, gLst, gOn, gOs, gCut, toB, toI, toL, toT, iL, iT, iR1_eq, iR2_eq, toNat_nat, iZip, bName, bCons, bNil, bTup, dAdd, dAddS, dSub, dMul, dDiv, dMod, dPow, dShl, dShr, dAnd, dXor, dNeg, fI, fI0, dLt, dLe, dGt, dGe, dEq, dNe, dIs, dIsNot, isNon, dep, deps, deq, deqs, dIdx, dCut, fLen, fAbs, fTuple, fList, fSum, fAll, fAny, fMax2, fMin2, toInts, toBls, isTy, lstAt, mkR, dRev, atI_0, atI_1, atI_2, cYes, Option.bind_some, Option.bind_none, Option.bind, List.getElem?_cons_zero, List.getElem?_cons_succ, List.set_cons_zero, List.set_cons_succ, List.length_cons, List.length_nil, if_true, if_false, reduceIte, decide_true, decide_false, Nat.zero_le, Nat.reduceLeDiff, Nat.reduceLT, Nat.reduceAdd, beq_self_eq_true, Bool.not_true, Bool.not_false, Bool.true_and, Bool.false_and, Bool.and_true, Bool.and_false, Bool.and_self, Bool.or_self, Bool.true_or, Bool.false_or, Bool.not_eq_true, Bool.false_eq_true, and_self, true_and, and_true, id]
      rw [List.map_id, filter_dI (fun x => decide (x ≤ n + 1)) (leD (n + 1)) (fun x => by show decide ((x : Int) ≤ ((n + 1 : Nat) : Int)) = decide (x ≤ n + 1); exact decide_eq_decide.mpr (by omega))] at hh
      exact hh
    have hl : (dI (stW (n + 1) 1000 [] 1 2)).length ≤ 1000000 := by
      have := stW_len (n + 1) 1000 [] 1 2
      rw [dI_len]
      simp at this
      omega
    simp only [sSeq, sSet, sOwn, sRet, sRetN, sIf, sNil, sBk, sCt, sAsg, sPar2, sPar3, sPar2f, sPar3f, sAug, sApp, sExt, sSetI, sFor, gVar, gC, g1, g2, gF, gM, gCons, gNil, gT, gCh, gAnd, gOr, gNot, gIf, tAndG, tOrG, tNotG, gTup, gLst, gOn, gOs, gCut, toB, toI, toL, toT, iL, iT, iR1_eq, iR2_eq, toNat_nat, iZip, bName, bCons, bNil, bTup, dAdd, dAddS, dSub, dMul, dDiv, dMod, dPow, dShl, dShr, dAnd, dXor, dNeg, fI, fI0, dLt, dLe, dGt, dGe, dEq, dNe, dIs, dIsNot, isNon, dep, deps, deq, deqs, dIdx, dCut, fLen, fAbs, fTuple, fList, fSum, fAll, fAny, fMax2, fMin2, toInts, toBls, isTy, lstAt, mkR, dRev, atI_0, atI_1, atI_2, cYes, Option.bind_some, Option.bind_none, Option.bind, List.getElem?_cons_zero, List.getElem?_cons_succ, List.set_cons_zero, List.set_cons_succ, List.length_cons, List.length_nil, if_true, if_false, reduceIte, decide_true, decide_false, Nat.zero_le, Nat.reduceLeDiff, Nat.reduceLT, Nat.reduceAdd, beq_self_eq_true, Bool.not_true, Bool.not_false, Bool.true_and, Bool.false_and, Bool.and_true, Bool.and_false, Bool.and_self, Bool.or_self, Bool.true_or, Bool.false_or, Bool.not_eq_true, Bool.false_eq_true, and_self, true_and, and_true, gLc, wipeE, hl, hc, dI_rev]
    exact hz1) ?_
  refine sSeq_nx (δ' := [w, .int (n : Nat), .int (m : Nat), .int (k : Nat), .int (width (n + 1)), .int (width (width (n + 1))), .int (width (m - 1)), .int (shortW m), .int (n % m : Nat), .str (golL n m), .lst (dI (stW (n + 1) 1000 [] 1 2)), .int (grd (stL (n + 1)).reverse (n + 1) []).2, .str (txL n), z1, .bot, .bot, .bot, .bot]) (by
    have hl : (txL n).length ≤ 1002 := by unfold txL; rw [grd_len, List.length_reverse]; simp; omega
    have a1 := e_by_two n h
    have a2 := app_str (txL n) [49] (by rw [List.length_singleton]; omega)
    have a3 := dNe_refl_str (txL n ++ [49])
    simp only [sSeq, sSet, sOwn, sRet, sRetN, sIf, sNil, sBk, sCt, sAsg, sPar2, sPar3, sPar2f, sPar3f, sAug, sApp, sExt, sSetI, sFor, gVar, gC, g1, g2, gF, gM, gCons, gNil, gT, gCh, gAnd, gOr, gNot, gIf, tAndG, tOrG, tNotG, gTup, gLst, gOn, gOs, gCut, toB, toI, toL, toT, iL, iT, iR1_eq, iR2_eq, toNat_nat, iZip, bName, bCons, bNil, bTup, dAddS, dSub, dPow, dShl, dShr, dAnd, dXor, dNeg, fI0, dLt, dLe, dGt, dGe, dIs, dIsNot, isNon, dep, deps, deq, deqs, dCut, fLen, fAbs, fTuple, fList, fSum, fAll, fAny, fMax2, fMin2, toInts, toBls, isTy, lstAt, mkR, dRev, atI_0, atI_1, atI_2, cYes, Option.bind_some, Option.bind_none, Option.bind, List.getElem?_cons_zero, List.getElem?_cons_succ, List.set_cons_zero, List.set_cons_succ, List.length_cons, List.length_nil, if_true, if_false, reduceIte, decide_true, decide_false, Nat.zero_le, Nat.reduceLeDiff, Nat.reduceLT, Nat.reduceAdd, beq_self_eq_true, Bool.not_true, Bool.not_false, Bool.true_and, Bool.false_and, Bool.and_true, Bool.and_false, Bool.and_self, Bool.or_self, Bool.true_or, Bool.false_or, Bool.not_eq_true, Bool.false_eq_true, and_self, true_and, and_true, dAdd_int, dIdx, a1, a2, a3, dIn, t1]) ?_
  -- the kinds
  have hltx : (txL n).length ≤ 1002 := by unfold txL; rw [grd_len, List.length_reverse]; simp; omega
  have b01 : isBits [48, 49] := fun c hc => by simpa using hc
  have hdk : n / 2 ^ k ≤ n := Nat.div_le_self _ _
  have hpk := pow_small k (by omega)
  have hdm : n / m * m + n % m = n := by rw [Nat.mul_comm]; exact Nat.div_add_mod n m
  -- unary
  have r0 := e_read_unary n [48, 48, 49] (by decide) (by omega)
  rw [if_neg (by decide)] at r0
  have r0' := e_read_unary n [] (by decide) (by omega)
  rw [if_pos rfl, List.append_nil] at r0'
  -- rice
  have r3 := e_read_rice (n / 2 ^ k) k ([48] ++ digL n k ++ [48, 49]) (by intro z; cases z) (by omega) (by omega) (isBits_app (isBits_app (fun c hc => .inl (List.mem_singleton.mp hc)) (digL_bits _ _)) b01)
  have r3d : ([48] ++ digL n k ++ [48, 49]).drop 1 = digL n k ++ [48, 49] := rfl
  have r3l : ([48] ++ digL n k ++ [48, 49]).length = k + 3 := by rw [List.length_append, List.length_append, digL_len]; show 1 + k + 2 = _; omega
  rw [if_neg (by intro z; cases z), r3d, r3l, if_pos (by omega), List.take_append_of_le_length (by rw [digL_len]; exact Nat.le_refl _), List.take_of_length_le (by rw [digL_len]; exact Nat.le_refl _), valL_mod, Nat.mul_comm, Nat.div_add_mod] at r3
  have bits3 : isBits (List.replicate (n / 2 ^ k) 49 ++ [48] ++ digL n k) := isBits_app (isBits_app (isBits_rep (.inr rfl)) (fun c hc => .inl (List.mem_singleton.mp hc))) (digL_bits _ _)
  have len3 : (List.replicate (n / 2 ^ k) 49 ++ [48] ++ digL n k).length = n / 2 ^ k + 1 + k := by rw [List.length_append, List.length_append, List.length_replicate, List.length_singleton, digL_len]
  obtain ⟨s3, hs3, hh3, hb3⟩ := cut_shape (n / 2 ^ k) (digL n k) (digL_bits _ _)
  obtain ⟨x3, hx3⟩ : ∃ x, m_read_rice [.str (List.replicate (n / 2 ^ k) 49 ++ [48] ++ digL n k).dropLast, .int 0, .int k] = some x := by
    rw [List.append_assoc, hs3]
    exact ⟨_, e_read_rice _ k s3 hh3 (by omega) (by omega) hb3⟩
  -- golomb
  have htl := golT_len n m (by omega)
  have bits4 : isBits (golL n m) := isBits_app (isBits_rep (.inr rfl)) (isBits_app (fun c hc => .inl (List.mem_singleton.mp hc)) (golT_bits n m))
  have len4 : (golL n m).length = n / m + 1 + (golT n m).length := by unfold golL; rw [List.length_append, List.length_append, List.length_replicate, List.length_singleton]; omega
  have htl2 : (golT n m).length ≤ 5 := by
    have : width (m - 1) ≤ 5 := width_lt 5 _ (by omega)
    unfold golT; split <;> rw [digL_len] <;> omega
  obtain ⟨s4, hs4, hh4, hb4⟩ := cut_shape (n / m) (golT n m) (golT_bits n m)
  obtain ⟨x4, hx4⟩ : ∃ x, m_read_golomb [.str (golL n m).dropLast, .int 0, .int m] = some x := by
    unfold golL
    rw [hs4]
    exact ⟨_, e_read_golomb _ m s4 hh4 (by omega) hm (by omega) hb4⟩
  have k0 := l_kind w (.int m) (.int k) (.int (width (n + 1))) (.int (width (width (n + 1)))) (.int (width (m - 1))) (.int (shortW m)) (.int (n % m : Nat)) (.str (golL n m)) (.lst (dI (stW (n + 1) 1000 [] 1 2))) (.int (grd (stL (n + 1)).reverse (n + 1) []).2) (.str (txL n)) (z1) .bot .bot .bot n sUn [] (List.replicate n 49 ++ [48]) .non (w0 h) (by simp; omega) (g0 (by simpa using r0)) (g0 (by rw [List.dropLast_concat]; exact r0')) (.inl rfl)
  have k1 := l_kind w (.int m) (.int k) (.int (width (n + 1))) (.int (width (width (n + 1)))) (.int (width (m - 1))) (.int (shortW m)) (.int (n % m : Nat)) (.str (golL n m)) (.lst (dI (stW (n + 1) 1000 [] 1 2))) (.int (grd (stL (n + 1)).reverse (n + 1) []).2) (.str (txL n)) (z1) (.str (List.replicate n 49 ++ [48])) .bot .bot n sGa [] (gamL n) .non (w1 h) (by rw [gamL_len]; omega) (g1' (r_gamma n (by omega) [48, 49] b01)) (g1' (r_gamma_cut n (by omega))) (.inl rfl)
  have k2 := l_kind w (.int m) (.int k) (.int (width (n + 1))) (.int (width (width (n + 1)))) (.int (width (m - 1))) (.int (shortW m)) (.int (n % m : Nat)) (.str (golL n m)) (.lst (dI (stW (n + 1) 1000 [] 1 2))) (.int (grd (stL (n + 1)).reverse (n + 1) []).2) (.str (txL n)) (z1) (.str (gamL n)) .bot .bot n sDe [] (delL n) .non (w2 h) (by unfold delL; rw [List.length_append, gamL_len, List.length_drop, binL_len]; have := width_small (n := width (n + 1) - 1 + 1) (by omega); omega) (g2' (r_delta n (by omega) [48, 49] b01)) (g2' (r_delta_cut n (by omega))) (.inl rfl)
  have k3 := l_kind w (.int m) (.int k) (.int (width (n + 1))) (.int (width (width (n + 1)))) (.int (width (m - 1))) (.int (shortW m)) (.int (n % m : Nat)) (.str (golL n m)) (.lst (dI (stW (n + 1) 1000 [] 1 2))) (.int (grd (stL (n + 1)).reverse (n + 1) []).2) (.str (txL n)) (z1) (.str (delL n)) .bot .bot n sRi [.int k] (List.replicate (n / 2 ^ k) 49 ++ [48] ++ digL n k) x3 (w3 h hk) (by rw [len3]; omega) (g3 (by rw [len3]; simpa using r3)) (g3 hx3) (.inr (.inl rfl))
  have k4 := l_kind w (.int m) (.int k) (.int (width (n + 1))) (.int (width (width (n + 1)))) (.int (width (m - 1))) (.int (shortW m)) (.int (n % m : Nat)) (.str (golL n m)) (.lst (dI (stW (n + 1) 1000 [] 1 2))) (.int (grd (stL (n + 1)).reverse (n + 1) []).2) (.str (txL n)) (z1) (.str (List.replicate (n / 2 ^ k) 49 ++ [48] ++ digL n k)) .bot .bot n sGo [.int m] (golL n m) x4 (w4 h hm hm') (by rw [len4]; omega) (g4 (r_golomb n m (by omega) hm (by omega) [48, 49] b01)) (g4 hx4) (.inr (.inr rfl))
  have k5 := l_kind w (.int m) (.int k) (.int (width (n + 1))) (.int (width (width (n + 1)))) (.int (width (m - 1))) (.int (shortW m)) (.int (n % m : Nat)) (.str (golL n m)) (.lst (dI (stW (n + 1) 1000 [] 1 2))) (.int (grd (stL (n + 1)).reverse (n + 1) []).2) (.str (txL n)) (z1) (.str (golL n m)) .bot .bot n sTw [] (txL n ++ [49]) .non (w5 h) (by rw [List.length_append, List.length_singleton]; omega) (g5 (by rw [List.append_assoc, List.length_append]; exact r_by_two (txL n) ([49] ++ [48, 49]) n t3 (by rw [← List.append_assoc]; exact t2) t4)) (g5 (by rw [List.dropLast_concat]; exact r_by_two_no _ t5)) (.inl rfl)
  refine sSeq_nx (δ' := [w, .int (n : Nat), .int (m : Nat), .int (k : Nat), .int (width (n + 1)), .int (width (width (n + 1))), .int (width (m - 1)), .int (shortW m), .int (n % m : Nat), .str (golL n m), .lst (dI (stW (n + 1) 1000 [] 1 2)), .int (grd (stL (n + 1)).reverse (n + 1) []).2, .str (txL n), z1, .tup (.str sTw :: []), .str (txL n ++ [49]), .bot, .bot]) (by
    have hk : ∀ d ∈ [D.tup (.str sUn :: []), .tup (.str sGa :: []), .tup (.str sDe :: []), .tup (.str sRi :: [.int k]), .tup (.str sGo :: [.int m]), .tup (.str sTw :: [])], True := fun _ _ => trivial
    have hit : (iT (gTup (gCons (gTup (gCons (gC (.str [117, 110, 97, 114, 121])) gNil)) (gCons (gTup (gCons (gC (.str [103, 97, 109, 109, 97])) gNil)) (gCons (gTup (gCons (gC (.str [100, 101, 108, 116, 97])) gNil)) (gCons (gTup (gCons (gC (.str [114, 105, 99, 101])) (gCons (gVar 3) gNil))) (gCons (gTup (gCons (gC (.str [103, 111, 108, 111, 109, 98])) (gCons (gVar 2) gNil))) (gCons (gTup (gCons (gC (.str [116, 119, 111])) gNil)) gNil)))))))) [w, .int (n : Nat), .int (m : Nat), .int (k : Nat), .int (width (n + 1)), .int (width (width (n + 1))), .int (width (m - 1)), .int (shortW m), .int (n % m : Nat), .str (golL n m), .lst (dI (stW (n + 1) 1000 [] 1 2)), .int (grd (stL (n + 1)).reverse (n + 1) []).2, .str (txL n), z1, .bot, .bot, .bot, .bot] = some [D.tup (.str sUn :: []), .tup (.str sGa :: []), .tup (.str sDe :: []), .tup (.str sRi :: [.int k]), .tup (.str sGo :: [.int m]), .tup (.str sTw :: [])] := by
      simp only [sSeq, sSet, sOwn, sRet, sRetN, sIf, sNil, sBk, sCt, sAsg, sPar2, sPar3, sPar2f, sPar3f, sAug, sApp, sExt, sSetI, sFor, gVar, gC, g1, g2, gF, gM, gCons, gNil, gT, gCh, gAnd, gOr, gNot, gIf, tAndG, tOrG, tNotG, gTup, gLst, gOn, gOs, gCut, toB, toI, toL, toT, iL, iT, iR1_eq, iR2_eq, toNat_nat, iZip, bName, bCons, bNil, bTup, dAdd, dAddS, dSub, dMul, dDiv, dMod, dPow, dShl, dShr, dAnd, dXor, dNeg, fI, fI0, dLt, dLe, dGt, dGe, dEq, dNe, dIs, dIsNot, isNon, dep, deps, deq, deqs, dIdx, dCut, fLen, fAbs, fTuple, fList, fSum, fAll, fAny, fMax2, fMin2, toInts, toBls, isTy, lstAt, mkR, dRev, atI_0, atI_1, atI_2, cYes, Option.bind_some, Option.bind_none, Option.bind, List.getElem?_cons_zero, List.getElem?_cons_succ, List.set_cons_zero, List.set_cons_succ, List.length_cons, List.length_nil, if_true, if_false, reduceIte, decide_true, decide_false, Nat.zero_le, Nat.reduceLeDiff, Nat.reduceLT, Nat.reduceAdd, beq_self_eq_true, Bool.not_true, Bool.not_false, Bool.true_and, Bool.false_and, Bool.and_true, Bool.and_false, Bool.and_self, Bool.or_self, Bool.true_or, Bool.false_or, Bool.not_eq_true, Bool.false_eq_true, and_self, true_and, and_true]
      rfl
    unfold sFor
    rw [hit, Option.bind_some, forL_step rfl k0, forL_step rfl k1, forL_step rfl k2, forL_step rfl k3, forL_step rfl k4, forL_step rfl k5]
    rfl) ?_
  -- rows
  have hnm : n * m < 2000000 := Nat.lt_of_le_of_lt (Nat.mul_le_mul (Nat.le_of_lt h) hm') (by decide)
  refine sSeq_nx (δ' := [w, .int (n : Nat), .int (m : Nat), .int (k : Nat), .int (width (n + 1)), .int (width (width (n + 1))), .int (width (m - 1)), .int (shortW m), .int (n % m : Nat), .str (golL n m), .lst (dI (stW (n + 1) 1000 [] 1 2)), .int (n * m : Nat), .str (txL n), z1, .tup (.str sTw :: []), .str (txL n ++ [49]), .lst (dI []), .bot]) (by
    have a1 := mul_nat n m (by omega)
    simp only [sSeq, sSet, sOwn, sRet, sRetN, sIf, sNil, sBk, sCt, sAsg, sPar2, sPar3, sPar2f, sPar3f, sAug, sApp, sExt, sSetI, sFor, gVar, gC, g1, g2, gF, gM, gCons, gNil, gT, gCh, gAnd, gOr, gNot, gIf, tAndG, tOrG, tNotG, gTup, gLst, gOn, gOs, gCut, toB, toI, toL, toT, iL, iT, iR1_eq, iR2_eq, toNat_nat, iZip, bName, bCons, bNil, bTup, dAddS, dSub, dPow, dShl, dShr, dAnd, dXor, dNeg, fI0, dLt, dLe, dGt, dGe, dEq, dNe, dIs, dIsNot, isNon, dep, deps, deq, deqs, dIdx, dCut, fLen, fAbs, fTuple, fList, fSum, fAll, fAny, fMax2, fMin2, toInts, toBls, isTy, lstAt, mkR, dRev, atI_0, atI_1, atI_2, cYes, Option.bind_some, Option.bind_none, Option.bind, List.getElem?_cons_zero, List.getElem?_cons_succ, List.set_cons_zero, List.set_cons_succ, List.length_cons, List.length_nil, if_true, if_false, reduceIte, decide_true, decide_false, Nat.zero_le, Nat.reduceLeDiff, Nat.reduceLT, Nat.reduceAdd, beq_self_eq_true, Bool.not_true, Bool.not_false, Bool.true_and, Bool.false_and, Bool.and_true, Bool.and_false, Bool.and_self, Bool.or_self, Bool.true_or, Bool.false_or, Bool.not_eq_true, Bool.false_eq_true, and_self, true_and, and_true, dAdd_int, a1]
    rfl) ?_
  obtain ⟨lr, xr, er, er2, er3⟩ := l_own_rows w (.int n) (.int m) (.int k) (.int (width (n + 1))) (.int (width (width (n + 1)))) (.int (width (m - 1))) (.int (shortW m)) (.int (n % m : Nat)) (.str (golL n m)) (.lst (dI (stW (n + 1) 1000 [] 1 2))) (.str (txL n)) (z1) (.tup (.str sTw :: [])) (.str (txL n ++ [49])) .bot 1000 (n * m) [] (pow128 hnm).2 (by decide) (by decide)
  refine sSeq_nx er ?_
  have eb : bytL (n * m) = lr ++ [xr] := (byt_fuel 3 1000 (n * m) (pow128 hnm).1 (pow128 hnm).2 (by decide) (by decide)).trans er2
  have a1 := mul_nat n m (by omega)
  have a2 := e_byte_rows (n * m) hnm
  have a3 : dI ([] ++ lr) ++ [D.int (xr : Nat)] = dI (bytL (n * m)) := by rw [List.nil_append, eb, dI_app]; rfl
  have a4 : (dI ([] ++ lr)).length + 1 ≤ 16777216 := by rw [List.nil_append, dI_len]; omega
  have a5 := e_byte_rows n (by omega)
  have a6 := e_byte_rows m (by omega)
  have a7 := e_read_rows n m (by omega) (by omega)
  have bl : ∀ x, x < 16384 → (dI (bytL x)).length ≤ 2 := fun x hx => by
    rw [dI_len]
    by_cases z : x < 128
    · rw [byt_one z]; show 1 ≤ 2; decide
    · rw [byt_two (by omega) hx]; show 2 ≤ 2; decide
  have a8 : (dI (bytL n)).length + (dI (bytL m)).length ≤ 16777216 := by have := bl n (by omega); have := bl m (by omega); omega
  have a9 : ∀ l : List Nat, dEq (.tup (dI l)) (.tup (dI l)) = some (.bl true) := fun l => by
    have hd : ∀ l : List Nat, deps (dI l) = 0 := fun l => by
      induction l with
      | nil => rfl
      | cons x r ih => show max 0 (deps (dI r)) = 0; rw [ih]; rfl
    have he : ∀ l : List Nat, deqs (dI l) (dI l) = true := fun l => by
      induction l with
      | nil => rfl
      | cons x r ih => show ((x : Int) == (x : Int) && deqs (dI r) (dI r)) = true; rw [ih]; simp
    unfold dEq
    have h1 : dep (.tup (dI l)) ≤ 64 := by show deps (dI l) + 1 ≤ 64; rw [hd]; decide
    rw [if_pos ⟨h1, h1⟩]
    show some (D.bl (deqs (dI l) (dI l))) = _
    rw [he]
  have b1 := a9 (bytL (n * m))
  have b2 := pair_eq n m
  have add_lst : dAdd (.lst (dI ([] ++ lr))) (.lst [.int (xr : Nat)]) = some (.lst (dI (bytL (n * m)))) := by rw [← a3]; exact if_pos a4
  have add_tup : dAdd (.tup (dI (bytL n))) (.tup (dI (bytL m))) = some (.tup (dI (bytL n) ++ dI (bytL m))) := if_pos a8
  simp only [sSeq, sSet, sOwn, sRet, sRetN, sIf, sNil, sBk, sCt, sAsg, sPar2, sPar3, sPar2f, sPar3f, sAug, sApp, sExt, sSetI, sFor, gVar, gC, g1, g2, gF, gM, gCons, gNil, gT, gCh, gAnd, gOr, gNot, gIf, tAndG, tOrG, tNotG, gTup, gLst, gOn, gOs, gCut, toB, toI, toL, toT, iL, iT, iR1_eq, iR2_eq, toNat_nat, iZip, bName, bCons, bNil, bTup, dAddS, dSub, dPow, dShl, dShr, dAnd, dXor, dNeg, fI0, dLt, dLe, dGt, dGe, dIs, dIsNot, isNon, dep, deps, deq, deqs, dCut, fLen, fAbs, fTuple, fList, fSum, fAll, fAny, fMax2, fMin2, toInts, toBls, isTy, lstAt, mkR, dRev, atI_0, atI_1, atI_2, cYes, Option.bind_some, Option.bind_none, Option.bind, List.getElem?_cons_zero, List.getElem?_cons_succ, List.set_cons_zero, List.set_cons_succ, List.length_cons, List.length_nil, if_true, if_false, reduceIte, decide_true, decide_false, Nat.zero_le, Nat.reduceLeDiff, Nat.reduceLT, Nat.reduceAdd, beq_self_eq_true, Bool.not_true, Bool.not_false, Bool.true_and, Bool.false_and, Bool.and_true, Bool.and_false, Bool.and_self, Bool.or_self, Bool.true_or, Bool.false_or, Bool.not_eq_true, Bool.false_eq_true, and_self, true_and, and_true, dAdd_int, dIdx, a1, a2, add_lst, a5, a6, add_tup, a7, b1, b2]
theorem next_nat (pw : Addr) (many : Nat) (hm : 0 < many) (R : D → Prop) (h : ∀ v : Nat, v < many → R (.int v)) : φ_next pw [.obj pw, .int many] R := ⟨many, rfl, by omega, fun v h0 h1 => by
  obtain ⟨u, rfl⟩ : ∃ u : Nat, v = (u : Int) := ⟨v.toNat, by omega⟩
  exact h u (by omega)⟩
theorem plain : ∀ pw, φ__law_holds pw [.obj pw] fun d => d = .bl true := fun pw => by
  refine ⟨rfl, ?_⟩
  simp only [Φ__law_holds, wSeq, wAsg, wTup, wCons, wCall, wP, wNil, VS.w2, wS]
  refine ⟨_, rfl, _, rfl, ?_⟩
  refine next_nat pw 997 (by decide) _ fun n hn => ?_
  refine ⟨_, rfl, _, rfl, _, rfl, ?_⟩
  refine next_nat pw 20 (by decide) _ fun m hm => ⟨_, rfl, ?_⟩
  refine ⟨_, rfl, _, rfl, ?_⟩
  refine next_nat pw 6 (by decide) _ fun k hk => ⟨by show 3 ≤ 1000; decide, _, rfl, ?_⟩
  refine ⟨.ret (.bl true), ?_, rfl⟩
  have e : (1 : Int) + (m : Int) = ((1 + m : Nat) : Int) := by omega
  have g := hold (.obj pw) n (1 + m) k hn (by omega) (by omega) hk
  rw [← e] at g
  exact g
end G03
namespace G03
open PySem PySem.Spec PyProof.Rows L2 VS
/-! ### the end -/
theorem all_mk {l : PySem.W.OpenLaw} {w : World} {K : PySem.W.Frag} {h : Heap} {mg : Str → Option Value} {fa f0 f1 f2 f3 f4 f5 f6 f7 f8 f9 f10 f11 f12 f13 f14 f15 f16 f17 f18 f19 f20 f21 f22 f23 f24 f25 f26 f27 f28 f29 f30 : Addr} {od0 an0 od1 an1 od2 an2 od3 an3 od4 an4 od5 an5 od6 an6 od7 an7 od8 an8 od9 an9 od10 an10 od11 an11 od12 an12 od13 an13 od14 an14 od15 an15 od16 an16 od17 an17 od18 an18 od19 an19 od20 an20 od21 an21 od22 an22 od23 an23 od24 an24 od25 an25 od26 an26 od27 an27 od28 an28 od29 an29 od30 an30 : Option Addr} {sl0 sl1 sl2 sl3 sl4 sl5 sl6 sl7 sl8 sl9 sl10 sl11 sl12 sl13 sl14 sl15 sl16 sl17 sl18 sl19 sl20 sl21 sl22 sl23 sl24 sl25 sl26 sl27 sl28 sl29 sl30 : Array (Option Value)} {oc0 kV0 dc0 pm0 cd0 ct0 oc1 kV1 dc1 pm1 cd1 ct1 oc2 kV2 dc2 pm2 cd2 ct2 oc3 kV3 dc3 pm3 cd3 ct3 oc4 kV4 dc4 pm4 cd4 ct4 oc5 kV5 dc5 pm5 cd5 ct5 oc6 kV6 dc6 pm6 cd6 ct6 oc7 kV7 dc7 pm7 cd7 ct7 oc8 kV8 dc8 pm8 cd8 ct8 oc9 kV9 dc9 pm9 cd9 ct9 oc10 kV10 dc10 pm10 cd10 ct10 oc11 kV11 dc11 pm11 cd11 ct11 oc12 kV12 dc12 pm12 cd12 ct12 oc13 kV13 dc13 pm13 cd13 ct13 oc14 kV14 dc14 pm14 cd14 ct14 oc15 kV15 dc15 pm15 cd15 ct15 oc16 kV16 dc16 pm16 cd16 ct16 oc17 kV17 dc17 pm17 cd17 ct17 oc18 kV18 dc18 pm18 cd18 ct18 oc19 kV19 dc19 pm19 cd19 ct19 oc20 kV20 dc20 pm20 cd20 ct20 oc21 kV21 dc21 pm21 cd21 ct21 oc22 kV22 dc22 pm22 cd22 ct22 oc23 kV23 dc23 pm23 cd23 ct23 oc24 kV24 dc24 pm24 cd24 ct24 oc25 kV25 dc25 pm25 cd25 ct25 oc26 kV26 dc26 pm26 cd26 ct26 oc27 kV27 dc27 pm27 cd27 ct27 oc28 kV28 dc28 pm28 cd28 ct28 oc29 kV29 dc29 pm29 cd29 ct29 oc30 kV30 dc30 pm30 cd30 ct30 : Value} (X : K.In h) (G : h.Ns mainGlobals mg) (hfa : mg "law" = some (.ref fa))
    (a0 : PySem.W.nsIn K mainGlobals "is_number" = some (some (.ref f0)))
    (l0 : K.lookup f0 = some ⟨oc0, od0, .func (PySem.W.fnOf "is_number" "is_number" (defArgs (topS 1)) (defBody (topS 1)) (defScope (topS 1)) .none kV0 dc0 pm0 an0 cd0 ct0), sl0⟩)
    (c0 : PySem.W.codeIn K cd0 "is_number" = true)
    (k0 : PySem.W.keepIn K (.ref f0) = true)
    (a1 : PySem.W.nsIn K mainGlobals "is_below" = some (some (.ref f1)))
    (l1 : K.lookup f1 = some ⟨oc1, od1, .func (PySem.W.fnOf "is_below" "is_below" (defArgs (topS 2)) (defBody (topS 2)) (defScope (topS 2)) .none kV1 dc1 pm1 an1 cd1 ct1), sl1⟩)
    (c1 : PySem.W.codeIn K cd1 "is_below" = true)
    (k1 : PySem.W.keepIn K (.ref f1) = true)
    (a2 : PySem.W.nsIn K mainGlobals "two_to" = some (some (.ref f2)))
    (l2 : K.lookup f2 = some ⟨oc2, od2, .func (PySem.W.fnOf "two_to" "two_to" (defArgs (topS 3)) (defBody (topS 3)) (defScope (topS 3)) .none kV2 dc2 pm2 an2 cd2 ct2), sl2⟩)
    (c2 : PySem.W.codeIn K cd2 "two_to" = true)
    (k2 : PySem.W.keepIn K (.ref f2) = true)
    (a3 : PySem.W.nsIn K mainGlobals "digits_of" = some (some (.ref f3)))
    (l3 : K.lookup f3 = some ⟨oc3, od3, .func (PySem.W.fnOf "digits_of" "digits_of" (defArgs (topS 4)) (defBody (topS 4)) (defScope (topS 4)) .none kV3 dc3 pm3 an3 cd3 ct3), sl3⟩)
    (c3 : PySem.W.codeIn K cd3 "digits_of" = true)
    (k3 : PySem.W.keepIn K (.ref f3) = true)
    (a4 : PySem.W.nsIn K mainGlobals "binary" = some (some (.ref f4)))
    (l4 : K.lookup f4 = some ⟨oc4, od4, .func (PySem.W.fnOf "binary" "binary" (defArgs (topS 5)) (defBody (topS 5)) (defScope (topS 5)) .none kV4 dc4 pm4 an4 cd4 ct4), sl4⟩)
    (c4 : PySem.W.codeIn K cd4 "binary" = true)
    (k4 : PySem.W.keepIn K (.ref f4) = true)
    (a5 : PySem.W.nsIn K mainGlobals "number_of_bits" = some (some (.ref f5)))
    (l5 : K.lookup f5 = some ⟨oc5, od5, .func (PySem.W.fnOf "number_of_bits" "number_of_bits" (defArgs (topS 6)) (defBody (topS 6)) (defScope (topS 6)) .none kV5 dc5 pm5 an5 cd5 ct5), sl5⟩)
    (c5 : PySem.W.codeIn K cd5 "number_of_bits" = true)
    (k5 : PySem.W.keepIn K (.ref f5) = true)
    (a6 : PySem.W.nsIn K mainGlobals "unary" = some (some (.ref f6)))
    (l6 : K.lookup f6 = some ⟨oc6, od6, .func (PySem.W.fnOf "unary" "unary" (defArgs (topS 8)) (defBody (topS 8)) (defScope (topS 8)) .none kV6 dc6 pm6 an6 cd6 ct6), sl6⟩)
    (c6 : PySem.W.codeIn K cd6 "unary" = true)
    (k6 : PySem.W.keepIn K (.ref f6) = true)
    (a7 : PySem.W.nsIn K mainGlobals "gamma" = some (some (.ref f7)))
    (l7 : K.lookup f7 = some ⟨oc7, od7, .func (PySem.W.fnOf "gamma" "gamma" (defArgs (topS 9)) (defBody (topS 9)) (defScope (topS 9)) .none kV7 dc7 pm7 an7 cd7 ct7), sl7⟩)
    (c7 : PySem.W.codeIn K cd7 "gamma" = true)
    (k7 : PySem.W.keepIn K (.ref f7) = true)
    (a8 : PySem.W.nsIn K mainGlobals "delta" = some (some (.ref f8)))
    (l8 : K.lookup f8 = some ⟨oc8, od8, .func (PySem.W.fnOf "delta" "delta" (defArgs (topS 10)) (defBody (topS 10)) (defScope (topS 10)) .none kV8 dc8 pm8 an8 cd8 ct8), sl8⟩)
    (c8 : PySem.W.codeIn K cd8 "delta" = true)
    (k8 : PySem.W.keepIn K (.ref f8) = true)
    (a9 : PySem.W.nsIn K mainGlobals "rice" = some (some (.ref f9)))
    (l9 : K.lookup f9 = some ⟨oc9, od9, .func (PySem.W.fnOf "rice" "rice" (defArgs (topS 11)) (defBody (topS 11)) (defScope (topS 11)) .none kV9 dc9 pm9 an9 cd9 ct9), sl9⟩)
    (c9 : PySem.W.codeIn K cd9 "rice" = true)
    (k9 : PySem.W.keepIn K (.ref f9) = true)
    (a10 : PySem.W.nsIn K mainGlobals "rest_width" = some (some (.ref f10)))
    (l10 : K.lookup f10 = some ⟨oc10, od10, .func (PySem.W.fnOf "rest_width" "rest_width" (defArgs (topS 12)) (defBody (topS 12)) (defScope (topS 12)) .none kV10 dc10 pm10 an10 cd10 ct10), sl10⟩)
    (c10 : PySem.W.codeIn K cd10 "rest_width" = true)
    (k10 : PySem.W.keepIn K (.ref f10) = true)
    (a11 : PySem.W.nsIn K mainGlobals "golomb" = some (some (.ref f11)))
    (l11 : K.lookup f11 = some ⟨oc11, od11, .func (PySem.W.fnOf "golomb" "golomb" (defArgs (topS 13)) (defBody (topS 13)) (defScope (topS 13)) .none kV11 dc11 pm11 an11 cd11 ct11), sl11⟩)
    (c11 : PySem.W.codeIn K cd11 "golomb" = true)
    (k11 : PySem.W.keepIn K (.ref f11) = true)
    (a12 : PySem.W.nsIn K mainGlobals "steps_up_to" = some (some (.ref f12)))
    (l12 : K.lookup f12 = some ⟨oc12, od12, .func (PySem.W.fnOf "steps_up_to" "steps_up_to" (defArgs (topS 14)) (defBody (topS 14)) (defScope (topS 14)) .none kV12 dc12 pm12 an12 cd12 ct12), sl12⟩)
    (c12 : PySem.W.codeIn K cd12 "steps_up_to" = true)
    (k12 : PySem.W.keepIn K (.ref f12) = true)
    (a13 : PySem.W.nsIn K mainGlobals "by_two" = some (some (.ref f13)))
    (l13 : K.lookup f13 = some ⟨oc13, od13, .func (PySem.W.fnOf "by_two" "by_two" (defArgs (topS 15)) (defBody (topS 15)) (defScope (topS 15)) .none kV13 dc13 pm13 an13 cd13 ct13), sl13⟩)
    (c13 : PySem.W.codeIn K cd13 "by_two" = true)
    (k13 : PySem.W.keepIn K (.ref f13) = true)
    (a14 : PySem.W.nsIn K mainGlobals "write_number" = some (some (.ref f14)))
    (l14 : K.lookup f14 = some ⟨oc14, od14, .func (PySem.W.fnOf "write_number" "write_number" (defArgs (topS 16)) (defBody (topS 16)) (defScope (topS 16)) .none kV14 dc14 pm14 an14 cd14 ct14), sl14⟩)
    (c14 : PySem.W.codeIn K cd14 "write_number" = true)
    (k14 : PySem.W.keepIn K (.ref f14) = true)
    (a15 : PySem.W.nsIn K mainGlobals "read_unary" = some (some (.ref f15)))
    (l15 : K.lookup f15 = some ⟨oc15, od15, .func (PySem.W.fnOf "read_unary" "read_unary" (defArgs (topS 17)) (defBody (topS 17)) (defScope (topS 17)) .none kV15 dc15 pm15 an15 cd15 ct15), sl15⟩)
    (c15 : PySem.W.codeIn K cd15 "read_unary" = true)
    (k15 : PySem.W.keepIn K (.ref f15) = true)
    (a16 : PySem.W.nsIn K mainGlobals "read_digits" = some (some (.ref f16)))
    (l16 : K.lookup f16 = some ⟨oc16, od16, .func (PySem.W.fnOf "read_digits" "read_digits" (defArgs (topS 18)) (defBody (topS 18)) (defScope (topS 18)) .none kV16 dc16 pm16 an16 cd16 ct16), sl16⟩)
    (c16 : PySem.W.codeIn K cd16 "read_digits" = true)
    (k16 : PySem.W.keepIn K (.ref f16) = true)
    (a17 : PySem.W.nsIn K mainGlobals "read_gamma" = some (some (.ref f17)))
    (l17 : K.lookup f17 = some ⟨oc17, od17, .func (PySem.W.fnOf "read_gamma" "read_gamma" (defArgs (topS 19)) (defBody (topS 19)) (defScope (topS 19)) .none kV17 dc17 pm17 an17 cd17 ct17), sl17⟩)
    (c17 : PySem.W.codeIn K cd17 "read_gamma" = true)
    (k17 : PySem.W.keepIn K (.ref f17) = true)
    (a18 : PySem.W.nsIn K mainGlobals "read_delta" = some (some (.ref f18)))
    (l18 : K.lookup f18 = some ⟨oc18, od18, .func (PySem.W.fnOf "read_delta" "read_delta" (defArgs (topS 20)) (defBody (topS 20)) (defScope (topS 20)) .none kV18 dc18 pm18 an18 cd18 ct18), sl18⟩)
    (c18 : PySem.W.codeIn K cd18 "read_delta" = true)
    (k18 : PySem.W.keepIn K (.ref f18) = true)
    (a19 : PySem.W.nsIn K mainGlobals "read_rice" = some (some (.ref f19)))
    (l19 : K.lookup f19 = some ⟨oc19, od19, .func (PySem.W.fnOf "read_rice" "read_rice" (defArgs (topS 21)) (defBody (topS 21)) (defScope (topS 21)) .none kV19 dc19 pm19 an19 cd19 ct19), sl19⟩)
    (c19 : PySem.W.codeIn K cd19 "read_rice" = true)
    (k19 : PySem.W.keepIn K (.ref f19) = true)
    (a20 : PySem.W.nsIn K mainGlobals "read_golomb" = some (some (.ref f20)))
    (l20 : K.lookup f20 = some ⟨oc20, od20, .func (PySem.W.fnOf "read_golomb" "read_golomb" (defArgs (topS 22)) (defBody (topS 22)) (defScope (topS 22)) .none kV20 dc20 pm20 an20 cd20 ct20), sl20⟩)
    (c20 : PySem.W.codeIn K cd20 "read_golomb" = true)
    (k20 : PySem.W.keepIn K (.ref f20) = true)
    (a21 : PySem.W.nsIn K mainGlobals "read_by_two" = some (some (.ref f21)))
    (l21 : K.lookup f21 = some ⟨oc21, od21, .func (PySem.W.fnOf "read_by_two" "read_by_two" (defArgs (topS 23)) (defBody (topS 23)) (defScope (topS 23)) .none kV21 dc21 pm21 an21 cd21 ct21), sl21⟩)
    (c21 : PySem.W.codeIn K cd21 "read_by_two" = true)
    (k21 : PySem.W.keepIn K (.ref f21) = true)
    (a22 : PySem.W.nsIn K mainGlobals "read_number" = some (some (.ref f22)))
    (l22 : K.lookup f22 = some ⟨oc22, od22, .func (PySem.W.fnOf "read_number" "read_number" (defArgs (topS 24)) (defBody (topS 24)) (defScope (topS 24)) .none kV22 dc22 pm22 an22 cd22 ct22), sl22⟩)
    (c22 : PySem.W.codeIn K cd22 "read_number" = true)
    (k22 : PySem.W.keepIn K (.ref f22) = true)
    (a23 : PySem.W.nsIn K mainGlobals "byte_rows" = some (some (.ref f23)))
    (l23 : K.lookup f23 = some ⟨oc23, od23, .func (PySem.W.fnOf "byte_rows" "byte_rows" (defArgs (topS 26)) (defBody (topS 26)) (defScope (topS 26)) .none kV23 dc23 pm23 an23 cd23 ct23), sl23⟩)
    (c23 : PySem.W.codeIn K cd23 "byte_rows" = true)
    (k23 : PySem.W.keepIn K (.ref f23) = true)
    (a24 : PySem.W.nsIn K mainGlobals "read_byte_rows" = some (some (.ref f24)))
    (l24 : K.lookup f24 = some ⟨oc24, od24, .func (PySem.W.fnOf "read_byte_rows" "read_byte_rows" (defArgs (topS 27)) (defBody (topS 27)) (defScope (topS 27)) .none kV24 dc24 pm24 an24 cd24 ct24), sl24⟩)
    (c24 : PySem.W.codeIn K cd24 "read_byte_rows" = true)
    (k24 : PySem.W.keepIn K (.ref f24) = true)
    (a25 : PySem.W.nsIn K mainGlobals "_law_draws" = some (some (.ref f25)))
    (l25 : K.lookup f25 = some ⟨oc25, od25, .func (PySem.W.fnOf "_law_draws" "_law_draws" (defArgs (topS 29)) (defBody (topS 29)) (defScope (topS 29)) .none kV25 dc25 pm25 an25 cd25 ct25), sl25⟩)
    (c25 : PySem.W.codeIn K cd25 "_law_draws" = true)
    (k25 : PySem.W.keepIn K (.ref f25) = true)
    (a26 : PySem.W.nsIn K mainGlobals "_law_next" = some (some (.ref f26)))
    (l26 : K.lookup f26 = some ⟨oc26, od26, .func (PySem.W.fnOf "_law_next" "_law_next" (defArgs (topS 30)) (defBody (topS 30)) (defScope (topS 30)) .none kV26 dc26 pm26 an26 cd26 ct26), sl26⟩)
    (c26 : PySem.W.codeIn K cd26 "_law_next" = true)
    (k26 : PySem.W.keepIn K (.ref f26) = true)
    (a27 : PySem.W.nsIn K mainGlobals "_law_digits" = some (some (.ref f27)))
    (l27 : K.lookup f27 = some ⟨oc27, od27, .func (PySem.W.fnOf "_law_digits" "_law_digits" (defArgs (topS 31)) (defBody (topS 31)) (defScope (topS 31)) .none kV27 dc27 pm27 an27 cd27 ct27), sl27⟩)
    (c27 : PySem.W.codeIn K cd27 "_law_digits" = true)
    (k27 : PySem.W.keepIn K (.ref f27) = true)
    (a28 : PySem.W.nsIn K mainGlobals "_law_wide" = some (some (.ref f28)))
    (l28 : K.lookup f28 = some ⟨oc28, od28, .func (PySem.W.fnOf "_law_wide" "_law_wide" (defArgs (topS 32)) (defBody (topS 32)) (defScope (topS 32)) .none kV28 dc28 pm28 an28 cd28 ct28), sl28⟩)
    (c28 : PySem.W.codeIn K cd28 "_law_wide" = true)
    (k28 : PySem.W.keepIn K (.ref f28) = true)
    (a29 : PySem.W.nsIn K mainGlobals "_law_holds" = some (some (.ref f29)))
    (l29 : K.lookup f29 = some ⟨oc29, od29, .func (PySem.W.fnOf "_law_holds" "_law_holds" (defArgs (topS 33)) (defBody (topS 33)) (defScope (topS 33)) .none kV29 dc29 pm29 an29 cd29 ct29), sl29⟩)
    (c29 : PySem.W.codeIn K cd29 "_law_holds" = true)
    (k29 : PySem.W.keepIn K (.ref f29) = true)
    (a30 : PySem.W.nsIn K mainGlobals "law" = some (some (.ref f30)))
    (l30 : K.lookup f30 = some ⟨oc30, od30, .func (PySem.W.fnOf "law" "law" (defArgs (topS 34)) (defBody (topS 34)) (defScope (topS 34)) .none kV30 dc30 pm30 an30 cd30 ct30), sl30⟩)
    (c30 : PySem.W.codeIn K cd30 "law" = true)
    (k30 : PySem.W.keepIn K (.ref f30) = true)
    (z_abs : PySem.W.nsIn K mainGlobals "abs" = some none)
    (z_bool : PySem.W.nsIn K mainGlobals "bool" = some none)
    (z_int : PySem.W.nsIn K mainGlobals "int" = some none)
    (z_isinstance : PySem.W.nsIn K mainGlobals "isinstance" = some none)
    (z_len : PySem.W.nsIn K mainGlobals "len" = some none)
    (z_range : PySem.W.nsIn K mainGlobals "range" = some none)
    (z_str : PySem.W.nsIn K mainGlobals "str" = some none)
    (z_tuple : PySem.W.nsIn K mainGlobals "tuple" = some none) :
    ∃ fd : FuncData, (∀ (s : Shared) (v : Value), BindsTo s fd ⟨[v], []⟩ [("script", v)]) ∧ ∀ base : Heap, K.In base → base.Ns mainGlobals mg → FnOk l.prog w K mg base CX0 7 fa fd ["script"] (spLaw K) := by
  have e := hfa.symm.trans (PySem.W.mg_of X G a30)
  cases e
  have F0 := fun_mk (st := topS 1) l0 c0 k0
  have b0 := F0.binds (ps := ["thing"]) fun _ _ _ _ _ _ us hl => match us, hl with | [_], _ => rfl
  have F1 := fun_mk (st := topS 2) l1 c1 k1
  have b1 := F1.binds (ps := ["thing", "many"]) fun _ _ _ _ _ _ us hl => match us, hl with | [_, _], _ => rfl
  have F2 := fun_mk (st := topS 3) l2 c2 k2
  have b2 := F2.binds (ps := ["n"]) fun _ _ _ _ _ _ us hl => match us, hl with | [_], _ => rfl
  have F3 := fun_mk (st := topS 4) l3 c3 k3
  have b3 := F3.binds (ps := ["n", "many"]) fun _ _ _ _ _ _ us hl => match us, hl with | [_, _], _ => rfl
  have F4 := fun_mk (st := topS 5) l4 c4 k4
  have b4 := F4.binds (ps := ["n"]) fun _ _ _ _ _ _ us hl => match us, hl with | [_], _ => rfl
  have F5 := fun_mk (st := topS 6) l5 c5 k5
  have b5 := F5.binds (ps := ["bits"]) fun _ _ _ _ _ _ us hl => match us, hl with | [_], _ => rfl
  have F6 := fun_mk (st := topS 8) l6 c6 k6
  have b6 := F6.binds (ps := ["n"]) fun _ _ _ _ _ _ us hl => match us, hl with | [_], _ => rfl
  have F7 := fun_mk (st := topS 9) l7 c7 k7
  have b7 := F7.binds (ps := ["n"]) fun _ _ _ _ _ _ us hl => match us, hl with | [_], _ => rfl
  have F8 := fun_mk (st := topS 10) l8 c8 k8
  have b8 := F8.binds (ps := ["n"]) fun _ _ _ _ _ _ us hl => match us, hl with | [_], _ => rfl
  have F9 := fun_mk (st := topS 11) l9 c9 k9
  have b9 := F9.binds (ps := ["n", "k"]) fun _ _ _ _ _ _ us hl => match us, hl with | [_, _], _ => rfl
  have F10 := fun_mk (st := topS 12) l10 c10 k10
  have b10 := F10.binds (ps := ["m"]) fun _ _ _ _ _ _ us hl => match us, hl with | [_], _ => rfl
  have F11 := fun_mk (st := topS 13) l11 c11 k11
  have b11 := F11.binds (ps := ["n", "m"]) fun _ _ _ _ _ _ us hl => match us, hl with | [_, _], _ => rfl
  have F12 := fun_mk (st := topS 14) l12 c12 k12
  have b12 := F12.binds (ps := ["n"]) fun _ _ _ _ _ _ us hl => match us, hl with | [_], _ => rfl
  have F13 := fun_mk (st := topS 15) l13 c13 k13
  have b13 := F13.binds (ps := ["n"]) fun _ _ _ _ _ _ us hl => match us, hl with | [_], _ => rfl
  have F14 := fun_mk (st := topS 16) l14 c14 k14
  have b14 := F14.binds (ps := ["kind", "n"]) fun _ _ _ _ _ _ us hl => match us, hl with | [_, _], _ => rfl
  have F15 := fun_mk (st := topS 17) l15 c15 k15
  have b15 := F15.binds (ps := ["bits", "at"]) fun _ _ _ _ _ _ us hl => match us, hl with | [_, _], _ => rfl
  have F16 := fun_mk (st := topS 18) l16 c16 k16
  have b16 := F16.binds (ps := ["bits", "at", "many"]) fun _ _ _ _ _ _ us hl => match us, hl with | [_, _, _], _ => rfl
  have F17 := fun_mk (st := topS 19) l17 c17 k17
  have b17 := F17.binds (ps := ["bits", "at"]) fun _ _ _ _ _ _ us hl => match us, hl with | [_, _], _ => rfl
  have F18 := fun_mk (st := topS 20) l18 c18 k18
  have b18 := F18.binds (ps := ["bits", "at"]) fun _ _ _ _ _ _ us hl => match us, hl with | [_, _], _ => rfl
  have F19 := fun_mk (st := topS 21) l19 c19 k19
  have b19 := F19.binds (ps := ["bits", "at", "k"]) fun _ _ _ _ _ _ us hl => match us, hl with | [_, _, _], _ => rfl
  have F20 := fun_mk (st := topS 22) l20 c20 k20
  have b20 := F20.binds (ps := ["bits", "at", "m"]) fun _ _ _ _ _ _ us hl => match us, hl with | [_, _, _], _ => rfl
  have F21 := fun_mk (st := topS 23) l21 c21 k21
  have b21 := F21.binds (ps := ["bits", "at"]) fun _ _ _ _ _ _ us hl => match us, hl with | [_, _], _ => rfl
  have F22 := fun_mk (st := topS 24) l22 c22 k22
  have b22 := F22.binds (ps := ["kind", "bits", "at"]) fun _ _ _ _ _ _ us hl => match us, hl with | [_, _, _], _ => rfl
  have F23 := fun_mk (st := topS 26) l23 c23 k23
  have b23 := F23.binds (ps := ["n"]) fun _ _ _ _ _ _ us hl => match us, hl with | [_], _ => rfl
  have F24 := fun_mk (st := topS 27) l24 c24 k24
  have b24 := F24.binds (ps := ["row"]) fun _ _ _ _ _ _ us hl => match us, hl with | [_], _ => rfl
  have F25 := fun_mk (st := topS 29) l25 c25 k25
  have b25 := F25.binds (ps := ["script", "many"]) fun _ _ _ _ _ _ us hl => match us, hl with | [_, _], _ => rfl
  have F26 := fun_mk (st := topS 30) l26 c26 k26
  have b26 := F26.binds (ps := ["w", "many"]) fun _ _ _ _ _ _ us hl => match us, hl with | [_, _], _ => rfl
  have F27 := fun_mk (st := topS 31) l27 c27 k27
  have b27 := F27.binds (ps := ["n", "wide"]) fun _ _ _ _ _ _ us hl => match us, hl with | [_, _], _ => rfl
  have F28 := fun_mk (st := topS 32) l28 c28 k28
  have b28 := F28.binds (ps := ["n"]) fun _ _ _ _ _ _ us hl => match us, hl with | [_], _ => rfl
  have F29 := fun_mk (st := topS 33) l29 c29 k29
  have b29 := F29.binds (ps := ["w"]) fun _ _ _ _ _ _ us hl => match us, hl with | [_], _ => rfl
  have F30 := fun_mk (st := topS 34) l30 c30 k30
  have b30 := F30.binds (ps := ["script"]) fun _ _ _ _ _ _ us hl => match us, hl with | [_], _ => rfl
  refine ⟨PySem.W.fnOf "law" "law" (defArgs (topS 34)) (defBody (topS 34)) (defScope (topS 34)) .none kV30 dc30 pm30 an30 cd30 ct30, fun s v => .of_eq rfl, fun base _ _ => ?_⟩
  let T : Txt K mg := { f_is_number := _, d_is_number := _, F_is_number := F0, g_is_number := PySem.W.mg_of X G a0, b_is_number := b0, f_is_below := _, d_is_below := _, F_is_below := F1, g_is_below := PySem.W.mg_of X G a1, b_is_below := b1, f_two_to := _, d_two_to := _, F_two_to := F2, g_two_to := PySem.W.mg_of X G a2, b_two_to := b2, f_digits_of := _, d_digits_of := _, F_digits_of := F3, g_digits_of := PySem.W.mg_of X G a3, b_digits_of := b3, f_binary := _, d_binary := _, F_binary := F4, g_binary := PySem.W.mg_of X G a4, b_binary := b4, f_number_of_bits := _, d_number_of_bits := _, F_number_of_bits := F5, g_number_of_bits := PySem.W.mg_of X G a5, b_number_of_bits := b5, f_unary := _, d_unary := _, F_unary := F6, g_unary := PySem.W.mg_of X G a6, b_unary := b6, f_gamma := _, d_gamma := _, F_gamma := F7, g_gamma := PySem.W.mg_of X G a7, b_gamma := b7, f_delta := _, d_delta := _, F_delta := F8, g_delta := PySem.W.mg_of X G a8, b_delta := b8, f_rice := _, d_rice := _, F_rice := F9, g_rice := PySem.W.mg_of X G a9, b_rice := b9, f_rest_width := _, d_rest_width := _, F_rest_width := F10, g_rest_width := PySem.W.mg_of X G a10, b_rest_width := b10, f_golomb := _, d_golomb := _, F_golomb := F11, g_golomb := PySem.W.mg_of X G a11, b_golomb := b11, f_steps_up_to := _, d_steps_up_to := _, F_steps_up_to := F12, g_steps_up_to := PySem.W.mg_of X G a12, b_steps_up_to := b12, f_by_two := _, d_by_two := _, F_by_two := F13, g_by_two := PySem.W.mg_of X G a13, b_by_two := b13, f_write_number := _, d_write_number := _, F_write_number := F14, g_write_number := PySem.W.mg_of X G a14, b_write_number := b14, f_read_unary := _, d_read_unary := _, F_read_unary := F15, g_read_unary := PySem.W.mg_of X G a15, b_read_unary := b15, f_read_digits := _, d_read_digits := _, F_read_digits := F16, g_read_digits := PySem.W.mg_of X G a16, b_read_digits := b16, f_read_gamma := _, d_read_gamma := _, F_read_gamma := F17, g_read_gamma := PySem.W.mg_of X G a17, b_read_gamma := b17, f_read_delta := _, d_read_delta := _, F_read_delta := F18, g_read_delta := PySem.W.mg_of X G a18, b_read_delta := b18, f_read_rice := _, d_read_rice := _, F_read_rice := F19, g_read_rice := PySem.W.mg_of X G a19, b_read_rice := b19, f_read_golomb := _, d_read_golomb := _, F_read_golomb := F20, g_read_golomb := PySem.W.mg_of X G a20, b_read_golomb := b20, f_read_by_two := _, d_read_by_two := _, F_read_by_two := F21, g_read_by_two := PySem.W.mg_of X G a21, b_read_by_two := b21, f_read_number := _, d_read_number := _, F_read_number := F22, g_read_number := PySem.W.mg_of X G a22, b_read_number := b22, f_byte_rows := _, d_byte_rows := _, F_byte_rows := F23, g_byte_rows := PySem.W.mg_of X G a23, b_byte_rows := b23, f_read_byte_rows := _, d_read_byte_rows := _, F_read_byte_rows := F24, g_read_byte_rows := PySem.W.mg_of X G a24, b_read_byte_rows := b24, f__law_draws := _, d__law_draws := _, F__law_draws := F25, g__law_draws := PySem.W.mg_of X G a25, b__law_draws := b25, f__law_next := _, d__law_next := _, F__law_next := F26, g__law_next := PySem.W.mg_of X G a26, b__law_next := b26, f__law_digits := _, d__law_digits := _, F__law_digits := F27, g__law_digits := PySem.W.mg_of X G a27, b__law_digits := b27, f__law_wide := _, d__law_wide := _, F__law_wide := F28, g__law_wide := PySem.W.mg_of X G a28, b__law_wide := b28, f__law_holds := _, d__law_holds := _, F__law_holds := F29, g__law_holds := PySem.W.mg_of X G a29, b__law_holds := b29, f_law := _, d_law := _, F_law := F30, g_law := PySem.W.mg_of X G a30, b_law := b30, z_abs := PySem.W.mg_none_of X G z_abs, z_bool := PySem.W.mg_none_of X G z_bool, z_int := PySem.W.mg_none_of X G z_int, z_isinstance := PySem.W.mg_none_of X G z_isinstance, z_len := PySem.W.mg_none_of X G z_len, z_range := PySem.W.mg_none_of X G z_range, z_str := PySem.W.mg_none_of X G z_str, z_tuple := PySem.W.mg_none_of X G z_tuple }
  exact ok_law T (by omega) (ok__law_holds T) plain
theorem walk {l : PySem.W.OpenLaw} {q : Program} {loose : List Str} {XP : (Str → Option Value) → Heap → Prop} {YP : World → Heap → Prop} {d : DefRec} {K : Params → PySem.W.Frag} (hn : l.most = some 63) (hdf : d.params.defaults = [])
    (hY : ∀ (w : World) (h : Heap), YP w h → (K w.params).In h)
    (F : ∀ (w : World) (mg : Str → Option Value) (fa : Addr) (h : Heap), (K w.params).In h → h.Ns mainGlobals mg → mg d.name = some (.ref fa) →
      ∃ fd : FuncData, (∀ (s : Shared) (u : Value), BindsTo s fd ⟨[u], []⟩ [("script", u)]) ∧ ∀ base : Heap, (K w.params).In base → base.Ns mainGlobals mg → FnOk l.prog w (K w.params) mg base CX0 7 fa fd ["script"] (spLaw (K w.params))) :
    PySem.W.WalkO q loose XP YP l.row.toRowW d [] (fun f vs => PySem.call f vs) :=
  L2.walk_of (n := 63) (k := 7) (x := "script") (CX := fun _ => CX0) (sp := fun w => spLaw (K w.params)) hn (by decide) hdf ⟨rfl, by decide, by decide⟩ hY F (fun _ _ a ns hl _ hS => ⟨a, ns, rfl, hS, hl, fun _ => rfl⟩) fun _ _ _ _ _ z => z
end G03
open PySem PySem.W PyProof.Rows in
set_option maxRecDepth 100000 in
set_option maxHeartbeats 0 in
theorem PySem.Challenge.cw_shorthold_k03_whole_known_numbers_in_bit_holds : PySem.Challenge.rw_shorthold_k03_whole_known_numbers_in_bit.Holds := by
  w_on; o_law; k_head; (case hw => w_witness2)
  k_fill
  refine G03.walk (l := PySem.Challenge.rw_shorthold_k03_whole_known_numbers_in_bit) rfl rfl (fun w h Y => PySem.W.kIn_of Y) ?F
  case F =>
    intro w mg fa h KX G hmg
    refine' G03.all_mk KX G hmg ?a0 ?l0 ?c0 ?k0 ?a1 ?l1 ?c1 ?k1 ?a2 ?l2 ?c2 ?k2 ?a3 ?l3 ?c3 ?k3 ?a4 ?l4 ?c4 ?k4 ?a5 ?l5 ?c5 ?k5 ?a6 ?l6 ?c6 ?k6 ?a7 ?l7 ?c7 ?k7 ?a8 ?l8 ?c8 ?k8 ?a9 ?l9 ?c9 ?k9 ?a10 ?l10 ?c10 ?k10 ?a11 ?l11 ?c11 ?k11 ?a12 ?l12 ?c12 ?k12 ?a13 ?l13 ?c13 ?k13 ?a14 ?l14 ?c14 ?k14 ?a15 ?l15 ?c15 ?k15 ?a16 ?l16 ?c16 ?k16 ?a17 ?l17 ?c17 ?k17 ?a18 ?l18 ?c18 ?k18 ?a19 ?l19 ?c19 ?k19 ?a20 ?l20 ?c20 ?k20 ?a21 ?l21 ?c21 ?k21 ?a22 ?l22 ?c22 ?k22 ?a23 ?l23 ?c23 ?k23 ?a24 ?l24 ?c24 ?k24 ?a25 ?l25 ?c25 ?k25 ?a26 ?l26 ?c26 ?k26 ?a27 ?l27 ?c27 ?k27 ?a28 ?l28 ?c28 ?k28 ?a29 ?l29 ?c29 ?k29 ?a30 ?l30 ?c30 ?k30 ?z_abs ?z_bool ?z_int ?z_isinstance ?z_len ?z_range ?z_str ?z_tuple
    (case a0 => k_is)
    (case l0 => k_is)
    (case c0 => k_is)
    (case k0 => k_is)
    (case a1 => k_is)
    (case l1 => k_is)
    (case c1 => k_is)
    (case k1 => k_is)
    (case a2 => k_is)
    (case l2 => k_is)
    (case c2 => k_is)
    (case k2 => k_is)
    (case a3 => k_is)
    (case l3 => k_is)
    (case c3 => k_is)
    (case k3 => k_is)
    (case a4 => k_is)
    (case l4 => k_is)
    (case c4 => k_is)
    (case k4 => k_is)
    (case a5 => k_is)
    (case l5 => k_is)
    (case c5 => k_is)
    (case k5 => k_is)
    (case a6 => k_is)
    (case l6 => k_is)
    (case c6 => k_is)
    (case k6 => k_is)
    (case a7 => k_is)
    (case l7 => k_is)
    (case c7 => k_is)
    (case k7 => k_is)
    (case a8 => k_is)
    (case l8 => k_is)
    (case c8 => k_is)
    (case k8 => k_is)
    (case a9 => k_is)
    (case l9 => k_is)
    (case c9 => k_is)
    (case k9 => k_is)
    (case a10 => k_is)
    (case l10 => k_is)
    (case c10 => k_is)
    (case k10 => k_is)
    (case a11 => k_is)
    (case l11 => k_is)
    (case c11 => k_is)
    (case k11 => k_is)
    (case a12 => k_is)
    (case l12 => k_is)
    (case c12 => k_is)
    (case k12 => k_is)
    (case a13 => k_is)
    (case l13 => k_is)
    (case c13 => k_is)
    (case k13 => k_is)
    (case a14 => k_is)
    (case l14 => k_is)
    (case c14 => k_is)
    (case k14 => k_is)
    (case a15 => k_is)
    (case l15 => k_is)
    (case c15 => k_is)
    (case k15 => k_is)
    (case a16 => k_is)
    (case l16 => k_is)
    (case c16 => k_is)
    (case k16 => k_is)
    (case a17 => k_is)
    (case l17 => k_is)
    (case c17 => k_is)
    (case k17 => k_is)
    (case a18 => k_is)
    (case l18 => k_is)
    (case c18 => k_is)
    (case k18 => k_is)
    (case a19 => k_is)
    (case l19 => k_is)
    (case c19 => k_is)
    (case k19 => k_is)
    (case a20 => k_is)
    (case l20 => k_is)
    (case c20 => k_is)
    (case k20 => k_is)
    (case a21 => k_is)
    (case l21 => k_is)
    (case c21 => k_is)
    (case k21 => k_is)
    (case a22 => k_is)
    (case l22 => k_is)
    (case c22 => k_is)
    (case k22 => k_is)
    (case a23 => k_is)
    (case l23 => k_is)
    (case c23 => k_is)
    (case k23 => k_is)
    (case a24 => k_is)
    (case l24 => k_is)
    (case c24 => k_is)
    (case k24 => k_is)
    (case a25 => k_is)
    (case l25 => k_is)
    (case c25 => k_is)
    (case k25 => k_is)
    (case a26 => k_is)
    (case l26 => k_is)
    (case c26 => k_is)
    (case k26 => k_is)
    (case a27 => k_is)
    (case l27 => k_is)
    (case c27 => k_is)
    (case k27 => k_is)
    (case a28 => k_is)
    (case l28 => k_is)
    (case c28 => k_is)
    (case k28 => k_is)
    (case a29 => k_is)
    (case l29 => k_is)
    (case c29 => k_is)
    (case k29 => k_is)
    (case a30 => k_is)
    (case l30 => k_is)
    (case c30 => k_is)
    (case k30 => k_is)
    (case z_abs => k_is)
    (case z_bool => k_is)
    (case z_int => k_is)
    (case z_isinstance => k_is)
    (case z_len => k_is)
    (case z_range => k_is)
    (case z_str => k_is)
    (case z_tuple => k_is)
