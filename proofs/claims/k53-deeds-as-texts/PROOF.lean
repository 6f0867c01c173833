import PyProof.Rows.All
import Wide.All
import OpenK.AllK
import Wide.FinOn
import HandS.ForMost
import HandS.Exc
import HandS.TryOnly
import HandS.Walk
import HandS.IsInst
import HandS.TupAny
import HandS.Deep
import HandS.Defaults
import HandS.RaiseMore
import HandS.Zip
import HandS.ExcInit
import HandS.ExcSuper
import KE.KExcSuper
import HandS.ExcField
import HandS.Text
import HandS.HeadHook1
import HandS.Codes
import HandS.HeadHook2
import KE.KStateDown
import HandS.Head0
import HandS.Head1
import HandS.Head2
import HandS.HeadEnd
import PySem.Challenge.RW_swappedhot_k53_deeds_as_texts
set_option Elab.async false
set_option linter.all false
set_option maxRecDepth 100000
set_option maxHeartbeats 4000000
section
set_option Elab.async false
set_option linter.all false
set_option maxRecDepth 100000
set_option maxHeartbeats 4000000
/-! The machine, 1: plain data, the abstract heap of cells, and what they stand for. -/
namespace M
open PySem PySem.Spec PyProof.Rows L2

/-- plain data: tuples, texts, numbers are values; lst, ob, dct: a list, an instance, a dict that nobody changes; scr: the script; loc: a cell -/
inductive D where
  | non | bl (b : Bool) | int (i : Int) | str (x : List Nat)
  | tup (xs : List D) | lst (xs : List D)
  | ob (c : Nat) (ns : List Str) (xs : List D)
  | dct (ks xs : List D)
  | scr (ns : List Int)
  | loc (n : Nat)
  deriving Inhabited

inductive Cell where
  | lst (xs : List D) | dct (ks xs : List D) | ins (c : Nat) (ns : List Str) (xs : List D) | gone
  deriving Inhabited
abbrev AH := List Cell

/-! ### equality of data, as Python's == -/
mutual
def D.eqv : D → D → Bool
  | .non, .non => true
  | .bl a, .bl b => a == b
  | .bl a, .int j => decide ((if a then 1 else 0) = j)
  | .int i, .bl b => decide (i = if b then 1 else 0)
  | .int i, .int j => decide (i = j)
  | .str x, .str y => decide (x = y)
  | .lst xs, .lst ys => D.eqvs xs ys
  | .tup xs, .tup ys => D.eqvs xs ys
  | _, _ => false
def D.eqvs : List D → List D → Bool
  | [], [] => true
  | x :: xs, y :: ys => D.eqv x y && D.eqvs xs ys
  | _, _ => false
end
mutual
/-- made of none, bools, ints, texts, tuples, lists -/
def D.isData : D → Bool
  | .non | .bl _ | .int _ | .str _ => true
  | .tup xs | .lst xs => D.areData xs
  | _ => false
def D.areData : List D → Bool
  | [] => true
  | x :: xs => D.isData x && D.areData xs
end
mutual
def D.depth : D → Nat
  | .tup xs | .lst xs => D.depths xs + 1
  | _ => 0
def D.depths : List D → Nat
  | [] => 0
  | x :: xs => max (D.depth x) (D.depths xs)
end
mutual
def D.noLoc : D → Bool
  | .loc _ => false
  | .tup xs | .lst xs | .ob _ _ xs | .dct _ xs => D.noLocs xs
  | _ => true
def D.noLocs : List D → Bool
  | [] => true
  | x :: xs => D.noLoc x && D.noLocs xs
end
mutual
/-- every cell in g's place -/
def D.frz (g : Nat → Option D) : D → Option D
  | .loc n => g n
  | .tup xs => match D.frzs g xs with
    | some ys => some (.tup ys)
    | none => none
  | .lst xs => match D.frzs g xs with
    | some ys => some (.lst ys)
    | none => none
  | .ob c ns xs => match D.frzs g xs with
    | some ys => some (.ob c ns ys)
    | none => none
  | .dct ks xs => match D.frzs g xs with
    | some ys => some (.dct ks ys)
    | none => none
  | d => some d
def D.frzs (g : Nat → Option D) : List D → Option (List D)
  | [] => some []
  | x :: xs => match D.frz g x, D.frzs g xs with
    | some y, some ys => some (y :: ys)
    | _, _ => none
end
/-- what a cell is, nobody changing it -/
def Cell.frz (g : Nat → Option D) : Cell → Option D
  | .lst xs => match D.frzs g xs with
    | some ys => some (.lst ys)
    | none => none
  | .dct ks xs => match D.frzs g xs with
    | some ys => some (.dct ks ys)
    | none => none
  | .ins c ns xs => match D.frzs g xs with
    | some ys => some (.ob c ns ys)
    | none => none
  | .gone => none
/-- the cells from n on, k deep -/
def deepG (ah : AH) (n : Nat) : Nat → Nat → Option D
  | 0, i => if i < n then some (.loc i) else none
  | k + 1, i => if i < n then some (.loc i) else match ah[i]? with
    | some c => c.frz (deepG ah n k)
    | none => none
/-- read only -/
def rd (ah : AH) (d : D) : Option D := d.frz (deepG ah 0 6)
def rds (ah : AH) (ds : List D) : Option (List D) := D.frzs (deepG ah 0 6) ds

mutual
/-- all cells below n -/
def D.undr (n : Nat) : D → Bool
  | .loc i => decide (i < n)
  | .tup xs | .lst xs | .ob _ _ xs | .dct _ xs => D.undrs n xs
  | _ => true
def D.undrs (n : Nat) : List D → Bool
  | [] => true
  | x :: xs => D.undr n x && D.undrs n xs
end
def Cell.undr (n : Nat) : Cell → Bool
  | .lst xs | .dct _ xs | .ins _ _ xs => D.undrs n xs
  | .gone => true

/-- the exception that is caught: its name's slot, its address, its dict's, its fields -/
structure ExI where
  slot : Nat
  a : Addr
  dd : Addr
  ns : List Str
  vs : List V
  xs : List D
/-- the classes' addresses, the caught exception -/
structure CA where
  f : Nat → Addr
  ex : Option ExI
/-! ### what data stand for -/
def dKey : Key → D
  | .inl i => .int i
  | .inr x => .str x.cps.toList
def dKeys (l : List Key) : D := .tup (l.map dKey)
/-- a dict's object, its values vs -/
def DctO (o : Option HO) (ks : List D) (vs : List V) : Prop :=
  (∃ keys : List Key, ks = keys.map dKey ∧ keys.length = vs.length ∧ o = some (.dK (keys.zip vs))) ∨
  (∃ keys : List (List Key), ks = keys.map dKeys ∧ keys.length = vs.length ∧ o = some (.dT (keys.zip vs)))
/-- a list that may be read: not a forbidden one -/
def LstAt (K : PySem.W.Frag) (F : List Addr) (H : Hp) (a : Addr) (vs : List V) : Prop :=
  (Rd H a (.lst vs) ∧ a ∉ F) ∨
    ∃ (o : Obj) (its : Array Value) (n : Nat), K.lookup a = some o ∧ o.cls = .type "list" ∧ o.dict = none ∧ o.data = .seq its n ∧ its.size ≤ sizeLine ∧ Vals vs its.toList
theorem LstAt.sq {K : PySem.W.Frag} {F : List Addr} {H : Hp} {a : Addr} {vs : List V} (h : LstAt K F H a vs) : SqL K H a vs := by
  rcases h with ⟨h, _⟩ | h
  · exact .inl h
  · exact .inr h
/-- a text: not too long, of code points -/
def sOk (x : List Nat) : Prop := x.length ≤ sizeLine ∧ ∀ c ∈ x, c < 1114112
mutual
def RelD (K : PySem.W.Frag) (ca : CA) (F rho : List Addr) (H : Hp) : D → V → Prop
  | .non, v => v = .non
  | .bl b, v => v = .bl b
  | .int i, v => v = .int i
  | .str x, v => sOk x ∧ v = .str ⟨x.toArray⟩
  | .tup xs, v => xs.length ≤ sizeLine ∧ ∃ a vs, v = .ref a ∧ SqT K H a vs ∧ RelDs K ca F rho H xs vs
  | .lst xs, v => xs.length ≤ sizeLine ∧ ∃ a vs, v = .ref a ∧ H a = some (.lst vs) ∧ a ∉ F ∧ RelDs K ca F rho H xs vs
  | .scr ns, v => ∃ a, v = .ref a ∧ LstAt K F H a (ns.map V.int)
  | .ob c ns xs, v => ∃ a dx vs, v = .ref a ∧ a ∉ F ∧ H a = some (.ins (ca.f (c % 1000)) dx (ns.zip vs)) ∧ ns.length = vs.length ∧ RelDs K ca F rho H xs vs
  | .dct ks xs, v => ∃ a vs, v = .ref a ∧ a ∉ F ∧ DctO (H a) ks vs ∧ RelDs K ca F rho H xs vs
  | .loc n, v => ∃ a, v = .ref a ∧ rho[n]? = some a
def RelDs (K : PySem.W.Frag) (ca : CA) (F rho : List Addr) (H : Hp) : List D → List V → Prop
  | [], vs => vs = []
  | x :: xs, vs => ∃ v r, vs = v :: r ∧ RelD K ca F rho H x v ∧ RelDs K ca F rho H xs r
end
def CellAt (K : PySem.W.Frag) (ca : CA) (F rho : List Addr) (H : Hp) (o : Option HO) : Cell → Prop
  | .lst ds => ds.length ≤ sizeLine ∧ ∃ vs, o = some (.lst vs) ∧ RelDs K ca F rho H ds vs
  | .dct ks ds => ∃ vs, DctO o ks vs ∧ RelDs K ca F rho H ds vs
  | .ins c ns ds => ∃ dx vs, o = some (.ins (ca.f (c % 1000)) dx (ns.zip vs)) ∧ ns.length = vs.length ∧ RelDs K ca F rho H ds vs
  | .gone => True
/-- the heap: the cells' addresses rho, the forbidden ones F (every cell of ours and of those who called) -/
structure HR (K : PySem.W.Frag) (ca : CA) (F rho : List Addr) (ah : AH) (H : Hp) : Prop where
  sub : ∀ a ∈ rho, a ∈ F
  nd : rho.Nodup
  len : rho.length = ah.length
  mu : ∀ a ∈ F, Mut (H a)
  cells : ∀ (i : Nat) (c : Cell) (a : Addr), ah[i]? = some c → rho[i]? = some a → CellAt K ca F rho H (H a) c
abbrev Env1 := List (Option D)
def exS (K : PySem.W.Frag) (ca : CA) (F rho : List Addr) (H : Hp) (σ : L2.St) : Prop := ∀ e, ca.ex = some e → σ[e.slot]? = some (some (.ref e.a)) ∧ (e.ns ≠ [] → H e.dd = some (.xd (e.ns.zip e.vs)) ∧ RelDs K ca F rho H e.xs e.vs)
def notEx (ca : CA) (i : Nat) : Prop := ∀ e, ca.ex = some e → i ≠ e.slot
def ER (K : PySem.W.Frag) (ca : CA) (F rho : List Addr) (H : Hp) (env : Env1) (σ : L2.St) : Prop :=
  env.length = σ.length ∧ (∀ (i : Nat) (d : D), env[i]? = some (some d) → ∃ v, σ[i]? = some (some v) ∧ RelD K ca F rho H d v) ∧ exS K ca F rho H σ
/-- from one heap to a later one -/
structure Ext (F rho : List Addr) (H : Hp) (F' rho' : List Addr) (H' : Hp) : Prop where
  pre : ∃ t, rho' = rho ++ t
  sub : ∀ a ∈ F, a ∈ F'
  new : ∀ a ∈ F', a ∉ F → H a = none
  newr : ∀ a ∈ rho', a ∉ rho → H a = none
  keep : ∀ a o, H a = some o → a ∉ rho → H' a = some o

theorem Ext.refl (F rho : List Addr) (H : Hp) : Ext F rho H F rho H := ⟨⟨[], by simp⟩, fun _ h => h, fun a h n => absurd h n, fun a h n => absurd h n, fun _ _ h _ => h⟩
theorem Ext.trans {F rho F1 rho1 F2 rho2 : List Addr} {H H1 H2 : Hp} (a : Ext F rho H F1 rho1 H1) (b : Ext F1 rho1 H1 F2 rho2 H2) (sub : ∀ x ∈ rho, x ∈ F) : Ext F rho H F2 rho2 H2 := by
  obtain ⟨t, e⟩ := a.pre
  obtain ⟨u, e2⟩ := b.pre
  have back : ∀ x, H1 x = none → x ∉ rho → H x = none := fun x h1 nr => by
    cases q : H x with
    | none => rfl
    | some o =>
      have := a.keep x o q nr
      rw [h1] at this
      cases this
  refine ⟨⟨t ++ u, by rw [e2, e, List.append_assoc]⟩, fun x h => b.sub x (a.sub x h), fun x h n => ?_, fun x h n => ?_, fun x o h n => ?_⟩
  · by_cases h1 : x ∈ F1
    · exact a.new x h1 n
    · exact back x (b.new x h h1) fun z => n (sub x z)
  · by_cases h1 : x ∈ rho1
    · exact a.newr x h1 n
    · exact back x (b.newr x h h1) n
  · refine b.keep x o (a.keep x o h n) fun z => ?_
    have := a.newr x z n
    rw [h] at this
    cases this
section
variable {K : PySem.W.Frag} {ca : CA} {F rho F' rho' : List Addr} {H H' : Hp} {ah : AH}
/-- what is no cell stays -/
structure ExtW (F rho : List Addr) (H : Hp) (F' rho' : List Addr) (H' : Hp) : Prop where
  pre : ∃ t, rho' = rho ++ t
  new : ∀ a ∈ F', a ∉ F → H a = none
  keep : ∀ a o, H a = some o → a ∉ F → H' a = some o
theorem Ext.w (e : Ext F rho H F' rho' H') (sub : ∀ a ∈ rho, a ∈ F) : ExtW F rho H F' rho' H' := ⟨e.pre, e.new, fun a o h n => e.keep a o h fun z => n (sub a z)⟩
theorem rd_keep {a : Addr} {u : HO} (e : ExtW F rho H F' rho' H') (hn : a ∉ F) (h : Rd H a u) : Rd H' a u := by
  rcases h with h | ⟨o, h⟩
  · exact .inl (e.keep a _ h hn)
  · exact .inr ⟨o, e.keep a _ h hn⟩
theorem rd_some {a : Addr} {u : HO} (h : Rd H a u) : ∃ o, H a = some o := by
  rcases h with h | ⟨o, h⟩
  · exact ⟨_, h⟩
  · exact ⟨_, h⟩
/-- what is no mutable thing is not forbidden -/
theorem tup_not {a : Addr} {vs : List V} (mu : ∀ a ∈ F, Mut (H a)) (h : Rd H a (.tup vs)) : a ∉ F := fun z => by
  have m := mu a z
  rcases h with h | ⟨o, h⟩
  · rw [h] at m; exact m
  · rw [h] at m; exact m
theorem sqt_keep {a : Addr} {vs : List V} (mu : ∀ a ∈ F, Mut (H a)) (e : ExtW F rho H F' rho' H') (h : SqT K H a vs) : SqT K H' a vs := by
  rcases h with h | h
  · exact .inl (rd_keep e (tup_not mu h) h)
  · exact .inr h
theorem nF_keep {a : Addr} {o : HO} (e : ExtW F rho H F' rho' H') (h : H a = some o) (n : a ∉ F) : a ∉ F' := fun z => by
  have := e.new a z n
  rw [h] at this
  cases this
theorem lst_keep {a : Addr} {vs : List V} (e : ExtW F rho H F' rho' H') (h : LstAt K F H a vs) : LstAt K F' H' a vs := by
  rcases h with ⟨h, n⟩ | h
  · obtain ⟨o, ho⟩ := rd_some h
    exact .inl ⟨rd_keep e n h, nF_keep e ho n⟩
  · exact .inr h
theorem dcto_some {o : Option HO} {ks : List D} {vs : List V} (h : DctO o ks vs) : ∃ u, o = some u := by
  rcases h with ⟨_, _, _, h⟩ | ⟨_, _, _, h⟩
  · exact ⟨_, h⟩
  · exact ⟨_, h⟩
mutual
theorem RelD.keepW (mu : ∀ a ∈ F, Mut (H a)) (e : ExtW F rho H F' rho' H') : ∀ (d : D) (v : V), RelD K ca F rho H d v → RelD K ca F' rho' H' d v
  | .non, v, h => by simp only [RelD] at h ⊢; exact h
  | .bl b, v, h => by simp only [RelD] at h ⊢; exact h
  | .int i, v, h => by simp only [RelD] at h ⊢; exact h
  | .str x, v, h => by simp only [RelD] at h ⊢; exact h
  | .tup xs, v, h => by
    simp only [RelD] at h ⊢
    obtain ⟨hz, a, vs, e1, h1, h2⟩ := h
    exact ⟨hz, a, vs, e1, sqt_keep mu e h1, RelDs.keepW mu e xs vs h2⟩
  | .lst xs, v, h => by
    simp only [RelD] at h ⊢
    obtain ⟨hz, a, vs, e1, h1, hn, h2⟩ := h
    exact ⟨hz, a, vs, e1, e.keep a _ h1 hn, nF_keep e h1 hn, RelDs.keepW mu e xs vs h2⟩
  | .scr ns, v, h => by
    simp only [RelD] at h ⊢
    obtain ⟨a, e1, h1⟩ := h
    exact ⟨a, e1, lst_keep e h1⟩
  | .ob c ns xs, v, h => by
    simp only [RelD] at h ⊢
    obtain ⟨a, dx, vs, e1, h1, h2, h3, h4⟩ := h
    exact ⟨a, dx, vs, e1, nF_keep e h2 h1, e.keep a _ h2 h1, h3, RelDs.keepW mu e xs vs h4⟩
  | .dct ks xs, v, h => by
    simp only [RelD] at h ⊢
    obtain ⟨a, vs, e1, h1, h2, h3⟩ := h
    obtain ⟨o, ho⟩ := dcto_some h2
    have ho' := e.keep a _ ho h1
    exact ⟨a, vs, e1, nF_keep e ho h1, by rw [ho', ← ho]; exact h2, RelDs.keepW mu e xs vs h3⟩
  | .loc n, v, h => by
    simp only [RelD] at h ⊢
    obtain ⟨a, e1, h1⟩ := h
    obtain ⟨t, et⟩ := e.pre
    refine ⟨a, e1, ?_⟩
    rw [et, List.getElem?_append_left (List.getElem?_eq_some_iff.mp h1).1]
    exact h1
theorem RelDs.keepW (mu : ∀ a ∈ F, Mut (H a)) (e : ExtW F rho H F' rho' H') : ∀ (ds : List D) (vs : List V), RelDs K ca F rho H ds vs → RelDs K ca F' rho' H' ds vs
  | [], vs, h => by simp only [RelDs] at h ⊢; exact h
  | x :: xs, vs, h => by
    simp only [RelDs] at h ⊢
    obtain ⟨v, r, e1, h1, h2⟩ := h
    exact ⟨v, r, e1, RelD.keepW mu e x v h1, RelDs.keepW mu e xs r h2⟩
end
theorem RelD.keep (sub : ∀ a ∈ rho, a ∈ F) (mu : ∀ a ∈ F, Mut (H a)) (e : Ext F rho H F' rho' H') (d : D) (v : V) (h : RelD K ca F rho H d v) : RelD K ca F' rho' H' d v := RelD.keepW mu (e.w sub) d v h
theorem RelDs.keep (sub : ∀ a ∈ rho, a ∈ F) (mu : ∀ a ∈ F, Mut (H a)) (e : Ext F rho H F' rho' H') (ds : List D) (vs : List V) (h : RelDs K ca F rho H ds vs) : RelDs K ca F' rho' H' ds vs := RelDs.keepW mu (e.w sub) ds vs h
mutual
/-- fewer are forbidden -/
theorem RelD.anti (lm : ∀ a ∈ F', a ∈ F) : ∀ (d : D) (v : V), RelD K ca F rho H d v → RelD K ca F' rho H d v
  | .non, v, h => by simp only [RelD] at h ⊢; exact h
  | .bl b, v, h => by simp only [RelD] at h ⊢; exact h
  | .int i, v, h => by simp only [RelD] at h ⊢; exact h
  | .str x, v, h => by simp only [RelD] at h ⊢; exact h
  | .tup xs, v, h => by
    simp only [RelD] at h ⊢
    obtain ⟨hz, a, vs, e1, h1, h2⟩ := h
    exact ⟨hz, a, vs, e1, h1, RelDs.anti lm xs vs h2⟩
  | .lst xs, v, h => by
    simp only [RelD] at h ⊢
    obtain ⟨hz, a, vs, e1, h1, hn, h2⟩ := h
    exact ⟨hz, a, vs, e1, h1, fun z => hn (lm a z), RelDs.anti lm xs vs h2⟩
  | .scr ns, v, h => by
    simp only [RelD] at h ⊢
    obtain ⟨a, e1, h1⟩ := h
    refine ⟨a, e1, ?_⟩
    rcases h1 with ⟨h1, n⟩ | h1
    · exact .inl ⟨h1, fun z => n (lm a z)⟩
    · exact .inr h1
  | .ob c ns xs, v, h => by
    simp only [RelD] at h ⊢
    obtain ⟨a, dx, vs, e1, h1, h2, h3, h4⟩ := h
    exact ⟨a, dx, vs, e1, fun z => h1 (lm a z), h2, h3, RelDs.anti lm xs vs h4⟩
  | .dct ks xs, v, h => by
    simp only [RelD] at h ⊢
    obtain ⟨a, vs, e1, h1, h2, h3⟩ := h
    exact ⟨a, vs, e1, fun z => h1 (lm a z), h2, RelDs.anti lm xs vs h3⟩
  | .loc n, v, h => by simp only [RelD] at h ⊢; exact h
theorem RelDs.anti (lm : ∀ a ∈ F', a ∈ F) : ∀ (ds : List D) (vs : List V), RelDs K ca F rho H ds vs → RelDs K ca F' rho H ds vs
  | [], vs, h => by simp only [RelDs] at h ⊢; exact h
  | x :: xs, vs, h => by
    simp only [RelDs] at h ⊢
    obtain ⟨v, r, e1, h1, h2⟩ := h
    exact ⟨v, r, e1, RelD.anti lm x v h1, RelDs.anti lm xs r h2⟩
end
mutual
theorem RelD.cv {ca' : CA} (hc : ca.f = ca'.f) : ∀ (d : D) (v : V), RelD K ca F rho H d v → RelD K ca' F rho H d v
  | .non, v, h => by simp only [RelD] at h ⊢; exact h
  | .bl b, v, h => by simp only [RelD] at h ⊢; exact h
  | .int i, v, h => by simp only [RelD] at h ⊢; exact h
  | .str x, v, h => by simp only [RelD] at h ⊢; exact h
  | .tup xs, v, h => by
    simp only [RelD] at h ⊢
    obtain ⟨hz, a, vs, e1, h1, h2⟩ := h
    exact ⟨hz, a, vs, e1, h1, RelDs.cv hc xs vs h2⟩
  | .lst xs, v, h => by
    simp only [RelD] at h ⊢
    obtain ⟨hz, a, vs, e1, h1, hn, h2⟩ := h
    exact ⟨hz, a, vs, e1, h1, hn, RelDs.cv hc xs vs h2⟩
  | .scr ns, v, h => by simp only [RelD] at h ⊢; exact h
  | .ob c ns xs, v, h => by
    simp only [RelD] at h ⊢
    obtain ⟨a, dx, vs, e1, h1, h2, h3, h4⟩ := h
    exact ⟨a, dx, vs, e1, h1, by rw [← hc]; exact h2, h3, RelDs.cv hc xs vs h4⟩
  | .dct ks xs, v, h => by
    simp only [RelD] at h ⊢
    obtain ⟨a, vs, e1, h1, h2, h3⟩ := h
    exact ⟨a, vs, e1, h1, h2, RelDs.cv hc xs vs h3⟩
  | .loc n, v, h => by simp only [RelD] at h ⊢; exact h
theorem RelDs.cv {ca' : CA} (hc : ca.f = ca'.f) : ∀ (ds : List D) (vs : List V), RelDs K ca F rho H ds vs → RelDs K ca' F rho H ds vs
  | [], vs, h => by simp only [RelDs] at h ⊢; exact h
  | x :: xs, vs, h => by
    simp only [RelDs] at h ⊢
    obtain ⟨v, r, e1, h1, h2⟩ := h
    exact ⟨v, r, e1, RelD.cv hc x v h1, RelDs.cv hc xs r h2⟩
end
theorem CellAt.cv {ca' : CA} (hc : ca.f = ca'.f) {o : Option HO} {c : Cell} (h : CellAt K ca F rho H o c) : CellAt K ca' F rho H o c := by
  cases c with
  | lst ds => obtain ⟨hz, vs, h1, h2⟩ := h; exact ⟨hz, vs, h1, RelDs.cv hc _ _ h2⟩
  | dct ks ds => obtain ⟨vs, h1, h2⟩ := h; exact ⟨vs, h1, RelDs.cv hc _ _ h2⟩
  | ins c ns ds => obtain ⟨dx, vs, h1, h2, h3⟩ := h; exact ⟨dx, vs, by rw [← hc]; exact h1, h2, RelDs.cv hc _ _ h3⟩
  | gone => trivial
theorem HR.cv {ca' : CA} (hc : ca.f = ca'.f) (h : HR K ca F rho ah H) : HR K ca' F rho ah H :=
  ⟨h.sub, h.nd, h.len, h.mu, fun i c a h1 h2 => (h.cells i c a h1 h2).cv hc⟩
theorem ER.keep {env : Env1} {σ : L2.St} (sub : ∀ a ∈ rho, a ∈ F) (mu : ∀ a ∈ F, Mut (H a)) (e : Ext F rho H F' rho' H') (h : ER K ca F rho H env σ) : ER K ca F' rho' H' env σ :=
  ⟨h.1, fun i d hd => let ⟨v, h1, h2⟩ := h.2.1 i d hd; ⟨v, h1, h2.keep sub mu e d v⟩, fun x hx => let ⟨h1, h0⟩ := h.2.2 x hx; ⟨h1, fun hn => let ⟨h2, h3⟩ := h0 hn; ⟨e.keep _ _ h2 fun z => by have m := mu _ (sub _ z); rw [h2] at m; exact m, h3.keep sub mu e _ _⟩⟩⟩
theorem RelDs.length : ∀ {ds : List D} {vs : List V}, RelDs K ca F rho H ds vs → ds.length = vs.length
  | [], vs, h => by simp only [RelDs] at h; rw [h]; rfl
  | x :: xs, vs, h => by
    simp only [RelDs] at h
    obtain ⟨v, r, e1, _, h2⟩ := h
    rw [e1, List.length_cons, List.length_cons, RelDs.length h2]
theorem RelDs.get : ∀ {ds : List D} {vs : List V} {i : Nat} {d : D}, RelDs K ca F rho H ds vs → ds[i]? = some d → ∃ v, vs[i]? = some v ∧ RelD K ca F rho H d v
  | [], vs, i, d, _, h => by simp at h
  | x :: xs, vs, 0, d, h, hd => by
    simp only [RelDs] at h
    obtain ⟨v, r, e1, h1, _⟩ := h
    simp at hd
    subst hd e1
    exact ⟨v, rfl, h1⟩
  | x :: xs, vs, i + 1, d, h, hd => by
    simp only [RelDs] at h
    obtain ⟨v, r, e1, _, h2⟩ := h
    subst e1
    obtain ⟨u, h3, h4⟩ := RelDs.get (i := i) h2 (by simpa using hd)
    exact ⟨u, by simpa using h3, h4⟩
theorem RelDs.nil : RelDs K ca F rho H [] [] := by simp only [RelDs]
theorem RelDs.cons {d : D} {v : V} {ds : List D} {vs : List V} (h : RelD K ca F rho H d v) (t : RelDs K ca F rho H ds vs) : RelDs K ca F rho H (d :: ds) (v :: vs) := by
  simp only [RelDs]
  exact ⟨v, vs, rfl, h, t⟩
theorem RelDs.app : ∀ {ds es : List D} {vs ws : List V}, RelDs K ca F rho H ds vs → RelDs K ca F rho H es ws → RelDs K ca F rho H (ds ++ es) (vs ++ ws)
  | [], es, vs, ws, h, t => by
    simp only [RelDs] at h
    subst h
    exact t
  | x :: xs, es, vs, ws, h, t => by
    simp only [RelDs] at h
    obtain ⟨v, r, e1, h1, h2⟩ := h
    subst e1
    exact RelDs.cons h1 (RelDs.app h2 t)
theorem RelDs.take : ∀ {ds : List D} {vs : List V} (n : Nat), RelDs K ca F rho H ds vs → RelDs K ca F rho H (ds.take n) (vs.take n)
  | ds, vs, 0, _ => by simp only [List.take_zero]; exact RelDs.nil
  | [], vs, n + 1, h => by
    simp only [RelDs] at h
    subst h
    exact RelDs.nil
  | x :: xs, vs, n + 1, h => by
    simp only [RelDs] at h
    obtain ⟨v, r, e1, h1, h2⟩ := h
    subst e1
    exact RelDs.cons h1 (RelDs.take n h2)
theorem RelDs.drop : ∀ {ds : List D} {vs : List V} (n : Nat), RelDs K ca F rho H ds vs → RelDs K ca F rho H (ds.drop n) (vs.drop n)
  | ds, vs, 0, h => h
  | [], vs, n + 1, h => by
    simp only [RelDs] at h
    subst h
    exact RelDs.nil
  | x :: xs, vs, n + 1, h => by
    simp only [RelDs] at h
    obtain ⟨v, r, e1, h1, h2⟩ := h
    subst e1
    exact RelDs.drop n h2
theorem RelDs.set : ∀ {ds : List D} {vs : List V} {d : D} {v : V} (n : Nat), RelDs K ca F rho H ds vs → RelD K ca F rho H d v → RelDs K ca F rho H (ds.set n d) (vs.set n v)
  | [], vs, d, v, n, h, _ => by
    simp only [RelDs] at h
    subst h
    exact RelDs.nil
  | x :: xs, vs, d, v, 0, h, t => by
    simp only [RelDs] at h
    obtain ⟨u, r, e1, h1, h2⟩ := h
    subst e1
    exact RelDs.cons t h2
  | x :: xs, vs, d, v, n + 1, h, t => by
    simp only [RelDs] at h
    obtain ⟨u, r, e1, h1, h2⟩ := h
    subst e1
    exact RelDs.cons h1 (RelDs.set n h2 t)

/-! ### read only: what is known without cells and forbidden ones -/
theorem frzs_len {g : Nat → Option D} : ∀ {xs ys : List D}, D.frzs g xs = some ys → ys.length = xs.length
  | [], ys, h => by simp only [D.frzs, Option.some.injEq] at h; rw [← h]
  | x :: xs, ys, h => by
    simp only [D.frzs] at h
    split at h
    · rename_i y zs q1 q2
      simp only [Option.some.injEq] at h
      rw [← h, List.length_cons, List.length_cons, frzs_len q2]
    · cases h
mutual
/-- the forbidden ones forgotten -/
theorem RelD.frz {g : Nat → Option D} {F2 rho2 : List Addr} (lm : ∀ a ∈ F2, a ∈ F) (hg : ∀ i d a, g i = some d → rho[i]? = some a → RelD K ca F2 rho2 H d (.ref a)) :
    ∀ (d d' : D) (v : V), d.frz g = some d' → RelD K ca F rho H d v → RelD K ca F2 rho2 H d' v
  | .non, d', v, e, h => by simp only [D.frz, Option.some.injEq] at e; subst e; simp only [RelD] at h ⊢; exact h
  | .bl b, d', v, e, h => by simp only [D.frz, Option.some.injEq] at e; subst e; simp only [RelD] at h ⊢; exact h
  | .int i, d', v, e, h => by simp only [D.frz, Option.some.injEq] at e; subst e; simp only [RelD] at h ⊢; exact h
  | .str x, d', v, e, h => by simp only [D.frz, Option.some.injEq] at e; subst e; simp only [RelD] at h ⊢; exact h
  | .tup xs, d', v, e, h => by
    simp only [D.frz] at e
    split at e
    · rename_i ys q
      simp only [Option.some.injEq] at e
      subst e
      simp only [RelD] at h ⊢
      obtain ⟨hz, a, vs, e1, h1, h2⟩ := h
      exact ⟨by rw [frzs_len q]; exact hz, a, vs, e1, h1, RelDs.frz lm hg xs ys vs q h2⟩
    · cases e
  | .lst xs, d', v, e, h => by
    simp only [D.frz] at e
    split at e
    · rename_i ys q
      simp only [Option.some.injEq] at e
      subst e
      simp only [RelD] at h ⊢
      obtain ⟨hz, a, vs, e1, h1, hn, h2⟩ := h
      exact ⟨by rw [frzs_len q]; exact hz, a, vs, e1, h1, fun z => hn (lm a z), RelDs.frz lm hg xs ys vs q h2⟩
    · cases e
  | .scr ns, d', v, e, h => by
    simp only [D.frz, Option.some.injEq] at e
    subst e
    simp only [RelD] at h ⊢
    obtain ⟨a, e1, h1⟩ := h
    refine ⟨a, e1, ?_⟩
    rcases h1 with ⟨h1, n⟩ | h1
    · exact .inl ⟨h1, fun z => n (lm a z)⟩
    · exact .inr h1
  | .ob c ns xs, d', v, e, h => by
    simp only [D.frz] at e
    split at e
    · rename_i ys q
      simp only [Option.some.injEq] at e
      subst e
      simp only [RelD] at h ⊢
      obtain ⟨a, dx, vs, e1, h1, h2, h3, h4⟩ := h
      exact ⟨a, dx, vs, e1, fun z => h1 (lm a z), h2, h3, RelDs.frz lm hg xs ys vs q h4⟩
    · cases e
  | .dct ks xs, d', v, e, h => by
    simp only [D.frz] at e
    split at e
    · rename_i ys q
      simp only [Option.some.injEq] at e
      subst e
      simp only [RelD] at h ⊢
      obtain ⟨a, vs, e1, h1, h2, h3⟩ := h
      exact ⟨a, vs, e1, fun z => h1 (lm a z), h2, RelDs.frz lm hg xs ys vs q h3⟩
    · cases e
  | .loc n, d', v, e, h => by
    simp only [D.frz] at e
    simp only [RelD] at h
    obtain ⟨a, e1, h1⟩ := h
    rw [e1]
    exact hg n d' a e h1
theorem RelDs.frz {g : Nat → Option D} {F2 rho2 : List Addr} (lm : ∀ a ∈ F2, a ∈ F) (hg : ∀ i d a, g i = some d → rho[i]? = some a → RelD K ca F2 rho2 H d (.ref a)) :
    ∀ (ds ds' : List D) (vs : List V), D.frzs g ds = some ds' → RelDs K ca F rho H ds vs → RelDs K ca F2 rho2 H ds' vs
  | [], ds', vs, e, h => by
    simp only [D.frzs, Option.some.injEq] at e
    subst e
    simp only [RelDs] at h ⊢
    exact h
  | x :: xs, ds', vs, e, h => by
    simp only [D.frzs] at e
    split at e
    · rename_i y ys q1 q2
      simp only [Option.some.injEq] at e
      subst e
      simp only [RelDs] at h ⊢
      obtain ⟨v, r, e1, h1, h2⟩ := h
      exact ⟨v, r, e1, RelD.frz lm hg x y v q1 h1, RelDs.frz lm hg xs ys r q2 h2⟩
    · cases e
end
/-- the cells from n on, told as they stand: F2 the forbidden ones that are left, no cell from n on among them -/
theorem deep_ok {F2 : List Addr} {n : Nat} (R : HR K ca F rho ah H) (lm : ∀ a ∈ F2, a ∈ F) (nn : ∀ i a, rho[i]? = some a → n ≤ i → a ∉ F2) (s2 : ∀ i a, rho[i]? = some a → i < n → a ∈ F2 ∨ True) :
    ∀ (k i : Nat) (d : D) (a : Addr), deepG ah n k i = some d → rho[i]? = some a → RelD K ca F2 (rho.take n) H d (.ref a)
  | 0, i, d, a, e, ha => by
    simp only [deepG] at e
    split at e
    · rename_i hi
      cases e
      simp only [RelD]
      exact ⟨a, rfl, by rw [List.getElem?_take_of_lt hi]; exact ha⟩
    · cases e
  | k + 1, i, d, a, e, ha => by
    simp only [deepG] at e
    split at e
    · rename_i hi
      cases e
      simp only [RelD]
      exact ⟨a, rfl, by rw [List.getElem?_take_of_lt hi]; exact ha⟩
    · rename_i hi
      split at e
      · rename_i c hc
        have hcell := R.cells i c a hc ha
        have hn := nn i a ha (Nat.le_of_not_lt hi)
        have ih := deep_ok (F2 := F2) R lm nn s2 k
        cases c with
        | lst xs =>
          simp only [Cell.frz] at e
          split at e
          · rename_i ys q
            cases e
            obtain ⟨hz, vs, h1, h2⟩ := hcell
            simp only [RelD]
            exact ⟨by rw [frzs_len q]; exact hz, a, vs, rfl, h1, hn, RelDs.frz lm ih xs ys vs q h2⟩
          · cases e
        | dct ks xs =>
          simp only [Cell.frz] at e
          split at e
          · rename_i ys q
            cases e
            obtain ⟨vs, h1, h2⟩ := hcell
            simp only [RelD]
            exact ⟨a, vs, rfl, hn, h1, RelDs.frz lm ih xs ys vs q h2⟩
          · cases e
        | ins c ns xs =>
          simp only [Cell.frz] at e
          split at e
          · rename_i ys q
            cases e
            obtain ⟨dx, vs, h1, h2, h3⟩ := hcell
            simp only [RelD]
            exact ⟨a, dx, vs, rfl, hn, h1, h2, RelDs.frz lm ih xs ys vs q h3⟩
          · cases e
        | gone => cases e
      · cases e
/-- read only -/
theorem rd_ok {d d' : D} {v : V} (R : HR K ca F rho ah H) (e : rd ah d = some d') (h : RelD K ca F rho H d v) : RelD K ca [] [] H d' v := by
  have := RelD.frz (F2 := []) (rho2 := rho.take 0) (fun a z => by cases z) (fun i d a => deep_ok (F2 := []) (n := 0) R (fun a z => by cases z) (fun _ _ _ _ z => by cases z) (fun _ _ _ z => absurd z (Nat.not_lt_zero _)) 6 i d a) d d' v e h
  simpa using this
theorem rds_ok {ds ds' : List D} {vs : List V} (R : HR K ca F rho ah H) (e : rds ah ds = some ds') (h : RelDs K ca F rho H ds vs) : RelDs K ca [] [] H ds' vs := by
  have := RelDs.frz (F2 := []) (rho2 := rho.take 0) (fun a z => by cases z) (fun i d a => deep_ok (F2 := []) (n := 0) R (fun a z => by cases z) (fun _ _ _ _ z => by cases z) (fun _ _ _ z => absurd z (Nat.not_lt_zero _)) 6 i d a) ds ds' vs e h
  simpa using this
end
end M
end

section
set_option Elab.async false
set_option linter.all false
set_option maxRecDepth 100000
set_option maxHeartbeats 4000000
/-! The machine, 2: the core language and its evaluator. -/
namespace M
open PySem PySem.Spec PyProof.Rows L2

/-- the longest list, text -/
abbrev SZ : Nat := 16777216

mutual
/-- the very same -/
def D.same : D → D → Bool
  | .non, .non => true
  | .bl a, .bl b => a == b
  | .int i, .int j => decide (i = j)
  | .str x, .str y => decide (x = y)
  | .tup xs, .tup ys => D.sames xs ys
  | .lst xs, .lst ys => D.sames xs ys
  | .ob c ns xs, .ob d ms ys => decide (c = d) && (decide (ns = ms) && D.sames xs ys)
  | .dct ks xs, .dct ls ys => D.sames ks ls && D.sames xs ys
  | .scr ns, .scr ms => decide (ns = ms)
  | .loc n, .loc m => decide (n = m)
  | _, _ => false
def D.sames : List D → List D → Bool
  | [], [] => true
  | x :: xs, y :: ys => D.same x y && D.sames xs ys
  | _, _ => false
end
mutual
theorem D.same_ok : ∀ x y : D, D.same x y = true → x = y
  | .non, y, h => by cases y <;> simp_all [D.same]
  | .bl a, y, h => by cases y <;> simp_all [D.same]
  | .int a, y, h => by cases y <;> simp_all [D.same]
  | .str a, y, h => by cases y <;> simp_all [D.same]
  | .loc a, y, h => by cases y <;> simp_all [D.same]
  | .scr a, y, h => by cases y <;> simp_all [D.same]
  | .tup xs, y, h => by
    cases y <;> simp only [D.same, Bool.false_eq_true] at h
    rw [D.sames_ok _ _ h]
  | .lst xs, y, h => by
    cases y <;> simp only [D.same, Bool.false_eq_true] at h
    rw [D.sames_ok _ _ h]
  | .ob c ns xs, y, h => by
    cases y <;> simp only [D.same, Bool.false_eq_true, Bool.and_eq_true, decide_eq_true_eq] at h
    rw [h.1, h.2.1, D.sames_ok _ _ h.2.2]
  | .dct ks xs, y, h => by
    cases y <;> simp only [D.same, Bool.false_eq_true, Bool.and_eq_true] at h
    rw [D.sames_ok _ _ h.1, D.sames_ok _ _ h.2]
theorem D.sames_ok : ∀ x y : List D, D.sames x y = true → x = y
  | [], y, h => by cases y <;> simp_all [D.sames]
  | x :: xs, y, h => by
    cases y with
    | nil => simp [D.sames] at h
    | cons y ys =>
      simp only [D.sames, Bool.and_eq_true] at h
      rw [D.same_ok _ _ h.1, D.sames_ok _ _ h.2]
end
mutual
theorem D.same_self : ∀ x : D, D.same x x = true
  | .non => by simp [D.same]
  | .bl a => by simp [D.same]
  | .int a => by simp [D.same]
  | .str a => by simp [D.same]
  | .loc a => by simp [D.same]
  | .scr a => by simp [D.same]
  | .tup xs => by simp [D.same, D.sames_self xs]
  | .lst xs => by simp [D.same, D.sames_self xs]
  | .ob c ns xs => by simp [D.same, D.sames_self xs]
  | .dct ks xs => by simp [D.same, D.sames_self xs, D.sames_self ks]
theorem D.sames_self : ∀ x : List D, D.sames x x = true
  | [] => by simp [D.sames]
  | x :: xs => by simp [D.sames, D.same_self x, D.sames_self xs]
end
mutual
/-- tuples and what stands in them, no list -/
def D.flat : D → Bool
  | .non | .bl _ | .int _ | .str _ => true
  | .tup xs => D.flats xs
  | _ => false
def D.flats : List D → Bool
  | [] => true
  | x :: xs => D.flat x && D.flats xs
end

/-- an exception in flight: its class, its fields -/
structure Ex where
  c : Nat
  ns : List Str
  xs : List D
inductive R (α : Type) where
  | ok (a : α) (ah : AH) | exc (e : Ex) (ah : AH) | bad
def R.bind {α β : Type} (r : R α) (f : α → AH → R β) : R β := match r with
  | .ok a ah => f a ah
  | .exc e ah => .exc e ah
  | .bad => .bad
/-- no exception of an operation -/
def R.nox {α : Type} : R α → R α
  | .ok a ah => .ok a ah
  | _ => .bad
@[simp] theorem R.nox_ok {α : Type} {a : α} {ah : AH} : R.nox (.ok a ah) = .ok a ah := rfl
@[simp] theorem R.nox_bad {α : Type} : R.nox (.bad : R α) = .bad := rfl
@[simp] theorem R.bind_ok {α β : Type} {a : α} {ah : AH} {f : α → AH → R β} : R.bind (.ok a ah) f = f a ah := rfl
@[simp] theorem R.bind_exc {α β : Type} {e : Ex} {ah : AH} {f : α → AH → R β} : R.bind (.exc e ah) f = .exc e ah := rfl
@[simp] theorem R.bind_bad {α β : Type} {f : α → AH → R β} : R.bind .bad f = .bad := rfl

/-! ### the strict operations -/
inductive Ty where
  | str | int | bool | tuple | list
  deriving DecidableEq
inductive Prim where
  | add (m : Bool) | sub | mul | fdiv | mod | pow | neg
  | eq | ne | lt | le | gt | ge | isin | notin | isN | notN
  | idx
  | len | abs | int | str | tuple | list (m : Bool) | all | max2 | min2
  | isinst (t : Ty)
  | split (m : Bool) | join | find | upper
  | append
  deriving DecidableEq

/-- the items of a list or a tuple, as they stand -/
def seqOf (ah : AH) : D → Option (List D)
  | .tup xs => some xs
  | .lst xs => some xs
  | .loc n => match ah[n]? with
    | some (.lst xs) => some xs
    | _ => none
  | _ => none
/-- the items of a list -/
def lstOf (ah : AH) : D → Option (List D)
  | .lst xs => some xs
  | .loc n => match ah[n]? with
    | some (.lst xs) => some xs
    | _ => none
  | _ => none
/-- a new list -/
def mkL (m : Bool) (xs : List D) (ah : AH) : R D := if m = true then .ok (.loc ah.length) (ah ++ [.lst xs]) else .ok (.lst xs) ah
abbrev okB (b : Bool) (ah : AH) : R D := .ok (.bl b) ah
abbrev okI (i : Int) (ah : AH) : R D := .ok (.int i) ah
/-- on what two data are, read only -/
def onData (f : D → D → D) (x y : D) (ah : AH) : R D := match rd ah x, rd ah y with
  | some d, some e => if d.isData = true ∧ e.isData = true ∧ d.depth ≤ 60 ∧ e.depth ≤ 60 then .ok (f d e) ah else .bad
  | _, _ => .bad
/-- a text of a number -/
def intL (i : Int) : List Nat := (Str.ofString (toString i)).cps.toList
def cutL (xs : List D) (lo hi : Option Int) : List D := (xs.drop (HT.sIx xs.length 0 lo)).take (HT.sIx xs.length xs.length hi - HT.sIx xs.length 0 lo)
def cutN (xs : List Nat) (lo hi : Option Int) : List Nat := (xs.drop (HT.sIx xs.length 0 lo)).take (HT.sIx xs.length xs.length hi - HT.sIx xs.length 0 lo)
def partOf : D → Option (Option Int)
  | .non => some none
  | .int i => some (some i)
  | _ => none
def atL {α : Type} (xs : List α) (i : Int) : Option α := (ixN xs.length i).bind fun j => xs[j]?
def pAdd (m : Bool) : D → D → AH → R D
  | .int i, .int j, ah => okI (i + j) ah
  | .str x, .str y, ah => if x.length + y.length ≤ SZ then .ok (.str (x ++ y)) ah else .bad
  | .tup x, .tup y, ah => if x.length + y.length ≤ SZ then .ok (.tup (x ++ y)) ah else .bad
  | a, b, ah => match lstOf ah a, lstOf ah b with
    | some x, some y => if x.length + y.length ≤ SZ then mkL m (x ++ y) ah else .bad
    | _, _ => .bad
def pIdx : D → D → AH → R D
  | .str x, .int i, ah => match atL x i with
    | some c => .ok (.str [c]) ah
    | none => .bad
  | a, .int i, ah => match seqOf ah a with
    | some xs => match atL xs i with
      | some d => .ok d ah
      | none => .bad
    | none => .bad
  | _, _, _ => .bad
def partK (d : D) (ah : AH) : R (Option Int) := match partOf d with
  | some o => .ok o ah
  | none => .bad
def pSlice (m : Bool) (l h : Option Int) (ah : AH) : D → R D
  | .str x => .ok (.str (cutN x l h)) ah
  | .tup xs => .ok (.tup (cutL xs l h)) ah
  | .scr ns => mkL m (cutL (ns.map D.int) l h) ah
  | a => match lstOf ah a with
    | some xs => mkL m (cutL xs l h) ah
    | none => .bad
def pLen : D → AH → R D
  | .str x, ah => okI x.length ah
  | a, ah => match seqOf ah a with
    | some xs => okI xs.length ah
    | none => .bad
/-- the kind of a value -/
def tyOf (ah : AH) : D → Option Ty
  | .bl _ => some .bool
  | .int _ => some .int
  | .str _ => some .str
  | .tup _ => some .tuple
  | .lst _ => some .list
  | .loc n => match ah[n]? with
    | some (.lst _) => some .list
    | _ => none
  | _ => none
def isTy (t : Ty) : D → AH → R D
  | .non, ah => okB false ah
  | d, ah => match tyOf ah d with
    | some .bool => okB (decide (t = .bool) || decide (t = .int)) ah
    | some k => okB (decide (t = k)) ah
    | none => .bad
def strsOf : List D → Option (List (List Nat))
  | [] => some []
  | .str x :: r => match strsOf r with
    | some l => some (x :: l)
    | none => none
  | _ :: _ => none
def blsOf : List D → Option (List Bool)
  | [] => some []
  | .bl b :: r => match blsOf r with
    | some l => some (b :: l)
    | none => none
  | _ :: _ => none
def pJoin : D → D → AH → R D
  | .str s, d, ah => match seqOf ah d with
    | some xs => match strsOf xs with
      | some l => if (l.map List.length).sum + l.length * s.length ≤ SZ then .ok (.str (TL.joinL s l)) ah else .bad
      | none => .bad
    | none => .bad
  | _, _, _ => .bad
def pSplit (m : Bool) : D → D → AH → R D
  | .str x, .str [c], ah => if x.length + 2 ≤ SZ ∧ c < 256 then mkL m ((TL.spl [c] 0 [] x).map D.str) ah else .bad
  | _, _, _ => .bad
def pIsin (neg : Bool) : D → D → AH → R D
  | .str [c], .str z, ah => okB (neg != decide (c ∈ z)) ah
  | x, y, ah => match rd ah x, rd ah y with
    | some d, some (.lst es) => if d.isData = true ∧ D.areData es = true ∧ d.depth ≤ 60 ∧ D.depths es ≤ 60 then okB (neg != es.any fun z => D.eqv z d) ah else .bad
    | some d, some (.tup es) => if d.isData = true ∧ D.areData es = true ∧ d.depth ≤ 60 ∧ D.depths es ≤ 60 then okB (neg != es.any fun z => D.eqv z d) ah else .bad
    | _, _ => .bad
def truth (ah : AH) : D → Option Bool
  | .non => some false
  | .bl b => some b
  | .int i => some (i != 0)
  | .str x => some (!x.isEmpty)
  | d => match seqOf ah d with
    | some xs => some (!xs.isEmpty)
    | none => none
def upperA (c : Nat) : Nat := if 97 ≤ c ∧ c ≤ 122 then c - 32 else c
def prim : Prim → List D → AH → R D
  | .add m, [a, b], ah => pAdd m a b ah
  | .sub, [.int i, .int j], ah => okI (i - j) ah
  | .mul, [.int i, .int j], ah => if (-(2 ^ 64) < i ∧ i < 2 ^ 64) ∨ (-(2 ^ 64) < j ∧ j < 2 ^ 64) then okI (i * j) ah else .bad
  | .fdiv, [.int i, .int j], ah => if 0 < j ∧ j < 1073741824 then okI (i / j) ah else .bad
  | .mod, [.int i, .int j], ah => if 0 < j then okI (i % j) ah else .bad
  | .pow, [.int i, .int j], ah => if 0 ≤ j ∧ j ≤ 1000000 ∧ i.natAbs < 2 ^ 64 then okI (i ^ j.toNat) ah else .bad
  | .neg, [.int i], ah => okI (-i) ah
  | .eq, [a, b], ah => onData (fun d e => .bl (D.eqv d e)) a b ah
  | .ne, [a, b], ah => onData (fun d e => .bl (!D.eqv d e)) a b ah
  | .lt, [.int i, .int j], ah => okB (decide (i < j)) ah
  | .le, [.int i, .int j], ah => okB (decide (i ≤ j)) ah
  | .gt, [.int i, .int j], ah => okB (decide (j < i)) ah
  | .ge, [.int i, .int j], ah => okB (decide (j ≤ i)) ah
  | .isin, [a, b], ah => pIsin false a b ah
  | .notin, [a, b], ah => pIsin true a b ah
  | .isN, [.non], ah => okB true ah
  | .isN, [_], ah => okB false ah
  | .notN, [.non], ah => okB false ah
  | .notN, [_], ah => okB true ah
  | .idx, [a, b], ah => pIdx a b ah
  | .len, [a], ah => pLen a ah
  | .abs, [.int i], ah => okI (if i < 0 then -i else i) ah
  | .int, [.int i], ah => okI i ah
  | .int, [.bl b], ah => okI (if b then 1 else 0) ah
  | .int, [.str [c]], ah => if 48 ≤ c ∧ c ≤ 57 then okI ((c : Int) - 48) ah else .bad
  | .str, [.int i], ah => if i.natAbs < 2 ^ 64 then .ok (.str (intL i)) ah else .bad
  | .str, [.str x], ah => .ok (.str x) ah
  | .tuple, [a], ah => match seqOf ah a with
    | some xs => .ok (.tup xs) ah
    | none => .bad
  | .list m, [a], ah => match seqOf ah a with
    | some xs => mkL m xs ah
    | none => .bad
  | .all, [a], ah => match lstOf ah a with
    | some xs => match blsOf xs with
      | some l => okB (l.all id) ah
      | none => .bad
    | none => .bad
  | .max2, [.int i, .int j], ah => okI (if j > i then j else i) ah
  | .min2, [.int i, .int j], ah => okI (if j < i then j else i) ah
  | .isinst t, [a], ah => isTy t a ah
  | .split m, [a, b], ah => pSplit m a b ah
  | .join, [a, b], ah => pJoin a b ah
  | .find, [.str x, .str [c]], ah => okI (match x.findIdx? (· == c) with
    | some i => (i : Int)
    | none => -1) ah
  | .upper, [.str x], ah => if x.length ≤ 5592405 ∧ x.all (fun c => decide (c < 128)) = true then .ok (.str (x.map upperA)) ah else .bad
  | .append, [.loc n, d], ah => match ah[n]? with
    | some (.lst xs) => if xs.length < SZ then .ok .non (ah.set n (.lst (xs ++ [d]))) else .bad
    | _ => .bad
  | _, _, _ => .bad

/-- the kinds of receivers -/
inductive MT where
  | str | list | dict
  deriving DecidableEq
def isMT (ah : AH) : MT → D → Bool
  | .str, .str _ => true
  | .list, .lst _ => true
  | .list, .loc n => match ah[n]? with
    | some (.lst _) => true
    | _ => false
  | .dict, .dct _ _ => true
  | .dict, .loc n => match ah[n]? with
    | some (.dct _ _) => true
    | _ => false
  | _, _ => false
/-! ### the core language -/
mutual
inductive Tg where
  | name (i : Nat) | tup (ts : Tgs)
inductive Tgs where
  | nil | cons (t : Tg) (ts : Tgs)
end
mutual
inductive CE where
  | var (i : Nat) | con (d : D) | glob (g : Nat)
  | op (p : Prim) (es : CEs)
  | call (f : Nat) (es : CEs)
  | slice (m : Bool) (a lo hi : CE)
  | meth (t : MT) (p : Prim) (o : CE) (es : CEs)
  | tup (es : CEs) | lst (m : Bool) (es : CEs)
  | not (e : CE) | and (a b : CE) | or (a b : CE)
  | chain (p q : Prim) (a b c : CE)
  | ite (c a b : CE)
  | comp (m : Bool) (tg : Tg) (it : CI) (cond : CEs) (elt : CE) (own : List Nat)
  | exf (f : Str)
inductive CEs where
  | nil | cons (e : CE) (es : CEs)
inductive CI where
  | seq (e : CE) | enum (e : CE) | zip (a b : CE) | range1 (a : CE) | range2 (a b : CE)
end
mutual
inductive CS where
  | ex (e : CE) | ret (e : CE) | asg (tg : Tg) (e : CE)
  | setI (o i e : CE)
  | ite (c : CE) (a b : CSs)
  | forS (tg : Tg) (it : CI) (b : CSs)
  | whileS (c : CE) (b : CSs)
  | raise (c : Nat) (es : CEs)
  | tryS (b : CSs) (h : CH)
  | pass
inductive CSs where
  | nil | cons (s : CS) (ss : CSs)
/-- except clauses: the classes, the name's slot, the suite -/
inductive CH where
  | nil | cons (cs : List Nat) (slot : Option Nat) (b : CSs) (h : CH)
end

/-! ### targets, loops -/
mutual
def assign : Tg → D → Env1 → Option Env1
  | .name i, d, env => some (env.set i (some d))
  | .tup ts, .tup ds, env => assigns ts ds env
  | .tup _, _, _ => none
def assigns : Tgs → List D → Env1 → Option Env1
  | .nil, [], env => some env
  | .cons t ts, d :: ds, env => match assign t d env with
    | some env1 => assigns ts ds env1
    | none => none
  | _, _, _ => none
end
/-- a walked list of ours that must stand still -/
abbrev Gd := Option (Nat × List D)
def gdOk : Gd → AH → Bool
  | none, _ => true
  | some (n, xs), ah => match ah[n]? with
    | some (.lst ys) => D.sames xs ys
    | _ => false
def wipeE (env : Env1) : List Nat → Env1
  | [] => env
  | v :: vs => (wipeE env vs).set v none
def compL (g : Gd) (tg : Tg) (cond : Env1 → AH → R Bool) (el : Env1 → AH → R D) (env : Env1) : List D → AH → R (List D)
  | [], ah => if gdOk g ah = true then .ok [] ah else .bad
  | d :: ds, ah => if gdOk g ah = true then match assign tg d env with
    | some env1 => (cond env1 ah).nox.bind fun b ah1 => if b = true then (el env1 ah1).nox.bind fun x ah2 => (compL g tg cond el env ds ah2).bind fun xs ah3 => .ok (x :: xs) ah3 else compL g tg cond el env ds ah1
    | none => .bad
    else .bad
inductive RS where
  | nx (env : Env1) (ah : AH) | ret (d : D) (ah : AH) | exc (e : Ex) (env : Env1) (ah : AH) | bad
def R.rs {α : Type} (r : R α) (env : Env1) (f : α → AH → RS) : RS := match r with
  | .ok a ah => f a ah
  | .exc e ah => .exc e env ah
  | .bad => .bad
@[simp] theorem R.rs_ok {α : Type} {a : α} {ah : AH} {env : Env1} {f : α → AH → RS} : R.rs (.ok a ah) env f = f a ah := rfl
@[simp] theorem R.rs_exc {α : Type} {e : Ex} {ah : AH} {env : Env1} {f : α → AH → RS} : R.rs (.exc e ah) env f = .exc e env ah := rfl
@[simp] theorem R.rs_bad {α : Type} {env : Env1} {f : α → AH → RS} : R.rs .bad env f = .bad := rfl
def RS.then (r : RS) (f : Env1 → AH → RS) : RS := match r with
  | .nx env ah => f env ah
  | r => r
@[simp] theorem RS.then_nx {env : Env1} {ah : AH} {f : Env1 → AH → RS} : RS.then (.nx env ah) f = f env ah := rfl
@[simp] theorem RS.then_ret {d : D} {ah : AH} {f : Env1 → AH → RS} : RS.then (.ret d ah) f = .ret d ah := rfl
@[simp] theorem RS.then_exc {e : Ex} {env : Env1} {ah : AH} {f : Env1 → AH → RS} : RS.then (.exc e env ah) f = .exc e env ah := rfl
@[simp] theorem RS.then_bad {f : Env1 → AH → RS} : RS.then .bad f = .bad := rfl
def forL (g : Gd) (tg : Tg) (body : Env1 → AH → RS) : List D → Env1 → AH → RS
  | [], env, ah => if gdOk g ah = true then .nx env ah else .bad
  | d :: ds, env, ah => if gdOk g ah = true then match assign tg d env with
    | some env1 => (body env1 ah).then fun env2 ah2 => forL g tg body ds env2 ah2
    | none => .bad
    else .bad
def whileL (c : Env1 → AH → R Bool) (body : Env1 → AH → RS) : Nat → Env1 → AH → RS
  | 0, _, _ => .bad
  | n + 1, env, ah => (c env ah).rs env fun b ah1 => if b = true then (body env ah1).then fun env2 ah2 => whileL c body n env2 ah2 else .nx env ah1
def toB (r : R D) : R Bool := r.bind fun d ah => match truth ah d with
  | some b => .ok b ah
  | none => .bad
/-- lo, lo + 1, .. -/
def rangeD (lo : Int) (n : Nat) : List D := (List.range n).map fun (i : Nat) => D.int (lo + (i : Int))
def enumD (xs : List D) : List D := (List.range xs.length).zipWith (fun (i : Nat) x => D.tup [.int (i : Int), x]) xs
def zipD (xs ys : List D) : List D := xs.zipWith (fun x y => D.tup [x, y]) ys

def notK (d : D) (ah : AH) : R D := match truth ah d with
  | some b => .ok (.bl (!b)) ah
  | none => .bad
def andK (f : AH → R D) : D → AH → R D
  | .bl true, ah => f ah
  | .bl false, ah => .ok (.bl false) ah
  | _, _ => .bad
def orK (f : AH → R D) : D → AH → R D
  | .bl true, ah => .ok (.bl true) ah
  | .bl false, ah => f ah
  | _, _ => .bad
/-! ### the evaluator -/
structure Cfg where
  cf : Nat → List D → AH → R D
  gl : Nat → D
  /-- an exception's fields by class -/
  xf : Nat → List Str
  /-- what its arguments may be -/
  xo : Nat → List D → Bool
  /-- so many errors are known -/
  nx : Nat
  wf : Nat
mutual
def evE (G : Cfg) (cx : Option Ex) : CE → Env1 → AH → R D
  | .var i, env, ah => match env[i]? with
    | some (some d) => .ok d ah
    | _ => .bad
  | .con d, _, ah => .ok d ah
  | .glob g, _, ah => .ok (G.gl g) ah
  | .op p es, env, ah => (evEs G cx es env ah).bind fun ds ah1 => (prim p ds ah1).nox
  | .call f es, env, ah => (evEs G cx es env ah).bind fun ds ah1 => G.cf f ds ah1
  | .slice m a lo hi, env, ah => (evE G cx a env ah).bind fun d ah1 => ((evE G cx lo env ah1).bind partK).bind fun l ah2 => ((evE G cx hi env ah2).bind partK).bind fun h ah3 => (pSlice m l h ah3 d).nox
  | .meth t p o es, env, ah => (evE G cx o env ah).bind fun d ah1 => if isMT ah1 t d = true then (evEs G cx es env ah1).bind fun ds ah2 => (prim p (d :: ds) ah2).nox else .bad
  | .tup es, env, ah => (evEs G cx es env ah).bind fun ds ah1 => if ds.length ≤ SZ then .ok (.tup ds) ah1 else .bad
  | .lst m es, env, ah => (evEs G cx es env ah).bind fun ds ah1 => if ds.length ≤ SZ then mkL m ds ah1 else .bad
  | .not e, env, ah => (evE G cx e env ah).bind notK
  | .and a b, env, ah => (evE G cx a env ah).bind fun d ah1 => andK (fun ah2 => evE G cx b env ah2) d ah1
  | .or a b, env, ah => (evE G cx a env ah).bind fun d ah1 => orK (fun ah2 => evE G cx b env ah2) d ah1
  | .chain p q a b c, env, ah => (evE G cx a env ah).bind fun x ah1 => (evE G cx b env ah1).bind fun y ah2 => (prim p [x, y] ah2).nox.bind fun z ah3 =>
    andK (fun ah4 => (evE G cx c env ah4).bind fun w ah5 => (prim q [y, w] ah5).nox) z ah3
  | .ite c a b, env, ah => (toB (evE G cx c env ah)).bind fun t ah1 => if t = true then evE G cx a env ah1 else evE G cx b env ah1
  | .comp m tg it cond elt own, env, ah => (evI G cx it env ah).bind fun p ah1 =>
    (compL p.2 tg (fun e a => evC G cx cond e a) (fun e a => evE G cx elt e a) (wipeE env own) p.1 ah1).bind fun xs ah2 => mkL m xs ah2
  | .exf f, _, ah => match cx with
    | some e => match (e.ns.zip e.xs).lookup f with
      | some d => .ok d ah
      | none => .bad
    | none => .bad
def evEs (G : Cfg) (cx : Option Ex) : CEs → Env1 → AH → R (List D)
  | .nil, _, ah => .ok [] ah
  | .cons e es, env, ah => (evE G cx e env ah).bind fun d ah1 => (evEs G cx es env ah1).bind fun ds ah2 => .ok (d :: ds) ah2
/-- a comprehension's tests (one at most) -/
def evC (G : Cfg) (cx : Option Ex) : CEs → Env1 → AH → R Bool
  | .nil, _, ah => .ok true ah
  | .cons e .nil, env, ah => toB (evE G cx e env ah)
  | .cons _ (.cons _ _), _, _ => .bad
def evI (G : Cfg) (cx : Option Ex) : CI → Env1 → AH → R (List D × Gd)
  | .seq e, env, ah => (evE G cx e env ah).bind fun d ah1 => match d with
    | .str x => .ok (x.map (fun c => D.str [c]), none) ah1
    | .tup xs => .ok (xs, none) ah1
    | .lst xs => .ok (xs, none) ah1
    | .loc n => match ah1[n]? with
      | some (.lst xs) => .ok (xs, some (n, xs)) ah1
      | _ => .bad
    | _ => .bad
  | .enum e, env, ah => (evE G cx e env ah).bind fun d ah1 => match d with
    | .lst xs => .ok (enumD xs, none) ah1
    | .loc n => match ah1[n]? with
      | some (.lst xs) => .ok (enumD xs, some (n, xs)) ah1
      | _ => .bad
    | _ => .bad
  | .zip a b, env, ah => (evE G cx a env ah).bind fun x ah1 => (evE G cx b env ah1).bind fun y ah2 => match x, y with
    | .tup xs, .tup ys => .ok (zipD xs ys, none) ah2
    | .lst xs, .lst ys => .ok (zipD xs ys, none) ah2
    | _, _ => .bad
  | .range1 a, env, ah => (evE G cx a env ah).bind fun x ah1 => match x with
    | .int n => if n ≤ (SZ : Int) ∧ -(SZ : Int) ≤ n then .ok (rangeD 0 n.toNat, none) ah1 else .bad
    | _ => .bad
  | .range2 a b, env, ah => (evE G cx a env ah).bind fun x ah1 => (evE G cx b env ah1).bind fun y ah2 => match x, y with
    | .int i, .int n => if n ≤ (SZ : Int) ∧ -(SZ : Int) ≤ n ∧ -(SZ : Int) ≤ i ∧ i ≤ SZ ∧ n - i ≤ SZ then .ok (rangeD i (n - i).toNat, none) ah2 else .bad
    | _, _ => .bad
end
mutual
def evS (G : Cfg) (cx : Option Ex) : CS → Env1 → AH → RS
  | .ex e, env, ah => (evE G cx e env ah).rs env fun _ ah1 => .nx env ah1
  | .ret e, env, ah => (evE G cx e env ah).rs env fun d ah1 => .ret d ah1
  | .asg tg e, env, ah => (evE G cx e env ah).rs env fun d ah1 => match assign tg d env with
    | some env1 => .nx env1 ah1
    | none => .bad
  | .setI o i e, env, ah => (evE G cx e env ah).rs env fun d ah1 => (evE G cx o env ah1).rs env fun x ah2 => (evE G cx i env ah2).rs env fun y ah3 => match x, y with
    | .loc n, .int k => match ah3[n]? with
      | some (.lst xs) => match ixN xs.length k with
        | some j => .nx env (ah3.set n (.lst (xs.set j d)))
        | none => .bad
      | _ => .bad
    | _, _ => .bad
  | .ite c a b, env, ah => (toB (evE G cx c env ah)).rs env fun t ah1 => if t = true then evSs G cx a env ah1 else evSs G cx b env ah1
  | .forS tg it b, env, ah => (evI G cx it env ah).rs env fun p ah1 => forL p.2 tg (fun e a => evSs G cx b e a) p.1 env ah1
  | .whileS c b, env, ah => whileL (fun e a => toB (evE G cx c e a)) (fun e a => evSs G cx b e a) G.wf env ah
  | .raise c es, env, ah => (evEs G cx es env ah).rs env fun ds ah1 => if ds.length = (G.xf c).length ∧ G.xo c ds = true then .exc ⟨c, G.xf c, ds.reverse⟩ env ah1 else .bad
  | .tryS b h, env, ah => match evSs G cx b env ah with
    | .exc e env1 ah1 => evH G h e env1 ah1
    | r => r
  | .pass, env, ah => .nx env ah
def evSs (G : Cfg) (cx : Option Ex) : CSs → Env1 → AH → RS
  | .nil, env, ah => .nx env ah
  | .cons s ss, env, ah => (evS G cx s env ah).then fun env1 ah1 => evSs G cx ss env1 ah1
def evH (G : Cfg) : CH → Ex → Env1 → AH → RS
  | .nil, e, env, ah => .exc e env ah
  | .cons cs slot b h, e, env, ah => if e.c < G.nx ∧ e.ns = G.xf e.c then (if e.c ∈ cs then (match slot with
      | some i => match evSs G (some e) b (env.set i none) ah with
        | .nx env1 ah1 => .nx (env1.set i none) ah1
        | .ret d ah1 => .ret d ah1
        | _ => .bad
      | none => match evSs G none b env ah with
        | .exc _ _ _ => .bad
        | r => r)
    else evH G h e env ah) else .bad
end

/-! ### calls -/
inductive Mode where
  | pure | keep | cut
  deriving DecidableEq
structure FnDef where
  slots : Nat
  par : Nat
  mode : Mode
  body : CSs
def startE (n : Nat) (ds : List D) : Env1 := ds.map some ++ List.replicate (n - ds.length) none
/-- what a pure def hands back: f whether lists may be within -/
def outD (f : Bool) (ah1 : AH) (d : D) : Option D := match rd ah1 d with
  | some e => if f = true ∨ e.flat = true then some e else none
  | none => none
def outDs (f : Bool) (ah1 : AH) (ds : List D) : Option (List D) := match rds ah1 ds with
  | some es => if f = true ∨ D.flats es = true then some es else none
  | none => none
def finP (f : Bool) (ah : AH) : RS → R D
  | .ret d ah1 => match outD f ah1 d with
    | some e => .ok e ah
    | none => .bad
  | .nx _ _ => .ok .non ah
  | .exc e _ ah1 => match outDs f ah1 e.xs with
    | some xs => .exc ⟨e.c, e.ns, xs⟩ ah
    | none => .bad
  | .bad => .bad
def finK : RS → R D
  | .ret d ah1 => .ok d ah1
  | .nx _ ah1 => .ok .non ah1
  | .exc e _ ah1 => .exc e ah1
  | .bad => .bad
/-- our cells alone, closed -/
def cutA (n : Nat) (ah1 : AH) : Option AH := if (ah1.take n).all (Cell.undr n) = true ∧ n ≤ ah1.length then some (ah1.take n) else none
def finC (n : Nat) : RS → R D
  | .ret d ah1 => match d.frz (deepG ah1 n 6), cutA n ah1 with
    | some e, some ah2 => .ok e ah2
    | _, _ => .bad
  | .nx _ ah1 => match cutA n ah1 with
    | some ah2 => .ok .non ah2
    | none => .bad
  | .exc e _ ah1 => match D.frzs (deepG ah1 n 6) e.xs, cutA n ah1 with
    | some xs, some ah2 => .exc ⟨e.c, e.ns, xs⟩ ah2
    | _, _ => .bad
  | .bad => .bad
def runF (G : Cfg) (fd : FnDef) (ds : List D) (ah : AH) : R D := match fd.mode with
  | .pure => match rds ah ds with
    | some es => finP (D.noLocs ds) ah (evSs G none fd.body (startE fd.slots es) [])
    | none => .bad
  | .keep => finK (evSs G none fd.body (startE fd.slots ds) ah)
  | .cut => finC ah.length (evSs G none fd.body (startE fd.slots ds) ah)
structure Prog1 where
  fns : Nat → Option FnDef
  gl : Nat → D
  xf : Nat → List Str
  xo : Nat → List D → Bool
  nx : Nat
  wf : Nat
def callF (P : Prog1) : Nat → Nat → List D → AH → R D
  | 0, _, _, _ => .bad
  | k + 1, f, ds, ah => match P.fns f with
    | some fd => if ds.length = fd.par then runF ⟨callF P k, P.gl, P.xf, P.xo, P.nx, P.wf⟩ fd ds ah else .bad
    | none => .bad
def cfgK (P : Prog1) (k : Nat) : Cfg := ⟨callF P k, P.gl, P.xf, P.xo, P.nx, P.wf⟩
end M
end

section
set_option Elab.async false
set_option linter.all false
set_option maxRecDepth 100000
set_option maxHeartbeats 4000000
/-! The machine, 3: outcomes, new objects, the strict operations by values. -/
namespace M
open PySem PySem.Spec PyProof.Rows L2

section
variable {K : PySem.W.Frag} {ca : CA} {F rho F' rho' : List Addr} {H H' : Hp} {ah ah' : AH}

/-! ### a new object, a changed one -/
theorem HR.nF (R : HR K ca F rho ah H) {p : Addr} (hp : H p = none) : p ∉ F := fun z => by
  have m := R.mu p z
  rw [hp] at m
  exact m
theorem HR.nrho (R : HR K ca F rho ah H) {p : Addr} (hp : H p = none) : p ∉ rho := fun z => R.nF hp (R.sub p z)
theorem ext_new (R : HR K ca F rho ah H) {p : Addr} {o : HO} (hp : H p = none) : Ext F rho H F rho (upd H p o) :=
  ⟨⟨[], by simp⟩, fun _ h => h, fun a h n => absurd h n, fun a h n => absurd h n, fun a u h _ => by rw [upd_ne (ne_of_none h hp)]; exact h⟩
theorem CellAt.keep {o : Option HO} {c : Cell} (sub : ∀ a ∈ rho, a ∈ F) (mu : ∀ a ∈ F, Mut (H a)) (e : Ext F rho H F' rho' H') (h : CellAt K ca F rho H o c) : CellAt K ca F' rho' H' o c := by
  cases c with
  | lst ds => obtain ⟨hz, vs, h1, h2⟩ := h; exact ⟨hz, vs, h1, RelDs.keep sub mu e _ _ h2⟩
  | dct ks ds => obtain ⟨vs, h1, h2⟩ := h; exact ⟨vs, h1, RelDs.keep sub mu e _ _ h2⟩
  | ins c ns ds => obtain ⟨dx, vs, h1, h2, h3⟩ := h; exact ⟨dx, vs, h1, h2, RelDs.keep sub mu e _ _ h3⟩
  | gone => trivial
/-- an untracked place is laid -/
theorem HR.new (R : HR K ca F rho ah H) {p : Addr} {o : HO} (hp : H p = none) : HR K ca F rho ah (upd H p o) := by
  have e := ext_new (o := o) R hp
  refine ⟨R.sub, R.nd, R.len, fun a h => ?_, fun i c a hc ha => ?_⟩
  · rw [upd_ne (fun z => R.nF hp (by rw [← z]; exact h))]
    exact R.mu a h
  · have ha' : a ∈ rho := List.mem_of_getElem? ha
    rw [upd_ne (fun z => R.nrho hp (by rw [← z]; exact ha'))]
    exact (R.cells i c a hc ha).keep R.sub R.mu e
/-- a new cell -/
theorem HR.cell (R : HR K ca F rho ah H) {p : Addr} {o : HO} {c : Cell} (hp : H p = none) (hm : Mut (some o)) (hc : CellAt K ca (p :: F) (rho ++ [p]) (upd H p o) (some o) c) :
    HR K ca (p :: F) (rho ++ [p]) (ah ++ [c]) (upd H p o) ∧ Ext F rho H (p :: F) (rho ++ [p]) (upd H p o) := by
  have e : Ext F rho H (p :: F) (rho ++ [p]) (upd H p o) := by
    refine ⟨⟨[p], rfl⟩, fun a h => List.mem_cons_of_mem _ h, fun a h n => ?_, fun a h n => ?_, fun a u h _ => by rw [upd_ne (ne_of_none h hp)]; exact h⟩
    · rcases List.mem_cons.mp h with z | z
      · rw [z]; exact hp
      · exact absurd z n
    · rcases List.mem_append.mp h with z | z
      · exact absurd z n
      · rw [List.mem_singleton.mp z]; exact hp
  refine ⟨⟨fun a h => ?_, ?_, by rw [List.length_append, List.length_append, R.len]; rfl, fun a h => ?_, fun i d a hd ha => ?_⟩, e⟩
  · rcases List.mem_append.mp h with z | z
    · exact List.mem_cons_of_mem _ (R.sub a z)
    · rw [List.mem_singleton.mp z]; exact List.mem_cons_self
  · rw [List.nodup_append]
    refine ⟨R.nd, by simp, fun a h b hb z => ?_⟩
    rw [List.mem_singleton.mp hb] at z
    exact R.nrho hp (by rw [← z]; exact h)
  · rcases List.mem_cons.mp h with z | z
    · rw [z, upd_same]; exact hm
    · rw [upd_ne (fun q => R.nF hp (by rw [← q]; exact z))]; exact R.mu a z
  · by_cases hi : i < ah.length
    · rw [List.getElem?_append_left hi] at hd
      rw [List.getElem?_append_left (by rw [R.len]; exact hi)] at ha
      have ha' : a ∈ rho := List.mem_of_getElem? ha
      rw [upd_ne (fun z => R.nrho hp (by rw [← z]; exact ha'))]
      exact (R.cells i d a hd ha).keep R.sub R.mu e
    · have hl : i < (ah ++ [c]).length := (List.getElem?_eq_some_iff.mp hd).1
      rw [List.length_append, List.length_singleton] at hl
      have ei : i = ah.length := by omega
      subst ei
      rw [List.getElem?_append_right (Nat.le_refl _), Nat.sub_self] at hd
      rw [List.getElem?_append_right (by rw [R.len]; exact Nat.le_refl _), R.len, Nat.sub_self] at ha
      simp at hd ha
      subst hd ha
      rw [upd_same]
      exact hc
/-- a cell is changed -/
theorem HR.write (R : HR K ca F rho ah H) {n : Nat} {a : Addr} {o : HO} {c : Cell} (ha : rho[n]? = some a) (hm : Mut (some o)) (hc : CellAt K ca F rho (upd H a o) (some o) c) :
    HR K ca F rho (ah.set n c) (upd H a o) ∧ Ext F rho H F rho (upd H a o) := by
  have hr : a ∈ rho := List.mem_of_getElem? ha
  have e : Ext F rho H F rho (upd H a o) := ⟨⟨[], by simp⟩, fun _ h => h, fun a h n => absurd h n, fun a h n => absurd h n, fun b u h n => by rw [upd_ne (fun z => n (by rw [z]; exact hr))]; exact h⟩
  refine ⟨⟨R.sub, R.nd, by rw [List.length_set]; exact R.len, fun b h => ?_, fun i d b hd hb => ?_⟩, e⟩
  · by_cases z : b = a
    · rw [z, upd_same]; exact hm
    · rw [upd_ne z]; exact R.mu b h
  · have hn : n < ah.length := by rw [← R.len]; exact (List.getElem?_eq_some_iff.mp ha).1
    by_cases hi : i = n
    · subst hi
      rw [List.getElem?_set_self hn] at hd
      cases hd
      rw [ha] at hb
      cases hb
      rw [upd_same]
      exact hc
    · rw [List.getElem?_set_ne (Ne.symm hi)] at hd
      have ne : b ≠ a := fun z => by
        subst z
        obtain ⟨h1, e1⟩ := List.getElem?_eq_some_iff.mp ha
        obtain ⟨h2, e2⟩ := List.getElem?_eq_some_iff.mp hb
        exact hi ((List.getElem_inj R.nd).mp (e2.trans e1.symm))
      rw [upd_ne ne]
      exact (R.cells i d b hd hb).keep R.sub R.mu e

/-! ### what is asked of an operation's outcome -/
def OutV (K : PySem.W.Frag) (ca : CA) (F rho : List Addr) (H : Hp) (Q : VK) : R D → Prop
  | .ok d ah' => ∀ F' rho' H' v, Ext F rho H F' rho' H' → HR K ca F' rho' ah' H' → RelD K ca F' rho' H' d v → Q v H'
  | _ => False
variable {Q : VK} {d : D} {v : V}
theorem OutV.same (h : OutV K ca F rho H Q (.ok d ah)) (R : HR K ca F rho ah H) (r : RelD K ca F rho H d v) : Q v H := h _ _ _ _ (Ext.refl _ _ _) R r
theorem OutV.tup {ds : List D} {vs : List V} (h : OutV K ca F rho H Q (.ok (.tup ds) ah)) (R : HR K ca F rho ah H) (r : RelDs K ca F rho H ds vs) (hz : ds.length ≤ sizeLine) : ∀ p, H p = none → Q (.ref p) (upd H p (.tup vs)) := fun p hp => by
  have e := ext_new (o := .tup vs) R hp
  refine h _ _ _ _ e (R.new hp) ?_
  simp only [RelD]
  exact ⟨hz, p, vs, rfl, SqT.of upd_same, RelDs.keep R.sub R.mu e _ _ r⟩
theorem OutV.mkL {m : Bool} {ds : List D} {vs : List V} (h : OutV K ca F rho H Q (mkL m ds ah)) (R : HR K ca F rho ah H) (r : RelDs K ca F rho H ds vs) (hz : ds.length ≤ sizeLine) : ∀ p, H p = none → Q (.ref p) (upd H p (.lst vs)) := fun p hp => by
  unfold M.mkL at h
  cases m with
  | false =>
    have e := ext_new (o := .lst vs) R hp
    refine h _ _ _ _ e (R.new hp) ?_
    simp only [RelD]
    exact ⟨hz, p, vs, rfl, upd_same, R.nF hp, RelDs.keep R.sub R.mu e _ _ r⟩
  | true =>
    have e0 : Ext F rho H (p :: F) (rho ++ [p]) (upd H p (.lst vs)) := by
      refine ⟨⟨[p], rfl⟩, fun a h => List.mem_cons_of_mem _ h, fun a h n => ?_, fun a h n => ?_, fun a u h _ => by rw [upd_ne (ne_of_none h hp)]; exact h⟩
      · rcases List.mem_cons.mp h with z | z
        · rw [z]; exact hp
        · exact absurd z n
      · rcases List.mem_append.mp h with z | z
        · exact absurd z n
        · rw [List.mem_singleton.mp z]; exact hp
    obtain ⟨R', e⟩ := R.cell (o := .lst vs) (c := .lst ds) hp trivial ⟨hz, vs, rfl, RelDs.keep R.sub R.mu e0 _ _ r⟩
    refine h _ _ _ _ e R' ?_
    simp only [RelD]
    exact ⟨p, rfl, by rw [List.getElem?_append_right (by rw [R.len]; exact Nat.le_refl _), R.len, Nat.sub_self]; rfl⟩
/-- a list's items -/
theorem lst_items (R : HR K ca F rho ah H) {xs : List D} (e : lstOf ah d = some xs) (r : RelD K ca F rho H d v) : ∃ a vs, v = .ref a ∧ H a = some (.lst vs) ∧ RelDs K ca F rho H xs vs ∧ xs.length ≤ sizeLine := by
  cases d with
  | lst ys =>
    simp only [lstOf, Option.some.injEq] at e
    subst e
    simp only [RelD] at r
    obtain ⟨hz, a, vs, h1, h2, _, h3⟩ := r
    exact ⟨a, vs, h1, h2, h3, hz⟩
  | loc n =>
    simp only [RelD] at r
    obtain ⟨a, h1, h2⟩ := r
    simp only [lstOf] at e
    split at e
    · rename_i ys q
      cases e
      obtain ⟨hz, vs, h3, h4⟩ := R.cells n _ a q h2
      exact ⟨a, vs, h1, h3, h4, hz⟩
    · cases e
  | _ => simp [lstOf] at e
theorem seq_items (R : HR K ca F rho ah H) {xs : List D} (e : seqOf ah d = some xs) (r : RelD K ca F rho H d v) : ∃ a vs, v = .ref a ∧ (SqL K H a vs ∨ SqT K H a vs) ∧ RelDs K ca F rho H xs vs ∧ xs.length ≤ sizeLine := by
  cases d with
  | tup ys =>
    simp only [seqOf, Option.some.injEq] at e
    subst e
    simp only [RelD] at r
    obtain ⟨hz, a, vs, h1, h2, h3⟩ := r
    exact ⟨a, vs, h1, .inr h2, h3, hz⟩
  | lst ys =>
    obtain ⟨a, vs, h1, h2, h3, hz⟩ := lst_items (xs := xs) R (by simpa [lstOf, seqOf] using e) r
    exact ⟨a, vs, h1, .inl (SqL.of h2), h3, hz⟩
  | loc n =>
    obtain ⟨a, vs, h1, h2, h3, hz⟩ := lst_items (xs := xs) R (by simpa [lstOf, seqOf] using e) r
    exact ⟨a, vs, h1, .inl (SqL.of h2), h3, hz⟩
  | _ => simp [seqOf] at e

/-! ### data -/
mutual
def py : D → PyData
  | .bl b => .bool b
  | .int i => .int i
  | .str x => .str ⟨x.toArray⟩
  | .tup xs => .tuple (pys xs)
  | .lst xs => .list (pys xs)
  | _ => .none
def pys : List D → List PyData
  | [] => []
  | x :: xs => py x :: pys xs
end
mutual
theorem rel_dp : ∀ (d : D) (v : V), d.isData = true → RelD K ca F rho H d v → Dp K H v (py d)
  | .non, v, _, r => by simp only [RelD] at r; subst r; simp only [py]; exact .non
  | .bl b, v, _, r => by simp only [RelD] at r; subst r; simp only [py]; exact .bl b
  | .int i, v, _, r => by simp only [RelD] at r; subst r; simp only [py]; exact .int i
  | .str x, v, _, r => by simp only [RelD] at r; obtain ⟨_, r⟩ := r; subst r; simp only [py]; exact .str _
  | .tup xs, v, h, r => by
    simp only [RelD] at r
    simp only [D.isData] at h
    obtain ⟨_, a, vs, h1, h2, h3⟩ := r
    subst h1
    simp only [py]
    exact .tup h2 (rels_dp xs vs h h3)
  | .lst xs, v, h, r => by
    simp only [RelD] at r
    simp only [D.isData] at h
    obtain ⟨_, a, vs, h1, h2, _, h3⟩ := r
    subst h1
    simp only [py]
    exact .lst (SqL.of h2) (rels_dp xs vs h h3)
  | .ob _ _ _, v, h, _ => by simp [D.isData] at h
  | .dct _ _, v, h, _ => by simp [D.isData] at h
  | .loc _, v, h, _ => by simp [D.isData] at h
  | .scr _, v, h, _ => by simp [D.isData] at h
theorem rels_dp : ∀ (ds : List D) (vs : List V), D.areData ds = true → RelDs K ca F rho H ds vs → DpAll K H vs (pys ds)
  | [], vs, _, r => by simp only [RelDs] at r; subst r; simp only [pys]; exact .nil
  | x :: xs, vs, h, r => by
    simp only [RelDs] at r
    simp only [D.areData, Bool.and_eq_true] at h
    obtain ⟨u, t, h1, h2, h3⟩ := r
    subst h1
    simp only [pys]
    exact .cons (rel_dp x u h.1 h2) (rels_dp xs t h.2 h3)
end
mutual
theorem eqv_py : ∀ (d e : D), d.isData = true → e.isData = true → PyData.eqv (py d) (py e) = D.eqv d e
  | .non, e, _, he => by cases e <;> simp [D.isData] at he <;> simp [py, PyData.eqv, D.eqv]
  | .bl a, e, _, he => by cases e <;> simp [D.isData] at he <;> simp [py, PyData.eqv, D.eqv] <;> (rw [Bool.eq_iff_iff]; simp)
  | .int a, e, _, he => by cases e <;> simp [D.isData] at he <;> simp [py, PyData.eqv, D.eqv] <;> (rw [Bool.eq_iff_iff]; simp)
  | .str a, e, _, he => by cases e <;> simp [D.isData] at he <;> simp [py, PyData.eqv, D.eqv] <;> (rw [Bool.eq_iff_iff]; simp)
  | .tup xs, e, hd, he => by
    cases e <;> simp [D.isData] at he <;> simp only [py, PyData.eqv, D.eqv]
    exact eqvs_py _ _ (by simpa [D.isData] using hd) he
  | .lst xs, e, hd, he => by
    cases e <;> simp [D.isData] at he <;> simp only [py, PyData.eqv, D.eqv]
    exact eqvs_py _ _ (by simpa [D.isData] using hd) he
  | .ob _ _ _, _, hd, _ => by simp [D.isData] at hd
  | .dct _ _, _, hd, _ => by simp [D.isData] at hd
  | .loc _, _, hd, _ => by simp [D.isData] at hd
  | .scr _, _, hd, _ => by simp [D.isData] at hd
theorem eqvs_py : ∀ (d e : List D), D.areData d = true → D.areData e = true → PyData.eqvAll (pys d) (pys e) = D.eqvs d e
  | [], e, _, he => by cases e <;> simp [pys, PyData.eqvAll, D.eqvs]
  | x :: xs, [], _, _ => by simp [pys, PyData.eqvAll, D.eqvs]
  | x :: xs, y :: ys, hd, he => by
    simp only [D.areData, Bool.and_eq_true] at hd he
    simp only [pys, PyData.eqvAll, D.eqvs]
    rw [eqv_py x y hd.1 he.1, eqvs_py xs ys hd.2 he.2]
end
end
end M
end

section
set_option Elab.async false
set_option linter.all false
set_option maxRecDepth 100000
set_option maxHeartbeats 4000000
/-! The machine, 4: the strict operations by values. -/
namespace M
open PySem PySem.Spec PyProof.Rows L2

theorem SZ_eq : sizeLine = SZ := sizeLine_eq
/-- two operands -/
def r2 (K : PySem.W.Frag) (ca : CA) (g : D → D → AH → R D) : R2 := fun x y H Q =>
  ∃ F rho ah d e, HR K ca F rho ah H ∧ RelD K ca F rho H d x ∧ RelD K ca F rho H e y ∧ OutV K ca F rho H Q (g d e ah)
def r1 (K : PySem.W.Frag) (ca : CA) (g : D → AH → R D) : V → Hp → VK → Prop := fun x H Q =>
  ∃ F rho ah d, HR K ca F rho ah H ∧ RelD K ca F rho H d x ∧ OutV K ca F rho H Q (g d ah)
/-- arguments -/
def rN (K : PySem.W.Frag) (ca : CA) (g : List D → AH → R D) : List V → Hp → VK → Prop := fun vs H Q =>
  ∃ F rho ah ds, HR K ca F rho ah H ∧ RelDs K ca F rho H ds vs ∧ OutV K ca F rho H Q (g ds ah)
section
variable {K : PySem.W.Frag} {ca : CA} {F rho : List Addr} {H : Hp} {ah : AH} {Q : VK} {d e : D} {x y : V}
theorem rel_int {i : Int} (r : RelD K ca F rho H (.int i) x) : x = .int i := by simpa only [RelD] using r
theorem rel_bl {i : Bool} (r : RelD K ca F rho H (.bl i) x) : x = .bl i := by simpa only [RelD] using r
theorem rel_str {i : List Nat} (r : RelD K ca F rho H (.str i) x) : sOk i ∧ x = .str ⟨i.toArray⟩ := by simpa only [RelD] using r
theorem OutV.i {i : Int} (h : OutV K ca F rho H Q (okI i ah)) (R : HR K ca F rho ah H) : Q (.int i) H := OutV.same h R (by simp only [RelD])
theorem OutV.b {i : Bool} (h : OutV K ca F rho H Q (okB i ah)) (R : HR K ca F rho ah H) : Q (.bl i) H := OutV.same h R (by simp only [RelD])
theorem OutV.s {i : List Nat} (h : OutV K ca F rho H Q (.ok (.str i) ah)) (R : HR K ca F rho ah H) (hs : sOk i) : Q (.str ⟨i.toArray⟩) H := OutV.same h R (by simp only [RelD, and_true]; exact hs)
theorem OutV.bad {P : Prop} (h : OutV K ca F rho H Q (.bad)) : P := False.elim h
theorem sOk.app {a b : List Nat} (h : sOk a) (k : sOk b) (z : a.length + b.length ≤ SZ) : sOk (a ++ b) := ⟨by rw [SZ_eq, List.length_append]; exact z, fun c hc => (List.mem_append.mp hc).elim (h.2 c) (k.2 c)⟩
theorem sOk.sub {a b : List Nat} (h : sOk a) (s : b.length ≤ a.length) (m : ∀ c ∈ b, c ∈ a) : sOk b := ⟨Nat.le_trans s h.1, fun c hc => h.2 c (m c hc)⟩
theorem str_app (a b : List Nat) : ((⟨a.toArray⟩ : Str) ++ (⟨b.toArray⟩ : Str)) = ⟨(a ++ b).toArray⟩ := TL.ext_tl (by rw [TL.tl_append])
theorem str_len (a : List Nat) : (⟨a.toArray⟩ : Str).length = a.length := by simp [Str.length]
theorem rd_isData (R : HR K ca F rho ah H) {f : D} (e : rd ah d = some f) (r : RelD K ca F rho H d x) (hd : f.isData = true) : Dp K H x (py f) := rel_dp f x hd (rd_ok R e r)
mutual
theorem lay_py : ∀ (d : D) (v : V), d.isData = true → RelD K ca F rho H d v → (py d).canLay0 = true
  | .non, _, _, _ => by simp [py, PyData.canLay0]
  | .bl _, _, _, _ => by simp [py, PyData.canLay0]
  | .int _, _, _, _ => by simp [py, PyData.canLay0]
  | .str z, v, _, r => by
    obtain ⟨h, _⟩ := rel_str r
    simp only [py, PyData.canLay0, PyData.strOk]
    simpa using h.2
  | .tup xs, v, h, r => by
    simp only [RelD] at r
    simp only [D.isData] at h
    obtain ⟨_, a, vs, h1, h2, h3⟩ := r
    simp only [py, PyData.canLay0]
    exact lays_py xs vs h h3
  | .lst xs, v, h, r => by
    simp only [RelD] at r
    simp only [D.isData] at h
    obtain ⟨_, a, vs, h1, h2, _, h3⟩ := r
    simp only [py, PyData.canLay0]
    exact lays_py xs vs h h3
  | .ob _ _ _, v, h, _ => by simp [D.isData] at h
  | .dct _ _, v, h, _ => by simp [D.isData] at h
  | .loc _, v, h, _ => by simp [D.isData] at h
  | .scr _, v, h, _ => by simp [D.isData] at h
theorem lays_py : ∀ (d : List D) (v : List V), D.areData d = true → RelDs K ca F rho H d v → PyData.canLayAll0 (pys d) = true
  | [], _, _, _ => by simp [pys, PyData.canLayAll0]
  | a :: as, vs, h, r => by
    simp only [RelDs] at r
    simp only [D.areData, Bool.and_eq_true] at h
    obtain ⟨u, t, h1, h2, h3⟩ := r
    simp only [pys, PyData.canLayAll0, lay_py a u h.1 h2, lays_py as t h.2 h3, Bool.and_self]
end
mutual
theorem depth_py : ∀ d : D, d.isData = true → (py d).depth = d.depth
  | .non, _ => by simp [py, PyData.depth, D.depth]
  | .bl _, _ => by simp [py, PyData.depth, D.depth]
  | .int _, _ => by simp [py, PyData.depth, D.depth]
  | .str _, _ => by simp [py, PyData.depth, D.depth]
  | .tup xs, h => by simp only [D.isData] at h; simp only [py, PyData.depth, D.depth, depths_py xs h]
  | .lst xs, h => by simp only [D.isData] at h; simp only [py, PyData.depth, D.depth, depths_py xs h]
  | .ob _ _ _, h => by simp [D.isData] at h
  | .dct _ _, h => by simp [D.isData] at h
  | .loc _, h => by simp [D.isData] at h
  | .scr _, h => by simp [D.isData] at h
theorem depths_py : ∀ d : List D, D.areData d = true → PyData.depthAll (pys d) = D.depths d
  | [], _ => by simp [pys, PyData.depthAll, D.depths]
  | a :: as, h => by
    simp only [D.areData, Bool.and_eq_true] at h
    simp only [pys, PyData.depthAll, D.depths, depth_py a h.1, depths_py as h.2]
end
theorem shaped_py {v : V} (h : d.isData = true) (r : RelD K ca F rho H d v) (z : d.depth ≤ 60) : SeqAt.shaped (py d) = true := by
  show ((py d).canLay0 && decide ((py d).depth ≤ 64)) = true
  rw [lay_py d v h r, depth_py d h, decide_eq_true (by omega)]
  rfl
/-- an item by its place -/
theorem at_rel {xs : List D} {vs : List V} {i : Int} (r : RelDs K ca F rho H xs vs) (e : atL xs i = some d) : ∃ v, atI vs i = some v ∧ RelD K ca F rho H d v := by
  unfold atL at e
  unfold atI
  rw [← r.length]
  cases q : ixN xs.length i with
  | none => rw [q] at e; cases e
  | some j =>
    rw [q] at e
    exact r.get e
theorem cut_rel {xs : List D} {vs : List V} {lo hi : Option Int} (r : RelDs K ca F rho H xs vs) : RelDs K ca F rho H (cutL xs lo hi) (cutV vs lo hi) := by
  unfold cutL cutV
  rw [← r.length]
  exact (r.drop _).take _
theorem rels_ints : ∀ ns : List Int, RelDs K ca F rho H (ns.map D.int) (ns.map V.int)
  | [] => RelDs.nil
  | n :: r => by
    rw [List.map_cons, List.map_cons]
    exact RelDs.cons (by simp only [RelD]) (rels_ints r)
theorem strs_rel : ∀ {xs : List D} {vs : List V} {l : List (List Nat)}, strsOf xs = some l → RelDs K ca F rho H xs vs → vs = (l.map fun x => (⟨x.toArray⟩ : Str)).map V.str ∧ ∀ x ∈ l, sOk x
  | [], vs, l, e, r => by
    simp only [strsOf, Option.some.injEq] at e
    subst e
    simp only [RelDs] at r
    subst r
    exact ⟨rfl, fun x h => by cases h⟩
  | z :: zs, vs, l, e, r => by
    simp only [RelDs] at r
    obtain ⟨v, t, h1, h2, h3⟩ := r
    cases z <;> simp only [strsOf, reduceCtorEq] at e
    rename_i w
    split at e
    · rename_i m q
      simp only [Option.some.injEq] at e
      subst e h1
      obtain ⟨h4, h5⟩ := strs_rel q h3
      obtain ⟨h6, h7⟩ := rel_str h2
      subst h4 h7
      refine ⟨rfl, fun x hx => ?_⟩
      rcases List.mem_cons.mp hx with hx | hx
      · rw [hx]; exact h6
      · exact h5 x hx
    · cases e
theorem bls_rel : ∀ {xs : List D} {vs : List V} {l : List Bool}, blsOf xs = some l → RelDs K ca F rho H xs vs → vs = l.map V.bl
  | [], vs, l, e, r => by
    simp only [blsOf, Option.some.injEq] at e
    subst e
    simp only [RelDs] at r
    subst r
    rfl
  | z :: zs, vs, l, e, r => by
    simp only [RelDs] at r
    obtain ⟨v, t, h1, h2, h3⟩ := r
    cases z <;> simp only [blsOf, reduceCtorEq] at e
    rename_i w
    split at e
    · rename_i m q
      simp only [Option.some.injEq] at e
      subst e h1
      rw [bls_rel q h3, rel_bl h2]
      rfl
    · cases e
theorem strs_rels : ∀ {l : List (List Nat)}, (∀ x ∈ l, sOk x) → RelDs K ca F rho H (l.map D.str) ((l.map fun x => (⟨x.toArray⟩ : Str)).map V.str)
  | [], _ => RelDs.nil
  | x :: l, h => by
    rw [List.map_cons, List.map_cons, List.map_cons]
    exact RelDs.cons (by simp only [RelD, and_true]; exact h x List.mem_cons_self) (strs_rels fun y hy => h y (List.mem_cons_of_mem _ hy))
end

section
variable {X : Cx} {ca : CA}
theorem op_addD (m : Bool) : OpR X (binaryOp .Add) (r2 X.K ca (pAdd m)) := by
  intro pins s σ H x y v u Q I rx ry h
  obtain ⟨F, rho, ah, d, e, R, hx, hy, h⟩ := h
  have lists : ∀ (xs ys : List D), lstOf ah d = some xs → lstOf ah e = some ys → OutV X.K ca F rho H Q (if xs.length + ys.length ≤ SZ then mkL m (xs ++ ys) ah else .bad) → wpAny (model X.prog X.w) X.A (binaryOp .Add v u) (EP X pins σ Q) X.xe s := fun xs ys e1 e2 h => by
    obtain ⟨a, vs, rfl, h2, h3, _⟩ := lst_items R e1 hx
    obtain ⟨b, ws, rfl, g2, g3, _⟩ := lst_items R e2 hy
    split at h
    · rename_i z
      exact op_cat pins s σ H _ _ v u Q I rx ry ⟨a, b, vs, ws, rfl, rfl, h2, g2, by rw [← h3.length, ← g3.length, SZ_eq]; exact z, h.mkL R (h3.app g3) (by rw [List.length_append, SZ_eq]; exact z)⟩
    · exact h.bad
  unfold pAdd at h
  split at h
  · rename_i i j
    have e1 := rel_int hx
    have e2 := rel_int hy
    subst e1 e2
    exact op_add pins s σ H _ _ v u Q I rx ry ⟨i, j, rfl, rfl, h.i R⟩
  · rename_i i j
    obtain ⟨h1, rfl⟩ := rel_str hx
    obtain ⟨h2, rfl⟩ := rel_str hy
    split at h
    · rename_i z
      refine op_add_str pins s σ H _ _ v u Q I rx ry ⟨_, _, rfl, rfl, by rw [str_len, str_len, SZ_eq]; exact z, ?_⟩
      rw [str_app]
      exact h.s R (h1.app h2 z)
    · exact h.bad
  · rename_i i j
    simp only [RelD] at hx hy
    obtain ⟨_, a, vs, rfl, h2, h3⟩ := hx
    obtain ⟨_, b, ws, rfl, g2, g3⟩ := hy
    split at h
    · rename_i z
      refine op_catA pins s σ H _ _ v u Q I rx ry ⟨a, b, vs, ws, rfl, rfl, h2, g2, by rw [← h3.length, ← g3.length, SZ_eq]; exact z, fun q => ?_, fun _ q => ?_, fun _ _ => h.tup R (h3.app g3) (by rw [List.length_append, SZ_eq]; exact z)⟩
      · refine h.same R ?_
        simp only [RelD]
        have r := h3.app g3
        rw [q, List.nil_append] at r
        exact ⟨by rw [List.length_append, SZ_eq]; exact z, b, ws, rfl, g2, r⟩
      · refine h.same R ?_
        simp only [RelD]
        have r := h3.app g3
        rw [q, List.append_nil] at r
        exact ⟨by rw [List.length_append, SZ_eq]; exact z, a, vs, rfl, h2, r⟩
    · exact h.bad
  · split at h
    · rename_i xs ys e1 e2
      exact lists xs ys e1 e2 h
    · exact h.bad
/-- two ints -/
theorem op_ii {f : Value → Value → Sem Value} {p : Prim} {C : Int → Int → Prop} {g : Int → Int → V} (ho : OpR X f (rI C g))
    (hp : ∀ (d e : D) (F rho : List Addr) (H : Hp) (ah : AH) (Q : VK), HR X.K ca F rho ah H → OutV X.K ca F rho H Q (prim p [d, e] ah) → ∃ i j, d = .int i ∧ e = .int j ∧ C i j ∧ Q (g i j) H) : OpR X f (r2 X.K ca fun a b ah => prim p [a, b] ah) := by
  intro pins s σ H x y v u Q I rx ry h
  obtain ⟨F, rho, ah, d, e, R, hx, hy, h⟩ := h
  obtain ⟨i, j, rfl, rfl, hc, q⟩ := hp d e F rho H ah Q R h
  have e1 := rel_int hx
  have e2 := rel_int hy
  subst e1 e2
  exact ho pins s σ H _ _ v u Q I rx ry ⟨i, j, rfl, rfl, hc, q⟩
theorem op_ii0 {f : Value → Value → Sem Value} {p : Prim} {g : Int → Int → V} (ho : OpR X f (rI0 g))
    (hp : ∀ (d e : D) (F rho : List Addr) (H : Hp) (ah : AH) (Q : VK), HR X.K ca F rho ah H → OutV X.K ca F rho H Q (prim p [d, e] ah) → ∃ i j, d = .int i ∧ e = .int j ∧ Q (g i j) H) : OpR X f (r2 X.K ca fun a b ah => prim p [a, b] ah) := by
  intro pins s σ H x y v u Q I rx ry h
  obtain ⟨F, rho, ah, d, e, R, hx, hy, h⟩ := h
  obtain ⟨i, j, rfl, rfl, q⟩ := hp d e F rho H ah Q R h
  have e1 := rel_int hx
  have e2 := rel_int hy
  subst e1 e2
  exact ho pins s σ H _ _ v u Q I rx ry ⟨i, j, rfl, rfl, q⟩
theorem op_subD : OpR X (binaryOp .Sub) (r2 X.K ca fun a b ah => prim .sub [a, b] ah) := op_ii0 op_sub fun d e F rho H ah Q R h => by
  cases d <;> cases e <;> first | exact (show False from h).elim | skip
  exact ⟨_, _, rfl, rfl, OutV.i h R⟩
theorem op_mulD : OpR X (binaryOp .Mult) (r2 X.K ca fun a b ah => prim .mul [a, b] ah) := op_ii op_mul fun d e F rho H ah Q R h => by
  cases d <;> cases e <;> first | exact (show False from h).elim | skip
  simp only [prim] at h
  split at h
  · rename_i z; exact ⟨_, _, rfl, rfl, z, OutV.i h R⟩
  · exact h.bad
theorem op_fdivD : OpR X (binaryOp .FloorDiv) (r2 X.K ca fun a b ah => prim .fdiv [a, b] ah) := op_ii op_fdiv fun d e F rho H ah Q R h => by
  cases d <;> cases e <;> first | exact (show False from h).elim | skip
  simp only [prim] at h
  split at h
  · rename_i z; exact ⟨_, _, rfl, rfl, z, OutV.i h R⟩
  · exact h.bad
theorem op_modD : OpR X (binaryOp .Mod) (r2 X.K ca fun a b ah => prim .mod [a, b] ah) := op_ii op_mod fun d e F rho H ah Q R h => by
  cases d <;> cases e <;> first | exact (show False from h).elim | skip
  simp only [prim] at h
  split at h
  · rename_i z; exact ⟨_, _, rfl, rfl, z, OutV.i h R⟩
  · exact h.bad
theorem op_powD : OpR X (binaryOp .Pow) (r2 X.K ca fun a b ah => prim .pow [a, b] ah) := op_ii op_pow fun d e F rho H ah Q R h => by
  cases d <;> cases e <;> first | exact (show False from h).elim | skip
  simp only [prim] at h
  split at h
  · rename_i z; exact ⟨_, _, rfl, rfl, z, OutV.i h R⟩
  · exact h.bad
theorem op_ltD : OpR X (compareOp .Lt) (r2 X.K ca fun a b ah => prim .lt [a, b] ah) := op_ii0 op_lt fun d e F rho H ah Q R h => by
  cases d <;> cases e <;> first | exact (show False from h).elim | skip
  exact ⟨_, _, rfl, rfl, OutV.b h R⟩
theorem op_leD : OpR X (compareOp .LtE) (r2 X.K ca fun a b ah => prim .le [a, b] ah) := op_ii0 op_le fun d e F rho H ah Q R h => by
  cases d <;> cases e <;> first | exact (show False from h).elim | skip
  exact ⟨_, _, rfl, rfl, OutV.b h R⟩
theorem op_gtD : OpR X (compareOp .Gt) (r2 X.K ca fun a b ah => prim .gt [a, b] ah) := op_ii0 op_gt fun d e F rho H ah Q R h => by
  cases d <;> cases e <;> first | exact (show False from h).elim | skip
  exact ⟨_, _, rfl, rfl, OutV.b h R⟩
theorem op_geD : OpR X (compareOp .GtE) (r2 X.K ca fun a b ah => prim .ge [a, b] ah) := op_ii0 op_ge fun d e F rho H ah Q R h => by
  cases d <;> cases e <;> first | exact (show False from h).elim | skip
  exact ⟨_, _, rfl, rfl, OutV.b h R⟩
theorem op_eqDD (hu : X.A.units + 64 < cLine) : OpR X (compareOp .Eq) (r2 X.K ca fun a b ah => prim .eq [a, b] ah) := by
  intro pins s σ H x y v u Q I rx ry h
  obtain ⟨F, rho, ah, d, e, R, hx, hy, h⟩ := h
  simp only [prim, onData] at h
  split at h
  · rename_i d' e' h1 h2
    split at h
    · rename_i z
      obtain ⟨z1, z2, z3, z4⟩ := z
      have q1 := rd_ok R h1 hx
      have q2 := rd_ok R h2 hy
      refine op_eqD hu pins s σ H x y v u Q I rx ry ⟨_, _, rel_dp d' x z1 q1, rel_dp e' y z2 q2, shaped_py z1 q1 z3, shaped_py z2 q2 z4, ?_⟩
      rw [eqv_py d' e' z1 z2]
      exact OutV.b h R
    · exact h.bad
  · exact h.bad
theorem op_neDD (hu : X.A.units + 64 < cLine) : OpR X (compareOp .NotEq) (r2 X.K ca fun a b ah => prim .ne [a, b] ah) := by
  intro pins s σ H x y v u Q I rx ry h
  obtain ⟨F, rho, ah, d, e, R, hx, hy, h⟩ := h
  simp only [prim, onData] at h
  split at h
  · rename_i d' e' h1 h2
    split at h
    · rename_i z
      obtain ⟨z1, z2, z3, z4⟩ := z
      have q1 := rd_ok R h1 hx
      have q2 := rd_ok R h2 hy
      refine op_neD hu pins s σ H x y v u Q I rx ry ⟨_, _, rel_dp d' x z1 q1, rel_dp e' y z2 q2, shaped_py z1 q1 z3, shaped_py z2 q2 z4, ?_⟩
      rw [eqv_py d' e' z1 z2]
      exact OutV.b h R
    · exact h.bad
  · exact h.bad
theorem any_py {d : D} (hd : d.isData = true) : ∀ es : List D, D.areData es = true → ((pys es).any fun z => PyData.eqv z (py d)) = es.any fun z => D.eqv z d
  | [], _ => by simp [pys]
  | a :: as, h => by
    simp only [D.areData, Bool.and_eq_true] at h
    simp only [pys, List.any_cons, any_py hd as h.2, eqv_py a d h.1 hd]
theorem in_seqD (neg : Bool) (hu : X.A.units + 65 < cLine) {pins : List (Addr × Obj)} {s : Shared} {σ : L2.St} {H : Hp} {x y : V} {v u : Value} {Q : VK} (I : Inv X pins σ H s) (rx : RelV x v) (ry : RelV y u)
    {F rho : List Addr} {ah : AH} {d e d' : D} {es : List D} (R : HR X.K ca F rho ah H) (hx : RelD X.K ca F rho H d x) (hy : RelD X.K ca F rho H e y) (h1 : rd ah d = some d') (h2 : rd ah e = some (.lst es) ∨ rd ah e = some (.tup es))
    (h : OutV X.K ca F rho H Q (if d'.isData = true ∧ D.areData es = true ∧ d'.depth ≤ 60 ∧ D.depths es ≤ 60 then okB (neg != es.any fun z => D.eqv z d') ah else .bad)) :
    wpAny (model X.prog X.w) X.A (compareOp (if neg then .NotIn else .In) v u) (EP X pins σ Q) X.xe s := by
  split at h
  · rename_i z
    obtain ⟨z1, z2, z3, z4⟩ := z
    have q1 := rd_ok R h1 hx
    obtain ⟨bs, r1⟩ := Dp.reads I _ x v (rel_dp d' x z1 q1) rx
    have c1 := lay_py d' x z1 q1
    have hr : ∀ dd : Nat, X.A.units + 1 + min dd (py d').depth < cLine := fun dd => by
      have : (py d').depth ≤ 60 := by rw [depth_py d' z1]; exact z3
      omega
    rcases h2 with h2 | h2
    · have q2 := rd_ok R h2 hy
      have ed : (D.lst es).isData = true := by simpa [D.isData] using z2
      obtain ⟨as, r2⟩ := Dp.reads I _ y u (rel_dp _ y ed q2) ry
      have c2 := lay_py _ y ed q2
      simp only [py] at r2 c2
      simp only [PyData.canLay0] at c2
      have hq := OutV.b h R
      cases neg with
      | false => exact SeqAt.in_list_reads r2 r1 c2 c1 (hr _) ⟨.bl _, H, I, by rw [any_py z1 es z2]; rfl, by simpa using hq⟩
      | true => exact SeqAt.notIn_list_reads r2 r1 c2 c1 (hr _) ⟨.bl _, H, I, by rw [any_py z1 es z2]; rfl, by simpa using hq⟩
    · have q2 := rd_ok R h2 hy
      have ed : (D.tup es).isData = true := by simpa [D.isData] using z2
      obtain ⟨as, r2⟩ := Dp.reads I _ y u (rel_dp _ y ed q2) ry
      have c2 := lay_py _ y ed q2
      simp only [py] at r2 c2
      simp only [PyData.canLay0] at c2
      have hq := OutV.b h R
      cases neg with
      | false => exact SeqAt.in_tuple_reads r2 r1 c2 c1 (hr _) ⟨.bl _, H, I, by rw [any_py z1 es z2]; rfl, by simpa using hq⟩
      | true => exact SeqAt.notIn_tuple_reads r2 r1 c2 c1 (hr _) ⟨.bl _, H, I, by rw [any_py z1 es z2]; rfl, by simpa using hq⟩
  · exact h.bad
theorem op_inDD (neg : Bool) (hu : X.A.units + 65 < cLine) : OpR X (compareOp (if neg then .NotIn else .In)) (r2 X.K ca fun a b ah => pIsin neg a b ah) := by
  intro pins s σ H x y v u Q I rx ry h
  obtain ⟨F, rho, ah, d, e, R, hx, hy, h⟩ := h
  dsimp only at h
  unfold pIsin at h
  split at h
  · rename_i c z
    obtain ⟨h1, rfl⟩ := rel_str hx
    obtain ⟨h2, rfl⟩ := rel_str hy
    have hq := OutV.b h R
    cases neg with
    | false => exact op_in_sign pins s σ H _ _ v u Q I rx ry ⟨c, _, rfl, rfl, by simpa using hq⟩
    | true => exact op_notIn_sign pins s σ H _ _ v u Q I rx ry ⟨c, _, rfl, rfl, by simpa using hq⟩
  · split at h
    · rename_i h1 h2
      exact in_seqD neg hu I rx ry R hx hy h1 (.inl h2) h
    · rename_i h1 h2
      exact in_seqD neg hu I rx ry R hx hy h1 (.inr h2) h
    · exact h.bad
end
end M
end

section
set_option Elab.async false
set_option linter.all false
set_option maxRecDepth 100000
set_option maxHeartbeats 4000000
/-! The machine, 5: subscripts, slices, built-in functions and methods by values. -/
namespace M
open PySem PySem.Spec PyProof.Rows L2
section
variable {X : Cx} {ca : CA}
theorem ix_D : IxR X (r2 X.K ca pIdx) := by
  intro value slice pins s σ H x y v u Q I rx ry h hsub
  obtain ⟨F, rho, ah, d, e, R, hx, hy, h⟩ := h
  unfold pIdx at h
  split at h
  · rename_i z i
    obtain ⟨h1, rfl⟩ := rel_str hx
    have e2 := rel_int hy
    subst e2
    split at h
    · rename_i c hc
      refine ix_str value slice pins s σ H _ _ v u Q I rx ry ⟨_, i, c, rfl, rfl, by rw [str_len]; exact h1.1, hc, ?_⟩ hsub
      refine h.s R ⟨?_, fun k hk => ?_⟩
      · rw [SZ_eq]; show 1 ≤ SZ; decide
      · rw [List.mem_singleton.mp hk]
        unfold atL at hc
        cases q : ixN z.length i with
        | none => rw [q] at hc; cases hc
        | some j => rw [q] at hc; exact h1.2 c (List.mem_of_getElem? hc)
    · exact h.bad
  · rename_i i hns
    have e2 := rel_int hy
    subst e2
    split at h
    · rename_i xs hxs
      obtain ⟨a, vs, rfl, hsq, hr, hz⟩ := seq_items R hxs hx
      split at h
      · rename_i f hf
        obtain ⟨w, hw, rw⟩ := at_rel hr hf
        rcases hsq with hq | hq
        · exact ix_list value slice pins s σ H _ _ v u Q I rx ry ⟨a, vs, i, w, rfl, rfl, hq, hw, h.same R rw⟩ hsub
        · exact ix_tup value slice pins s σ H _ _ v u Q I rx ry ⟨a, vs, i, w, rfl, rfl, hq, hw, h.same R rw⟩ hsub
      · exact h.bad
    · exact h.bad
  · exact h.bad
/-- a slice: the parts by values -/
def rSl (K : PySem.W.Frag) (ca : CA) (m : Bool) : V → Option Int → Option Int → Hp → VK → Prop := fun x lo hi H Q =>
  ∃ F rho ah d, HR K ca F rho ah H ∧ RelD K ca F rho H d x ∧ OutV K ca F rho H Q (pSlice m lo hi ah d)
theorem cutN_sub (z : List Nat) (lo hi : Option Int) : (cutN z lo hi).length ≤ z.length ∧ ∀ c ∈ cutN z lo hi, c ∈ z := by
  unfold cutN
  refine ⟨?_, fun c hc => List.mem_of_mem_drop (List.mem_of_mem_take hc)⟩
  rw [List.length_take, List.length_drop]
  omega
theorem cutL_len {xs : List D} {lo hi : Option Int} (h : xs.length ≤ sizeLine) : (cutL xs lo hi).length ≤ sizeLine := by
  unfold cutL
  rw [List.length_take, List.length_drop]
  exact Nat.le_trans (Nat.min_le_right _ _) (Nat.le_trans (Nat.sub_le _ _) h)
theorem sl_D (m : Bool) : SlR X (rSl X.K ca m) := by
  intro pins s σ H x v vl vu lo hi sl Q I rx hs pl pu h
  obtain ⟨F, rho, ah, d, R, hx, h⟩ := h
  unfold pSlice at h
  split at h
  · rename_i z
    obtain ⟨h1, rfl⟩ := rel_str hx
    refine sl_str pins s σ H _ v vl vu lo hi sl Q I rx hs pl pu ⟨_, rfl, by rw [str_len]; exact h1.1, ?_⟩
    have e : cutS ⟨z.toArray⟩ lo hi = ⟨(cutN z lo hi).toArray⟩ := by
      unfold cutS cutN
      rw [str_len]
    rw [e]
    exact h.s R (h1.sub (cutN_sub z lo hi).1 (cutN_sub z lo hi).2)
  · rename_i xs
    simp only [RelD] at hx
    obtain ⟨hz, a, vs, rfl, h2, h3⟩ := hx
    refine sl_tupA pins s σ H _ v vl vu lo hi sl Q I rx hs pl pu ⟨a, vs, rfl, h2, fun z => ?_, fun _ => h.tup R (cut_rel h3) (cutL_len hz)⟩
    refine h.same R ?_
    have r := cut_rel (lo := lo) (hi := hi) h3
    have ev : cutV vs lo hi = vs := by
      unfold cutV
      rw [z.1, z.2, List.drop_zero, Nat.sub_zero, List.take_length]
    rw [ev] at r
    simp only [RelD]
    exact ⟨cutL_len hz, a, vs, rfl, h2, r⟩
  · rename_i ns
    simp only [RelD] at hx
    obtain ⟨a, rfl, h2⟩ := hx
    obtain ⟨its, rv, _, hz⟩ := I.list h2.sq
    exact sl_list pins s σ H _ v vl vu lo hi sl Q I rx hs pl pu ⟨a, _, rfl, h2.sq, h.mkL R (cut_rel (rels_ints ns)) (cutL_len (by simpa using hz))⟩
  · split at h
    · rename_i xs hxs
      obtain ⟨a, vs, rfl, h2, h3, hz⟩ := lst_items R hxs hx
      exact sl_list pins s σ H _ v vl vu lo hi sl Q I rx hs pl pu ⟨a, vs, rfl, SqL.of h2, h.mkL R (cut_rel h3) (cutL_len hz)⟩
    · exact h.bad

/-! ### built-in functions -/
theorem rels1 {K : PySem.W.Frag} {F rho : List Addr} {H : Hp} {d : D} {vs : List V} (r : RelDs K ca F rho H [d] vs) : ∃ v, vs = [v] ∧ RelD K ca F rho H d v := by
  simp only [RelDs] at r
  obtain ⟨v, t, e, h, e2⟩ := r
  subst e2
  exact ⟨v, e, h⟩
theorem rels2 {K : PySem.W.Frag} {F rho : List Addr} {H : Hp} {d e : D} {vs : List V} (r : RelDs K ca F rho H [d, e] vs) : ∃ v w, vs = [v, w] ∧ RelD K ca F rho H d v ∧ RelD K ca F rho H e w := by
  simp only [RelDs] at r
  obtain ⟨v, t, e1, h, w, t2, e2, h2, e3⟩ := r
  subst e3 e2
  exact ⟨v, w, e1, h, h2⟩
/-- one argument: the others are none -/
theorem rels_one {K : PySem.W.Frag} {F rho : List Addr} {H : Hp} {ds : List D} {v : V} (r : RelDs K ca F rho H ds [v]) : ∃ d, ds = [d] ∧ RelD K ca F rho H d v := by
  match ds, r with
  | [], r => simp only [RelDs] at r; cases r
  | [d], r =>
    obtain ⟨w, e, h⟩ := rels1 r
    cases e
    exact ⟨d, rfl, h⟩
  | d :: e :: t, r =>
    have := r.length
    simp at this
theorem call_lenD : CallR X (.builtin "len") (rN X.K ca fun ds ah => prim .len ds ah) := by
  intro pins s σ H xs us Q I rv h
  obtain ⟨F, rho, ah, ds, R, hx, h⟩ := h
  match ds, hx, h with
  | [d], hx, h =>
    obtain ⟨v, rfl, hd⟩ := rels1 hx
    simp only [prim, pLen] at h
    split at h
    · rename_i z
      obtain ⟨h1, rfl⟩ := rel_str hd
      exact call_len pins s σ H _ us Q I rv ⟨_, z.length, rfl, ⟨by rw [str_len]; exact h1.1, by rw [str_len]⟩, h.i R⟩
    · split at h
      · rename_i ys hys
        obtain ⟨a, vs, rfl, hsq, hr, hz⟩ := seq_items R hys hd
        refine call_len pins s σ H _ us Q I rv ⟨_, ys.length, rfl, ?_, h.i R⟩
        rcases hsq with hq | hq
        · exact .inl ⟨vs, hq, hr.length⟩
        · exact .inr ⟨vs, hq, hr.length⟩
      · exact h.bad
  | [], hx, h => exact (show False from h).elim
  | _ :: _ :: _, hx, h => exact (show False from h).elim
theorem call_absD : CallR X (.builtin "abs") (rN X.K ca fun ds ah => prim .abs ds ah) := by
  intro pins s σ H xs us Q I rv h
  obtain ⟨F, rho, ah, ds, R, hx, h⟩ := h
  match ds, hx, h with
  | [.int i], hx, h =>
    obtain ⟨v, rfl, hd⟩ := rels1 hx
    have e := rel_int hd
    subst e
    exact call_abs pins s σ H _ us Q I rv ⟨i, rfl, OutV.i h R⟩
  | [], _, h | [.non], _, h | [.bl _], _, h | [.str _], _, h | [.tup _], _, h | [.lst _], _, h | [.ob _ _ _], _, h | [.dct _ _], _, h | [.scr _], _, h | [.loc _], _, h | _ :: _ :: _, _, h => exact absurd h (by simp [prim, OutV])
theorem digit_val : ∀ c : Nat, 48 ≤ c → c ≤ 57 → PySem.intText? ⟨#[c]⟩ = some ((c : Int) - 48) := by
  intro c h1 h2
  have : c = 48 ∨ c = 49 ∨ c = 50 ∨ c = 51 ∨ c = 52 ∨ c = 53 ∨ c = 54 ∨ c = 55 ∨ c = 56 ∨ c = 57 := by omega
  rcases this with e | e | e | e | e | e | e | e | e | e <;> subst e <;> decide +kernel
theorem call_intD : CallR X (.type "int") (rN X.K ca fun ds ah => prim .int ds ah) := by
  intro pins s σ H xs us Q I rv h
  obtain ⟨F, rho, ah, ds, R, hx, h⟩ := h
  match ds, hx, h with
  | [.int i], hx, h =>
    obtain ⟨v, rfl, hd⟩ := rels1 hx
    have e := rel_int hd
    subst e
    exact call_int1 pins s σ H _ us Q I rv (.inl ⟨i, rfl, OutV.i h R⟩)
  | [.bl b], hx, h =>
    obtain ⟨v, rfl, hd⟩ := rels1 hx
    have e := rel_bl hd
    subst e
    exact call_int1 pins s σ H _ us Q I rv (.inr ⟨b, rfl, OutV.i h R⟩)
  | [.str [c]], hx, h =>
    obtain ⟨v, rfl, hd⟩ := rels1 hx
    obtain ⟨h1, rfl⟩ := rel_str hd
    simp only [prim] at h
    split at h
    · rename_i z
      exact call_int_str pins s σ H _ us Q I rv ⟨_, _, rfl, digit_val c z.1 z.2, by rw [str_len]; show 1 ≤ 640; decide, h.i R⟩
    · exact h.bad
  | [], _, h | [.non], _, h | [.str []], _, h | [.str (_ :: _ :: _)], _, h | [.tup _], _, h | [.lst _], _, h | [.ob _ _ _], _, h | [.dct _ _], _, h | [.scr _], _, h | [.loc _], _, h | _ :: _ :: _, _, h => exact absurd h (by simp [prim, OutV])
theorem log2_small {n : Nat} (h : n < 2 ^ 64) : n.log2 < 1920 := by
  by_cases z : n = 0
  · subst z; decide
  · have := (Nat.log2_lt z).mpr h
    omega
theorem intL_len (i : Int) (h : i.natAbs < 2 ^ 64) : (intL i).length ≤ 100 := by
  have k : ∀ n : Nat, n < 2 ^ 64 → (TL.numL n).length ≤ 20 := fun n hn => TL.numL_len (by decide) (by omega)
  unfold intL
  show (TL.tl _).length ≤ 100
  cases i with
  | ofNat n =>
    have e := TL.tl_num n
    have e2 : ((n : Nat) : Int) = Int.ofNat n := rfl
    rw [e2] at e
    rw [e]
    have := k n h
    omega
  | negSucc n =>
    have e := TL.tl_num (n + 1)
    have e3 : toString (Int.negSucc n) = "-" ++ toString (((n + 1 : Nat)) : Int) := rfl
    rw [e3, TL.tl_ofString, String.toList_append, List.map_append, List.length_append, ← TL.tl_ofString, ← TL.tl_ofString, e]
    have := k (n + 1) h
    have e4 : (TL.tl (Str.ofString "-")).length = 1 := by rw [TL.tl_ofString]; rfl
    omega
theorem intL_ok (i : Int) (h : i.natAbs < 2 ^ 64) : sOk (intL i) := by
  refine ⟨?_, fun c hc => ?_⟩
  · rw [SZ_eq]
    exact Nat.le_trans (intL_len i h) (by decide)
  · unfold intL at hc
    have hc' : c ∈ TL.tl (Str.ofString (toString i)) := hc
    rw [TL.tl_ofString] at hc'
    obtain ⟨ch, _, e⟩ := List.mem_map.mp hc'
    subst e
    have := ch.valid
    simp only [UInt32.isValidChar, Nat.isValidChar] at this
    show ch.val.toNat < 1114112
    omega
theorem call_strD : CallR X (.type "str") (rN X.K ca fun ds ah => prim .str ds ah) := by
  intro pins s σ H xs us Q I rv h
  obtain ⟨F, rho, ah, ds, R, hx, h⟩ := h
  match ds, hx, h with
  | [.int i], hx, h =>
    obtain ⟨v, rfl, hd⟩ := rels1 hx
    have e := rel_int hd
    subst e
    simp only [prim] at h
    split at h
    · rename_i z
      refine call_str_int pins s σ H _ us Q I rv ⟨i, rfl, log2_small z, ?_⟩
      have e : (⟨(intL i).toArray⟩ : Str) = Str.ofString (toString i) := TL.ext_tl rfl
      have q := h.s R (intL_ok i z)
      rw [e] at q
      exact q
    · exact h.bad
  | [.str z], hx, h =>
    obtain ⟨v, rfl, hd⟩ := rels1 hx
    obtain ⟨h1, rfl⟩ := rel_str hd
    exact SkE.call_str_str pins s σ H _ us Q I rv ⟨_, rfl, OutV.s h R h1⟩
  | [], _, h | [.non], _, h | [.bl _], _, h | [.tup _], _, h | [.lst _], _, h | [.ob _ _ _], _, h | [.dct _ _], _, h | [.scr _], _, h | [.loc _], _, h | _ :: _ :: _, _, h => exact absurd h (by simp [prim, OutV])
theorem call_tupleD : CallR X (.type "tuple") (rN X.K ca fun ds ah => prim .tuple ds ah) := by
  intro pins s σ H xs us Q I rv h
  obtain ⟨F, rho, ah, ds, R, hx, h⟩ := h
  match ds, hx, h with
  | [d], hx, h =>
    obtain ⟨v, rfl, hd⟩ := rels1 hx
    simp only [prim] at h
    split at h
    · rename_i ys hys
      obtain ⟨a, vs, rfl, hsq, hr, hz⟩ := seq_items R hys hd
      refine call_tuple_of pins s σ H _ us Q I rv ⟨a, vs, rfl, ?_⟩
      rcases hsq with hq | hq
      · exact .inl ⟨hq, h.tup R hr hz⟩
      · refine .inr ⟨hq, h.same R ?_⟩
        simp only [RelD]
        exact ⟨hz, a, vs, rfl, hq, hr⟩
    · exact h.bad
  | [], hx, h => exact (show False from h).elim
  | _ :: _ :: _, hx, h => exact (show False from h).elim
theorem call_listD (m : Bool) : CallR X (.type "list") (rN X.K ca fun ds ah => prim (.list m) ds ah) := by
  intro pins s σ H xs us Q I rv h
  obtain ⟨F, rho, ah, ds, R, hx, h⟩ := h
  match ds, hx, h with
  | [d], hx, h =>
    obtain ⟨v, rfl, hd⟩ := rels1 hx
    simp only [prim] at h
    split at h
    · rename_i ys hys
      obtain ⟨a, vs, rfl, hsq, hr, hz⟩ := seq_items R hys hd
      exact call_list_of pins s σ H _ us Q I rv ⟨a, vs, rfl, hsq, h.mkL R hr hz⟩
    · exact h.bad
  | [], hx, h => exact (show False from h).elim
  | _ :: _ :: _, hx, h => exact (show False from h).elim
theorem call_allD (hc : X.calm = true) : CallR X (.builtin "all") (rN X.K ca fun ds ah => prim .all ds ah) := by
  intro pins s σ H xs us Q I rv h
  obtain ⟨F, rho, ah, ds, R, hx, h⟩ := h
  match ds, hx, h with
  | [d], hx, h =>
    obtain ⟨v, rfl, hd⟩ := rels1 hx
    simp only [prim] at h
    split at h
    · rename_i ys hys
      obtain ⟨a, vs, rfl, hq, hr, _⟩ := lst_items R hys hd
      split at h
      · rename_i l hl
        have e := bls_rel hl hr
        subst e
        exact cr_all hc pins s σ H _ us Q I rv ⟨a, l, rfl, SqL.of hq, h.b R⟩
      · exact h.bad
    · exact h.bad
  | [], hx, h => exact (show False from h).elim
  | _ :: _ :: _, hx, h => exact (show False from h).elim
theorem call_max2D (hc : X.calm = true) : CallR X (.builtin "max") (rN X.K ca fun ds ah => prim .max2 ds ah) := by
  intro pins s σ H xs us Q I rv h
  obtain ⟨F, rho, ah, ds, R, hx, h⟩ := h
  match ds, hx, h with
  | [.int i, .int j], hx, h =>
    obtain ⟨v, w, rfl, h1, h2⟩ := rels2 hx
    have e1 := rel_int h1
    have e2 := rel_int h2
    subst e1 e2
    exact call_max2 hc pins s σ H _ us Q I rv ⟨i, j, rfl, OutV.i h R⟩
  | [], _, h => exact (show False from h).elim
  | [_], _, h => exact absurd h (by simp [prim, OutV])
  | [a, b], hx, h => cases a <;> cases b <;> first | exact (show False from h).elim | (obtain ⟨v, w, rfl, h1, h2⟩ := rels2 hx; have e1 := rel_int h1; have e2 := rel_int h2; subst e1 e2; exact call_max2 hc pins s σ H _ us Q I rv ⟨_, _, rfl, OutV.i h R⟩)
  | _ :: _ :: _ :: _, _, h => exact absurd h (by simp [prim, OutV])
theorem call_min2D (hc : X.calm = true) : CallR X (.builtin "min") (rN X.K ca fun ds ah => prim .min2 ds ah) := by
  intro pins s σ H xs us Q I rv h
  obtain ⟨F, rho, ah, ds, R, hx, h⟩ := h
  match ds, hx, h with
  | [], _, h => exact (show False from h).elim
  | [_], _, h => exact absurd h (by simp [prim, OutV])
  | [a, b], hx, h => cases a <;> cases b <;> first | exact (show False from h).elim | (obtain ⟨v, w, rfl, h1, h2⟩ := rels2 hx; have e1 := rel_int h1; have e2 := rel_int h2; subst e1 e2; exact call_min2 hc pins s σ H _ us Q I rv ⟨_, _, rfl, OutV.i h R⟩)
  | _ :: _ :: _ :: _, _, h => exact absurd h (by simp [prim, OutV])

/-! ### isinstance -/
def tyN : Ty → String
  | .str => "str" | .int => "int" | .bool => "bool" | .tuple => "tuple" | .list => "list"
def kOf (k : Option Ty) (t : Ty) : Bool := match k with
  | none => false
  | some .bool => decide (t = .bool) || decide (t = .int)
  | some k => decide (t = k)
def tyS : Option Ty → String
  | none => "NoneType"
  | some t => tyN t
theorem kit_all (k : Option Ty) (t : Ty) : kitB (tyS k) (tyN t) = some (kOf k t) := by
  cases k with
  | none => cases t <;> decide +kernel
  | some k => cases k <;> cases t <;> decide +kernel
theorem ty_of {K : PySem.W.Frag} {F rho : List Addr} {H : Hp} {ah : AH} {d : D} {v : V} (R : HR K ca F rho ah H) (r : RelD K ca F rho H d v) (k : Option Ty) (h : (k = none ∧ d = .non) ∨ (k ≠ none ∧ tyOf ah d = k)) : TyX K H v (.type (tyS k)) := by
  rcases h with ⟨rfl, rfl⟩ | ⟨hk, h⟩
  · have e : v = .non := by simpa only [RelD] using r
    subst e
    exact .base .non
  · subst h
    cases d <;> simp only [tyOf, ne_eq, not_true_eq_false] at hk ⊢
    · have e := rel_bl r; subst e; exact .base (.bl _)
    · have e := rel_int r; subst e; exact .base (.int _)
    · obtain ⟨_, e⟩ := rel_str r; subst e; exact .base (.str _)
    · simp only [RelD] at r
      obtain ⟨_, a, vs, rfl, h2, _⟩ := r
      rcases h2 with (h2 | ⟨o, h2⟩) | ⟨o, its, n, h2, h3, _⟩
      · exact .base (.tup h2)
      · exact .fTuple h2
      · exact .kTuple h2 h3
    · simp only [RelD] at r
      obtain ⟨_, a, vs, rfl, h2, _⟩ := r
      exact .base (.lst h2)
    · rename_i n
      simp only [RelD] at r
      obtain ⟨a, rfl, ha⟩ := r
      split at hk
      · rename_i xs q
        obtain ⟨_, vs, h3, _⟩ := R.cells n _ a q ha
        exact .base (.lst h3)
      · exact absurd rfl hk
theorem call_isiD (t : Ty) {pins : List (Addr × Obj)} {s : Shared} {σ : L2.St} {H : Hp} {x : V} {us : List Value} {Q : VK} (I : Inv X pins σ H s) (rv : Vals [x, .ty (tyN t)] us)
    (h : r1 X.K ca (fun d ah => prim (.isinst t) [d] ah) x H Q) : wpAny (model X.prog X.w) X.A (call (.builtin "isinstance") us) (EP X pins σ Q) X.xe s := by
  obtain ⟨F, rho, ah, d, R, hx, h⟩ := h
  have go : ∀ k : Option Ty, ((k = none ∧ d = .non) ∨ (k ≠ none ∧ tyOf ah d = k)) → Q (.bl (kOf k t)) H → wpAny (model X.prog X.w) X.A (call (.builtin "isinstance") us) (EP X pins σ Q) X.xe s := fun k hk q =>
    call_isi pins s σ H _ us Q I rv ⟨x, .ty (tyN t), .type (tyS k), .type (tyN t), kOf k t, rfl, .ty _, ty_of R hx k hk, kit_ty (kit_all k t), q⟩
  simp only [prim, isTy] at h
  split at h
  · exact go none (.inl ⟨rfl, rfl⟩) (OutV.b h R)
  · split at h
    · rename_i q; exact go (some .bool) (.inr ⟨by simp, q⟩) (OutV.b h R)
    · rename_i k hne q
      refine go (some k) (.inr ⟨by simp, q⟩) ?_
      have e : kOf (some k) t = decide (t = k) := by cases k <;> first | rfl | exact absurd rfl (hne)
      rw [e]
      exact OutV.b h R
    · exact h.bad

/-! ### methods of texts and lists -/
theorem tl_map (l : List (List Nat)) : (l.map fun x => (⟨x.toArray⟩ : Str)).map TL.tl = l := by
  induction l with
  | nil => rfl
  | cons x l ih => rw [List.map_cons, List.map_cons, ih]
theorem strs_eq {a : List Str} {l : List (List Nat)} (e : a.map TL.tl = l) : a = l.map fun x => (⟨x.toArray⟩ : Str) := TL.map_tl_inj (e.trans (tl_map l).symm)
theorem spl_sub (c : Nat) : ∀ (x acc : List Nat) (p : List Nat), p ∈ TL.spl [c] 0 acc x → p.length ≤ acc.length + x.length ∧ ∀ k ∈ p, k ∈ acc ∨ k ∈ x
  | [], acc, p, h => by
    rw [TL.spl_nil] at h
    rw [List.mem_singleton.mp h]
    exact ⟨by simp, fun k hk => .inl hk⟩
  | z :: x, acc, p, h => by
    by_cases q : TL.pre [c] (z :: x) = true
    · rw [TL.spl_hit q] at h
      rcases List.mem_cons.mp h with e | h
      · subst e
        exact ⟨by simp, fun k hk => .inl hk⟩
      · obtain ⟨h1, h2⟩ := spl_sub c x [] p h
        refine ⟨by simp at h1 ⊢; omega, fun k hk => ?_⟩
        rcases h2 k hk with w | w
        · cases w
        · exact .inr (List.mem_cons_of_mem _ w)
    · have q' : TL.pre [c] (z :: x) = false := by simpa using q
      rw [TL.spl_miss q'] at h
      obtain ⟨h1, h2⟩ := spl_sub c x (acc ++ [z]) p h
      refine ⟨by simp at h1 ⊢; omega, fun k hk => ?_⟩
      rcases h2 k hk with w | w
      · rcases List.mem_append.mp w with w | w
        · exact .inl w
        · exact .inr (by rw [List.mem_singleton.mp w]; exact List.mem_cons_self)
      · exact .inr (List.mem_cons_of_mem _ w)
theorem spl_len (c : Nat) : ∀ (x acc : List Nat), (TL.spl [c] 0 acc x).length ≤ x.length + 1
  | [], acc => by rw [TL.spl_nil]; simp
  | z :: x, acc => by
    by_cases q : TL.pre [c] (z :: x) = true
    · rw [TL.spl_hit q]
      have := spl_len c x []
      simp at this ⊢
      omega
    · have q' : TL.pre [c] (z :: x) = false := by simpa using q
      rw [TL.spl_miss q']
      have := spl_len c x (acc ++ [z])
      simp at this ⊢
      omega
/-- a method: the receiver, the arguments -/
def rM (K : PySem.W.Frag) (ca : CA) (g : List D → AH → R D) : V → List V → Hp → VK → Prop := fun x vs H Q =>
  ∃ F rho ah d ds, HR K ca F rho ah H ∧ RelD K ca F rho H d x ∧ RelDs K ca F rho H ds vs ∧ OutV K ca F rho H Q (g (d :: ds) ah)
theorem mt_splitD (m : Bool) : MtR X "str.split" (rM X.K ca fun ds ah => prim (.split m) ds ah) := by
  intro pins s σ H x xs v us Q I rx rxs h
  obtain ⟨F, rho, ah, d, ds, R, hx, hs, h⟩ := h
  match d, ds, hx, hs, h with
  | d, [e], hx, hs, h =>
    obtain ⟨y, rfl, he⟩ := rels1 hs
    simp only [prim, pSplit] at h
    split at h
    · rename_i z c
      obtain ⟨h1, rfl⟩ := rel_str hx
      obtain ⟨h2, rfl⟩ := rel_str he
      split at h
      · rename_i q
        refine mt_split pins s σ H _ _ v us Q I rx rxs ⟨_, _, rfl, rfl, ?_, by rw [str_len, SZ_eq]; exact q.1, ?_⟩
        · rw [str_len]; rfl
        · have hk : ¬ Builtin.Str.strKind (⟨z.toArray⟩ : Str) < Builtin.Str.strKind (⟨[c].toArray⟩ : Str) := TL.kind_ok (by simpa using q.2)
          have e := strs_eq (TL.split_spl ⟨z.toArray⟩ ⟨[c].toArray⟩ (by show [c] ≠ []; simp) hk)
          rw [e]
          have r : RelDs X.K ca F rho H ((TL.spl [c] 0 [] z).map D.str) (((TL.spl [c] 0 [] z).map fun x => (⟨x.toArray⟩ : Str)).map V.str) := strs_rels fun p hp => by
            obtain ⟨h3, h4⟩ := spl_sub c z [] p hp
            exact h1.sub (by simpa using h3) fun k hk => (h4 k hk).resolve_left (by simp)
          refine h.mkL R r ?_
          rw [List.length_map, SZ_eq]
          exact Nat.le_trans (spl_len c z []) (Nat.le_trans (Nat.le_succ _) q.1)
      · exact h.bad
    · exact h.bad
  | d, [], _, _, h => exact absurd h (by simp [prim, OutV])
  | d, _ :: _ :: _, _, _, h => exact absurd h (by simp [prim, OutV])
theorem joinL_ok {s : List Nat} (hs : ∀ c ∈ s, c < 1114112) : ∀ {l : List (List Nat)}, (∀ x ∈ l, ∀ c ∈ x, c < 1114112) → ∀ c ∈ TL.joinL s l, c < 1114112
  | [], _, c, h => by simp [TL.joinL] at h
  | [p], hl, c, h => hl p List.mem_cons_self c (by simpa [TL.joinL] using h)
  | p :: q :: r, hl, c, h => by
    simp only [TL.joinL] at h
    rcases List.mem_append.mp h with h | h
    · exact hl p List.mem_cons_self c h
    · rcases List.mem_append.mp h with h | h
      · exact hs c h
      · exact joinL_ok hs (fun x hx => hl x (List.mem_cons_of_mem _ hx)) c h
theorem joinL_len (s : List Nat) : ∀ l : List (List Nat), (TL.joinL s l).length ≤ (l.map List.length).sum + l.length * s.length
  | [] => by simp [TL.joinL]
  | [p] => by simp [TL.joinL]
  | p :: q :: r => by
    have ih := joinL_len s (q :: r)
    simp only [TL.joinL, List.length_append, List.map_cons, List.sum_cons, List.length_cons, Nat.succ_mul] at ih ⊢
    omega
theorem mt_joinD : MtR X "str.join" (rM X.K ca fun ds ah => prim .join ds ah) := by
  intro pins s σ H x xs v us Q I rx rxs h
  obtain ⟨F, rho, ah, d, ds, R, hx, hs, h⟩ := h
  match d, ds, hx, hs, h with
  | d, [e], hx, hs, h =>
    obtain ⟨y, rfl, he⟩ := rels1 hs
    simp only [prim, pJoin] at h
    split at h
    · rename_i z
      obtain ⟨h1, rfl⟩ := rel_str hx
      split at h
      · rename_i ys hys
        obtain ⟨a, vs, rfl, hsq, hr, hz⟩ := seq_items R hys he
        split at h
        · rename_i l hl
          obtain ⟨e2, h3⟩ := strs_rel hl hr
          subst e2
          split at h
          · rename_i q
            have lens : ((l.map fun x => (⟨x.toArray⟩ : Str)).map (·.length)) = l.map List.length := by
              rw [List.map_map]
              exact List.map_congr_left fun x _ => str_len x
            refine mt_join pins s σ H _ _ v us Q I rx rxs ⟨_, a, _, rfl, rfl, hsq, ?_, ?_⟩
            · rw [lens, List.length_map, str_len]; exact q
            · rw [TL.join_eq]
              have e3 : Str.join (⟨z.toArray⟩ : Str) (l.map fun x => (⟨x.toArray⟩ : Str)) = ⟨(TL.joinL z l).toArray⟩ := TL.ext_tl (by rw [TL.tl_join, tl_map])
              rw [e3]
              exact h.s R ⟨by rw [SZ_eq]; exact Nat.le_trans (joinL_len z l) q, joinL_ok h1.2 fun x hx => (h3 x hx).2⟩
          · exact h.bad
        · exact h.bad
      · exact h.bad
    · exact h.bad
  | d, [], _, _, h => exact absurd h (by simp [prim, OutV])
  | d, _ :: _ :: _, _, _, h => exact absurd h (by simp [prim, OutV])
theorem mt_appendD : MtM X "list.append" (rM X.K ca fun ds ah => prim .append ds ah) := by
  intro pins s σ H x xs v us Q I rx rxs h
  obtain ⟨F, rho, ah, d, ds, R, hx, hs, h⟩ := h
  match d, ds, hx, hs, h with
  | .loc n, [e], hx, hs, h =>
    obtain ⟨y, rfl, he⟩ := rels1 hs
    simp only [prim] at h
    split at h
    · rename_i ys hys
      split at h
      · rename_i q
        simp only [RelD] at hx
        obtain ⟨a, rfl, ha⟩ := hx
        obtain ⟨hz, vs, h3, h4⟩ := R.cells n _ a hys ha
        refine mt_append pins s σ H _ _ v us Q I rx rxs ⟨a, vs, y, rfl, rfl, h3, by rw [← h4.length, SZ_eq]; exact q, ?_⟩
        have hr : a ∈ rho := List.mem_of_getElem? ha
        have e0 : Ext F rho H F rho (upd H a (.lst (vs ++ [y]))) := ⟨⟨[], by simp⟩, fun _ h => h, fun a h n => absurd h n, fun a h n => absurd h n, fun b u h n => by rw [upd_ne (fun z => n (by rw [z]; exact hr))]; exact h⟩
        obtain ⟨R', e1⟩ := R.write (o := .lst (vs ++ [y])) (c := .lst (ys ++ [e])) ha trivial ⟨by rw [List.length_append, List.length_singleton, SZ_eq]; exact q, _, rfl, RelDs.keep R.sub R.mu e0 _ _ (h4.app (RelDs.cons he RelDs.nil))⟩
        exact h _ _ _ _ e1 R' (by simp only [RelD])
      · exact h.bad
    · exact h.bad
  | d, [], _, _, h => exact absurd h (by simp [prim, OutV])
  | d, _ :: _ :: _, _, _, h => exact absurd h (by simp [prim, OutV])
  | .non, [_], _, _, h | .bl _, [_], _, _, h | .int _, [_], _, _, h | .str _, [_], _, _, h | .tup _, [_], _, _, h | .lst _, [_], _, _, h | .ob _ _ _, [_], _, _, h | .dct _ _, [_], _, _, h | .scr _, [_], _, _, h => exact absurd h (by simp [prim, OutV])
/-- is None -/
theorem rel_non {K : PySem.W.Frag} {F rho : List Addr} {H : Hp} {d : D} {v : V} (r : RelD K ca F rho H d v) : (d = .non ↔ v = .non) := by
  constructor
  · intro e
    subst e
    simpa only [RelD] using r
  · intro e
    subst e
    cases d <;> simp only [RelD, reduceCtorEq, and_false, false_and, exists_const, exists_false] at r <;> first
      | rfl
      | (obtain ⟨_, z, _⟩ := r; cases z)
      | (obtain ⟨_, _, _, z, _⟩ := r; cases z)
      | (obtain ⟨_, _, z, _⟩ := r; cases z)
      | (obtain ⟨_, _, _, z, _⟩ := r; cases z)
end
end M
end

section
set_option Elab.async false
set_option linter.all false
set_option maxRecDepth 100000
set_option maxHeartbeats 4000000
/-! The machine, 6: expressions: each construct's rule. -/
namespace M
open PySem PySem.Spec PyProof.Rows L2

/-- an exception and its object -/
def RelX (K : PySem.W.Frag) (ca : CA) (F rho : List Addr) (H : Hp) (e : Ex) (cls : Value) (dx : Option Addr) : Prop :=
  cls = .ref (ca.f (e.c % 1000)) ∧ e.ns.length = e.xs.length ∧ (e.ns ≠ [] → ∃ d vs, dx = some d ∧ H d = some (.xd (e.ns.zip vs)) ∧ RelDs K ca F rho H e.xs vs)
def OutG {α β : Type} (rel : List Addr → List Addr → Hp → α → β → Prop) (K : PySem.W.Frag) (ca : CA) (F rho : List Addr) (H : Hp) (Q : β → Hp → Prop) (E : XK) : R α → Prop
  | .ok a ah' => ∀ F' rho' H' b, Ext F rho H F' rho' H' → HR K ca F' rho' ah' H' → rel F' rho' H' a b → Q b H'
  | .exc e ah' => ∀ F' rho' H' cls dx, Ext F rho H F' rho' H' → HR K ca F' rho' ah' H' → RelX K ca F' rho' H' e cls dx → E cls dx H'
  | .bad => False
section
variable {K : PySem.W.Frag} {ca : CA} {α β γ δ : Type} {rel : List Addr → List Addr → Hp → α → β → Prop} {rel2 : List Addr → List Addr → Hp → γ → δ → Prop} {F rho F1 rho1 : List Addr} {H H1 : Hp} {Q Q' : β → Hp → Prop} {Q2 : δ → Hp → Prop} {E E' : XK} {r : R α}
theorem OutG.mono (h : OutG rel K ca F rho H Q E r) (hq : ∀ b H, Q b H → Q' b H) : OutG rel K ca F rho H Q' E r := by
  cases r with
  | ok a ah => exact fun F' rho' H' b e R x => hq b H' (h F' rho' H' b e R x)
  | exc e ah => exact h
  | bad => exact h
theorem OutG.monoE (h : OutG rel K ca F rho H Q E r) (hq : ∀ c d H, E c d H → E' c d H) : OutG rel K ca F rho H Q E' r := by
  cases r with
  | ok a ah => exact h
  | exc e ah => exact fun F' rho' H' c d e R x => hq c d H' (h F' rho' H' c d e R x)
  | bad => exact h
theorem OutG.ext (h : OutG rel K ca F rho H Q E r) (e : Ext F rho H F1 rho1 H1) (sub : ∀ a ∈ rho, a ∈ F) : OutG rel K ca F1 rho1 H1 Q E r := by
  cases r with
  | ok a ah => exact fun F' rho' H' b e2 R x => h F' rho' H' b (e.trans e2 sub) R x
  | exc e3 ah => exact fun F' rho' H' c d e2 R x => h F' rho' H' c d (e.trans e2 sub) R x
  | bad => exact h
/-- what comes next -/
def Nxt (rel : List Addr → List Addr → Hp → α → β → Prop) (K : PySem.W.Frag) (ca : CA) (F rho : List Addr) (H : Hp) (P : List Addr → List Addr → Hp → α → AH → Prop) (b : β) (H1 : Hp) : Prop :=
  ∃ F1 rho1 ah1 a, Ext F rho H F1 rho1 H1 ∧ HR K ca F1 rho1 ah1 H1 ∧ rel F1 rho1 H1 a b ∧ P F1 rho1 H1 a ah1
theorem OutG.bind {f : α → AH → R γ} (h : OutG rel2 K ca F rho H Q2 E (r.bind f)) (sub : ∀ a ∈ rho, a ∈ F) :
    OutG rel K ca F rho H (Nxt rel K ca F rho H fun F1 rho1 H1 a ah1 => OutG rel2 K ca F1 rho1 H1 Q2 E (f a ah1)) E r := by
  cases r with
  | ok a ah => exact fun F' rho' H' b e R x => ⟨F', rho', ah, a, e, R, x, h.ext e sub⟩
  | exc e ah => exact h
  | bad => exact h
theorem OutG.nox {r : R D} {Q : VK} {E : XK} (h : OutG (RelD K ca) K ca F rho H Q E r.nox) : OutV K ca F rho H Q r := by
  cases r with
  | ok a ah => exact h
  | exc e ah => exact (show False from h).elim
  | bad => exact (show False from h).elim
end

theorem bnd_ok {α β : Type} {a : α} {ah : AH} {f : α → AH → R β} : R.bind (.ok a ah) f = f a ah := rfl
theorem bnd_exc {α β : Type} {e : Ex} {ah : AH} {f : α → AH → R β} : R.bind (.exc e ah) f = .exc e ah := rfl
theorem bnd_bad {α β : Type} {f : α → AH → R β} : R.bind .bad f = .bad := rfl
theorem ok_inj {α : Type} {a b : α} {ah bh : AH} : (R.ok a ah = R.ok b bh) = (a = b ∧ ah = bh) := by simp
def isNon : D → Bool
  | .non => true
  | _ => false
def upE (K : PySem.W.Frag) (ca : CA) (W : WX) (m : Env1 → AH → R D) : TE := fun σ H Q =>
  ∃ F rho env ah, HR K ca F rho ah H ∧ ER K ca F rho H env σ ∧ OutG (RelD K ca) K ca F rho H Q (fun c d H' => W c d σ H') (m env ah)
def upA (K : PySem.W.Frag) (ca : CA) (W : WX) (m : Env1 → AH → R (List D)) : TA := fun σ H Q =>
  ∃ F rho env ah, HR K ca F rho ah H ∧ ER K ca F rho H env σ ∧ OutG (RelDs K ca) K ca F rho H Q (fun c d H' => W c d σ H') (m env ah)
def relB (_ _ : List Addr) (_ : Hp) (a b : Bool) : Prop := a = b
def upT (K : PySem.W.Frag) (ca : CA) (W : WX) (m : Env1 → AH → R Bool) : TT := fun σ H Q =>
  ∃ F rho env ah, HR K ca F rho ah H ∧ ER K ca F rho H env σ ∧ OutG relB K ca F rho H Q (fun c d H' => W c d σ H') (m env ah)

theorem imE {X : Cx} {e : Expr} {t t' : TE} (p : PE X e t) (h : ∀ σ H Q, t' σ H Q → t σ H Q) : PE X e t' := ⟨fun pins s σ H Q I hw => p.run pins s σ H Q I (h σ H Q hw)⟩
theorem imT {X : Cx} {e : Expr} {t t' : TT} (p : PT X e t) (h : ∀ σ H Q, t' σ H Q → t σ H Q) : PT X e t' := ⟨fun pins s σ H Q I hw => p.run pins s σ H Q I (h σ H Q hw)⟩
theorem imW {X : Cx} {e : Expr} {t t' : TT} (p : PW X e t) (h : ∀ σ H Q, t' σ H Q → t σ H Q) : PW X e t' := ⟨fun wh pins s σ H Q I hw => p.run wh pins s σ H Q I (h σ H Q hw)⟩
theorem imA {X : Cx} {e : List Expr} {t t' : TA} (p : PA X e t) (h : ∀ σ H Q, t' σ H Q → t σ H Q) : PA X e t' := ⟨fun pos pins s σ H Q I hw => p.run pos pins s σ H Q I (h σ H Q hw)⟩

section
variable {X : Cx} {ca : CA} {W : WX} {G : Cfg} {cx : Option Ex} {a b c : Expr} {ma mb mc : Env1 → AH → R D} {pos : Pos}

/-! ### names, constants -/
theorem e_var {x : Str} {i : Nat} (hN : X.N[i]? = some x) (hv : Vis X.env.scope x) (hd : (x == ("__debug__" : Str)) = false) (hcd : (x == ("__classdict__" : Str)) = false) : PE X (.Name x pos) (upE X.K ca W (evE G cx (.var i))) := by
  refine imE (pe_var hN hv hd hcd) fun σ H Q ⟨F, rho, env, ah, R, er, h⟩ => ?_
  simp only [evE] at h
  split at h
  · rename_i d hd
    obtain ⟨v, h1, h2⟩ := er.2.1 i d hd
    exact ⟨v, h1, h _ _ _ _ (Ext.refl _ _ _) R h2⟩
  · exact (show False from h).elim
theorem e_con {k : Const} {v : V} {d : D} {j : Nat} (hp : PE X (.Constant k j pos) (tC v)) (r : ∀ F rho H, RelD X.K ca F rho H d v) : PE X (.Constant k j pos) (upE X.K ca W (evE G cx (.con d))) := by
  refine imE hp fun σ H Q ⟨F, rho, env, ah, R, er, h⟩ => ?_
  exact h _ _ _ _ (Ext.refl _ _ _) R (r F rho H)
theorem e_glob {x : Str} {v : V} {u : Value} {g : Nat} (hg : Gl X x) (hm : X.mg x = some u) (rv : RelV v u) (hd : (x == ("__debug__" : Str)) = false) (r : ∀ F rho H, RelD X.K ca F rho H (G.gl g) v) : PE X (.Name x pos) (upE X.K ca W (evE G cx (.glob g))) := by
  refine imE (pe_glob hg hm rv hd) fun σ H Q ⟨F, rho, env, ah, R, er, h⟩ => ?_
  exact h _ _ _ _ (Ext.refl _ _ _) R (r F rho H)

/-! ### argument lists, displays -/
theorem a_nil : PA X [] (upA X.K ca W (evEs G cx .nil)) := by
  refine imA pa_nil fun σ H Q ⟨F, rho, env, ah, R, er, h⟩ => ?_
  exact h _ _ _ _ (Ext.refl _ _ _) R RelDs.nil
theorem a_cons {es : List Expr} {c : CE} {cs : CEs} (ha : PE X a (upE X.K ca W (evE G cx c))) (hr : PA X es (upA X.K ca W (evEs G cx cs))) (hs : starEach (a :: es) X.env = (false, eval a X.env) :: starEach es X.env) :
    PA X (a :: es) (upA X.K ca W (evEs G cx (.cons c cs))) := by
  refine imA (pa_cons ha hr hs) fun σ H Q ⟨F, rho, env, ah, R, er, h⟩ => ?_
  simp only [evEs] at h
  refine ⟨F, rho, env, ah, R, er, (h.bind R.sub).mono fun x H1 ⟨F1, rho1, ah1, d, e1, R1, rx, h1⟩ => ?_⟩
  have er1 := er.keep R.sub R.mu e1
  refine ⟨F1, rho1, env, ah1, R1, er1, (h1.bind R1.sub).mono fun xs H2 ⟨F2, rho2, ah2, ds, e2, R2, rxs, h2⟩ => ?_⟩
  exact h2 _ _ _ _ (Ext.refl _ _ _) R2 (RelDs.cons (rx.keep R1.sub R1.mu e2 _ _) rxs)
theorem e_tup {es : List Expr} {cs : CEs} {k : Nat} (h : PA X es (upA X.K ca W (evEs G cx cs))) : PE X (.Tuple es k pos) (upE X.K ca W (evE G cx (.tup cs))) := by
  refine imE (pe_tup h) fun σ H Q ⟨F, rho, env, ah, R, er, h⟩ => ?_
  simp only [evE] at h
  refine ⟨F, rho, env, ah, R, er, (h.bind R.sub).mono fun vs H1 ⟨F1, rho1, ah1, ds, e1, R1, rx, h1⟩ => ?_⟩
  dsimp only at h1
  split at h1
  · rename_i z
    refine ⟨by rw [← rx.length, SZ_eq]; exact z, ?_⟩
    exact OutV.tup (ah := ah1) (show OutV X.K ca F1 rho1 H1 Q (.ok (.tup ds) ah1) from h1) R1 rx (by rw [SZ_eq]; exact z)
  · exact (show False from h1).elim
theorem e_lst {es : List Expr} {cs : CEs} {m : Bool} (h : PA X es (upA X.K ca W (evEs G cx cs))) : PE X (.List es pos) (upE X.K ca W (evE G cx (.lst m cs))) := by
  refine imE (pe_lst h) fun σ H Q ⟨F, rho, env, ah, R, er, h⟩ => ?_
  simp only [evE] at h
  refine ⟨F, rho, env, ah, R, er, (h.bind R.sub).mono fun vs H1 ⟨F1, rho1, ah1, ds, e1, R1, rx, h1⟩ => ?_⟩
  dsimp only at h1
  split at h1
  · rename_i z
    refine ⟨by rw [← rx.length, SZ_eq]; exact z, ?_⟩
    refine OutV.mkL (m := m) (ah := ah1) (ds := ds) ?_ R1 rx (by rw [SZ_eq]; exact z)
    unfold mkL at h1 ⊢
    split at h1
    · rename_i q; rw [if_pos q]; exact h1
    · rename_i q; rw [if_neg q]; exact h1
  · exact (show False from h1).elim

/-! ### strict operations -/
/-- two operands one after the other -/
theorem two {g : D → D → AH → R D} {σ : L2.St} {H : Hp} {Q : VK} (h : upE X.K ca W (fun env ah => (ma env ah).bind fun d ah1 => (mb env ah1).bind fun e ah2 => (g d e ah2).nox) σ H Q) :
    upE X.K ca W ma σ H fun x H1 => upE X.K ca W mb σ H1 fun y H2 => r2 X.K ca g x y H2 Q := by
  obtain ⟨F, rho, env, ah, R, er, h⟩ := h
  refine ⟨F, rho, env, ah, R, er, (h.bind R.sub).mono fun x H1 ⟨F1, rho1, ah1, d, e1, R1, rx, h1⟩ => ?_⟩
  refine ⟨F1, rho1, env, ah1, R1, er.keep R.sub R.mu e1, (h1.bind R1.sub).mono fun y H2 ⟨F2, rho2, ah2, e, e2, R2, ry, h2⟩ => ?_⟩
  exact ⟨F2, rho2, ah2, d, e, R2, rx.keep R1.sub R1.mu e2 _ _, ry, h2.nox⟩
theorem bind_bind {α β γ : Type} (r : R α) (f : α → AH → R β) (g : β → AH → R γ) : (r.bind f).bind g = r.bind fun x ah => (f x ah).bind g := by cases r <;> rfl
theorem ev_op2 {p : Prim} {c1 c2 : CE} {env : Env1} {ah : AH} : evE G cx (.op p (.cons c1 (.cons c2 .nil))) env ah = (evE G cx c1 env ah).bind fun d ah1 => (evE G cx c2 env ah1).bind fun e ah2 => (prim p [d, e] ah2).nox := by
  simp only [evE, evEs, bind_bind, R.bind_ok]
theorem ev_op1 {p : Prim} {c1 : CE} {env : Env1} {ah : AH} : evE G cx (.op p (.cons c1 .nil)) env ah = (evE G cx c1 env ah).bind fun d ah1 => (prim p [d] ah1).nox := by
  simp only [evE, evEs, bind_bind, R.bind_ok]
theorem ev_op3 {p : Prim} {c1 c2 c3 : CE} {env : Env1} {ah : AH} : evE G cx (.op p (.cons c1 (.cons c2 (.cons c3 .nil)))) env ah = (evE G cx c1 env ah).bind fun d ah1 => (evE G cx c2 env ah1).bind fun e ah2 => (evE G cx c3 env ah2).bind fun f ah3 => (prim p [d, e, f] ah3).nox := by
  simp only [evE, evEs, bind_bind, R.bind_ok]
theorem upE.congr {m m' : Env1 → AH → R D} (e : ∀ env ah, m env ah = m' env ah) {σ : L2.St} {H : Hp} {Q : VK} (h : upE X.K ca W m σ H Q) : upE X.K ca W m' σ H Q := by
  obtain ⟨F, rho, env, ah, R, er, h⟩ := h
  exact ⟨F, rho, env, ah, R, er, by rw [← e]; exact h⟩
theorem e_bin {op : Operator} {p : Prim} {c1 c2 : CE} (ho : OpR X (binaryOp op) (r2 X.K ca fun d e ah => prim p [d, e] ah)) (ha : PE X a (upE X.K ca W (evE G cx c1))) (hb : PE X b (upE X.K ca W (evE G cx c2))) :
    PE X (.BinOp a op b pos) (upE X.K ca W (evE G cx (.op p (.cons c1 (.cons c2 .nil))))) := by
  refine imE (pe_op ho ha hb) fun σ H Q h => ?_
  exact two (upE.congr (fun env ah => ev_op2) h)
theorem e_cmp {op : CmpOp} {p : Prim} {c1 c2 : CE} (ho : OpR X (compareOp op) (r2 X.K ca fun d e ah => prim p [d, e] ah)) (ha : PE X a (upE X.K ca W (evE G cx c1))) (hb : PE X b (upE X.K ca W (evE G cx c2))) (hm : behindInMarks op b = false) :
    PE X (.Compare a [op] [b] pos) (upE X.K ca W (evE G cx (.op p (.cons c1 (.cons c2 .nil))))) := by
  refine imE (pe_cmpR ho ha hb hm) fun σ H Q h => ?_
  exact two (upE.congr (fun env ah => ev_op2) h)
/-! ### tests -/
theorem toB_bl {F rho : List Addr} {H : Hp} {Q : Bool → Hp → Prop} {E : XK} {r : R D} (hz : ∀ z ah, r = .ok z ah → ∃ k, z = .bl k) (h : OutG relB X.K ca F rho H Q E (toB r)) :
    OutG (RelD X.K ca) X.K ca F rho H (fun x H' => ∃ k, x = .bl k ∧ Q k H') E r := by
  cases r with
  | exc e ah => exact h
  | bad => exact h
  | ok z ah =>
    obtain ⟨k, rfl⟩ := hz z ah rfl
    intro F' rho' H' v e R rv
    exact ⟨k, rel_bl rv, h F' rho' H' k e R rfl⟩
theorem tru_rel {F rho : List Addr} {H : Hp} {ah : AH} {d : D} {v : V} {k : Bool} (R : HR X.K ca F rho ah H) (r : RelD X.K ca F rho H d v) (e : truth ah d = some k) : TruV X.K v H k := by
  have seq : ∀ xs, seqOf ah d = some xs → k = !xs.isEmpty → TruV X.K v H k := fun xs q ek => by
    obtain ⟨a, vs, rfl, hs, hr, _⟩ := seq_items R q r
    have el : (!xs.isEmpty) = !vs.isEmpty := by
      have := hr.length
      cases xs <;> cases vs <;> simp at this ⊢
    rcases hs with hs | hs
    · exact .inl ⟨vs, hs, ek.trans el⟩
    · exact .inr (.inl ⟨vs, hs, ek.trans el⟩)
  have fin : ∀ (z : Option (List D)), seqOf ah d = z → (match z with | some xs => some (!xs.isEmpty) | none => none) = some k → TruV X.K v H k := fun z q ek => by
    cases z with
    | none => cases ek
    | some xs => exact seq xs q (Option.some.inj ek).symm
  cases d with
  | non => have e2 : v = .non := by simpa only [RelD] using r
           subst e2; simp only [truth, Option.some.injEq] at e; exact e.symm
  | bl b => have e2 := rel_bl r; subst e2; simp only [truth, Option.some.injEq] at e; exact e.symm
  | int i => have e2 := rel_int r; subst e2; simp only [truth, Option.some.injEq] at e; exact e.symm
  | str x =>
    obtain ⟨h1, e2⟩ := rel_str r
    subst e2
    simp only [truth, Option.some.injEq] at e
    refine ⟨by rw [str_len]; exact h1.1, ?_⟩
    rw [str_len, ← e]
    cases x <;> simp
    omega
  | tup xs => exact fin _ rfl e
  | lst xs => exact fin _ rfl e
  | ob c ns xs => exact fin _ rfl e
  | dct ks xs => exact fin _ rfl e
  | scr ns => exact fin _ rfl e
  | loc n => exact fin _ rfl e
theorem toB_tru {F rho : List Addr} {H : Hp} {Q : Bool → Hp → Prop} {E : XK} {r : R D} (h : OutG relB X.K ca F rho H Q E (toB r)) :
    OutG (RelD X.K ca) X.K ca F rho H (fun x H' => ∃ k, TruV X.K x H' k ∧ Q k H') E r := by
  cases r with
  | exc e ah => exact h
  | bad => exact h
  | ok z ah =>
    unfold toB at h
    rw [R.bind_ok] at h
    split at h
    · rename_i k q
      intro F' rho' H' v e R rv
      exact ⟨k, tru_rel R rv q, h F' rho' H' k e R rfl⟩
    · exact (show False from h).elim
/-- the answer is a bool -/
def IsB (g : D → D → AH → R D) : Prop := ∀ d e ah, (∃ k, g d e ah = okB k ah) ∨ g d e ah = .bad
theorem op2_bl {p : Prim} {c1 c2 : CE} (hb : IsB fun d e ah => prim p [d, e] ah) {env : Env1} {ah : AH} : ∀ z ah1, evE G cx (.op p (.cons c1 (.cons c2 .nil))) env ah = .ok z ah1 → ∃ k, z = .bl k := by
  intro z ah1 q
  rw [ev_op2] at q
  cases q1 : evE G cx c1 env ah with
  | exc _ _ => rw [q1] at q; simp at q
  | bad => rw [q1] at q; simp at q
  | ok d ah2 =>
    rw [q1, R.bind_ok] at q
    cases q2 : evE G cx c2 env ah2 with
    | exc _ _ => rw [q2] at q; simp at q
    | bad => rw [q2] at q; simp at q
    | ok e ah3 =>
      rw [q2, R.bind_ok] at q
      rcases hb d e ah3 with ⟨k, ek⟩ | ek <;> dsimp only at ek
      · rw [ek] at q; simp only [R.nox_ok, R.ok.injEq] at q; exact ⟨k, q.1.symm⟩
      · rw [ek] at q; simp at q
theorem t_cmp {op : CmpOp} {p : Prim} {c1 c2 : CE} (ho : OpR X (compareOp op) (r2 X.K ca fun d e ah => prim p [d, e] ah)) (hb' : IsB fun d e ah => prim p [d, e] ah) (ha : PE X a (upE X.K ca W (evE G cx c1))) (hb : PE X b (upE X.K ca W (evE G cx c2))) (hm : behindInMarks op b = false) :
    PT X (.Compare a [op] [b] pos) (upT X.K ca W fun env ah => toB (evE G cx (.op p (.cons c1 (.cons c2 .nil))) env ah)) := by
  refine imT (pt_cmpR ho ha hb hm) fun σ H Q ⟨F, rho, env, ah, R, er, h⟩ => ?_
  exact two (upE.congr (fun env ah => ev_op2) ⟨F, rho, env, ah, R, er, toB_bl (op2_bl hb') h⟩)
/-- any expression that is tested by its value's truth -/
theorem t_tru {c1 : CE} (ha : PE X a (upE X.K ca W (evE G cx c1))) (he : ∀ whole, isTrue a X.env whole = (do let v ← whole; standAt a.pos; holding [v] (truthy v))) : PT X a (upT X.K ca W fun env ah => toB (evE G cx c1 env ah)) := by
  refine imT (pt_truth ha he) fun σ H Q ⟨F, rho, env, ah, R, er, h⟩ => ?_
  exact ⟨F, rho, env, ah, R, er, toB_tru h⟩
/-- is None -/
theorem ev_isN (neg : Bool) {c1 : CE} {env : Env1} {ah : AH} : evE G cx (.op (if neg then .notN else .isN) (.cons c1 .nil)) env ah = (evE G cx c1 env ah).bind fun d ah1 => okB (neg != isNon d) ah1 := by
  rw [ev_op1]
  congr
  funext d ah1
  cases neg <;> cases d <;> rfl
theorem isN_dec {F rho : List Addr} {H : Hp} {d : D} {v : V} (r : RelD X.K ca F rho H d v) : isNon d = decide (v = .non) := by
  have := rel_non r
  cases d <;> (first | (simp only [true_iff] at this; rw [decide_eq_true this]; rfl) | (simp only [reduceCtorEq, false_iff] at this; rw [decide_eq_false this]; rfl))
theorem e_isN {c1 : CE} {j : Nat} {pos' : Pos} (ha : PE X a (upE X.K ca W (evE G cx c1))) : PE X (.Compare a [.Is] [.Constant .none j pos'] pos) (upE X.K ca W (evE G cx (.op .isN (.cons c1 .nil)))) := by
  refine imE (pe_cmp (pc_isN ha) rfl) fun σ H Q h => ?_
  obtain ⟨F, rho, env, ah, R, er, h⟩ := upE.congr (fun env ah => ev_isN false) h
  refine ⟨F, rho, env, ah, R, er, (h.bind R.sub).mono fun x H1 ⟨F1, rho1, ah1, d, e1, R1, rx, h1⟩ => ?_⟩
  dsimp only at h1
  rw [isN_dec rx] at h1
  have := OutV.b (show OutV X.K ca F1 rho1 H1 Q (okB _ ah1) from h1) R1
  simpa using this
theorem e_notN {c1 : CE} {j : Nat} {pos' : Pos} (ha : PE X a (upE X.K ca W (evE G cx c1))) : PE X (.Compare a [.IsNot] [.Constant .none j pos'] pos) (upE X.K ca W (evE G cx (.op .notN (.cons c1 .nil)))) := by
  refine imE (pe_cmp (pc_notN ha) rfl) fun σ H Q h => ?_
  obtain ⟨F, rho, env, ah, R, er, h⟩ := upE.congr (fun env ah => ev_isN true) h
  refine ⟨F, rho, env, ah, R, er, (h.bind R.sub).mono fun x H1 ⟨F1, rho1, ah1, d, e1, R1, rx, h1⟩ => ?_⟩
  dsimp only at h1
  rw [isN_dec rx] at h1
  have := OutV.b (show OutV X.K ca F1 rho1 H1 Q (okB _ ah1) from h1) R1
  simpa using this
theorem t_isN {c1 : CE} {j : Nat} {pos' : Pos} (ha : PE X a (upE X.K ca W (evE G cx c1))) : PT X (.Compare a [.Is] [.Constant .none j pos'] pos) (upT X.K ca W fun env ah => toB (evE G cx (.op .isN (.cons c1 .nil)) env ah)) := by
  refine imT (pt_cmp (pc_isN ha) rfl) fun σ H Q ⟨F, rho, env, ah, R, er, h⟩ => ?_
  have hb : ∀ z ah1, evE G cx (.op .isN (.cons c1 .nil)) env ah = .ok z ah1 → ∃ k, z = .bl k := fun z ah1 q => by
    rw [show evE G cx (.op .isN (.cons c1 .nil)) env ah = _ from ev_isN false] at q
    cases q1 : evE G cx c1 env ah with
    | exc _ _ => rw [q1] at q; simp at q
    | bad => rw [q1] at q; simp at q
    | ok d ah2 => rw [q1] at q; simp only [bnd_ok, ok_inj] at q; exact ⟨_, q.1.symm⟩
  have h0 : upE X.K ca W (evE G cx (.op (if false then .notN else .isN) (.cons c1 .nil))) σ H (fun x H' => ∃ k, x = .bl k ∧ Q k H') := ⟨F, rho, env, ah, R, er, toB_bl hb h⟩
  obtain ⟨F5, rho5, env5, ah5, R5, er5, h5⟩ := upE.congr (fun env ah => ev_isN false) h0
  refine ⟨F5, rho5, env5, ah5, R5, er5, (h5.bind (rel := RelD X.K ca) R5.sub).mono fun x H1 ⟨F1, rho1, ah1, d, e1, R1, rx, h1⟩ => ?_⟩
  dsimp only at h1
  rw [isN_dec rx] at h1
  obtain ⟨k, ek, q⟩ := OutV.b (show OutV X.K ca F1 rho1 H1 _ (okB _ ah1) from h1) R1
  have ek' : (false != decide (x = V.non)) = k := V.bl.inj ek
  have e6 : k = decide (x = V.non) := by rw [← ek']; cases decide (x = V.non) <;> rfl
  rw [e6] at q
  exact ⟨_, rfl, q⟩
theorem t_notN {c1 : CE} {j : Nat} {pos' : Pos} (ha : PE X a (upE X.K ca W (evE G cx c1))) : PT X (.Compare a [.IsNot] [.Constant .none j pos'] pos) (upT X.K ca W fun env ah => toB (evE G cx (.op .notN (.cons c1 .nil)) env ah)) := by
  refine imT (pt_cmp (pc_notN ha) rfl) fun σ H Q ⟨F, rho, env, ah, R, er, h⟩ => ?_
  have hb : ∀ z ah1, evE G cx (.op .notN (.cons c1 .nil)) env ah = .ok z ah1 → ∃ k, z = .bl k := fun z ah1 q => by
    rw [show evE G cx (.op .notN (.cons c1 .nil)) env ah = _ from ev_isN true] at q
    cases q1 : evE G cx c1 env ah with
    | exc _ _ => rw [q1] at q; simp at q
    | bad => rw [q1] at q; simp at q
    | ok d ah2 => rw [q1] at q; simp only [bnd_ok, ok_inj] at q; exact ⟨_, q.1.symm⟩
  have h0 : upE X.K ca W (evE G cx (.op (if true then .notN else .isN) (.cons c1 .nil))) σ H (fun x H' => ∃ k, x = .bl k ∧ Q k H') := ⟨F, rho, env, ah, R, er, toB_bl hb h⟩
  obtain ⟨F5, rho5, env5, ah5, R5, er5, h5⟩ := upE.congr (fun env ah => ev_isN true) h0
  refine ⟨F5, rho5, env5, ah5, R5, er5, (h5.bind (rel := RelD X.K ca) R5.sub).mono fun x H1 ⟨F1, rho1, ah1, d, e1, R1, rx, h1⟩ => ?_⟩
  dsimp only at h1
  rw [isN_dec rx] at h1
  obtain ⟨k, ek, q⟩ := OutV.b (show OutV X.K ca F1 rho1 H1 _ (okB _ ah1) from h1) R1
  have ek' : (true != decide (x = V.non)) = k := V.bl.inj ek
  have e6 : k = !decide (x = V.non) := by rw [← ek']; cases decide (x = V.non) <;> rfl
  rw [e6] at q
  exact ⟨_, rfl, q⟩

/-! ### not, and, or, if else -/
/-- and what is behind it -/
theorem toB_bind {r : R D} {f : D → AH → R D} : toB (r.bind f) = r.bind fun d ah => toB (f d ah) := by cases r <;> rfl
theorem t_not {c1 : CE} (ha : PT X a (upT X.K ca W fun env ah => toB (evE G cx c1 env ah))) : PT X (.UnaryOp .Not a pos) (upT X.K ca W fun env ah => toB (evE G cx (.not c1) env ah)) := by
  refine imT (pt_not ha) fun σ H Q ⟨F, rho, env, ah, R0, er, h⟩ => ?_
  refine ⟨F, rho, env, ah, R0, er, ?_⟩
  show OutG _ _ _ _ _ _ _ _ (toB (evE G cx c1 env ah))
  simp only [evE] at h
  rw [toB_bind] at h
  unfold toB at h ⊢
  cases q : evE G cx c1 env ah with
  | exc e ah1 => rw [q] at h; exact h
  | bad => rw [q] at h; exact h
  | ok d ah1 =>
    rw [q, bnd_ok] at h
    rw [bnd_ok]
    unfold notK at h
    cases q2 : truth ah1 d with
    | none => rw [q2] at h; exact h
    | some k =>
      rw [q2] at h
      intro F' rho' H' b e R' eb
      have eb' : k = b := eb
      subst eb'
      exact h F' rho' H' (!k) e R' rfl
theorem e_not {c1 : CE} (ha : PE X a (upE X.K ca W (evE G cx c1))) : PE X (.UnaryOp .Not a pos) (upE X.K ca W (evE G cx (.not c1))) := by
  refine ⟨fun pins s σ H Q I ⟨F, rho, env, ah, R0, er, h⟩ => ?_⟩
  have h' : OutG (RelD X.K ca) X.K ca F rho H (fun x H' => ∃ k, TruV X.K x H' k ∧ Q (.bl (!k)) H') (fun c d H' => W c d σ H') (evE G cx c1 env ah) := by
    simp only [evE] at h
    cases q : evE G cx c1 env ah with
    | exc e ah1 => rw [q] at h; exact h
    | bad => rw [q] at h; exact h
    | ok d ah1 =>
      rw [q, bnd_ok] at h
      unfold notK at h
      cases q2 : truth ah1 d with
      | none => rw [q2] at h; exact (show False from h).elim
      | some k =>
        rw [q2] at h
        intro F' rho' H' b e R' rb
        exact ⟨k, tru_rel R' rb q2, h F' rho' H' _ e R' (by simp only [RelD])⟩
  refine UnaryOp_ (thn (ha.run pins s σ H _ I ⟨F, rho, env, ah, R0, er, h'⟩) fun v s1 ⟨x, H1, I1, r1, k, tv, q⟩ => ?_)
  exact not_of (thn (tru_ok pins s1 σ H1 x v (fun b H' => Q (.bl (!b)) H') I1 r1 ⟨k, tv, q⟩) fun b s2 ⟨H2, I2, q2⟩ => ⟨.bl (!b), H2, I2, rfl, q2⟩)
/-- a value that is no bool ends nothing -/
theorem and_ev {c1 c2 : CE} {env : Env1} {ah : AH} : evE G cx (.and c1 c2) env ah = (evE G cx c1 env ah).bind fun d ah1 => andK (fun ah2 => evE G cx c2 env ah2) d ah1 := by simp only [evE]
theorem or_ev {c1 c2 : CE} {env : Env1} {ah : AH} : evE G cx (.or c1 c2) env ah = (evE G cx c1 env ah).bind fun d ah1 => orK (fun ah2 => evE G cx c2 env ah2) d ah1 := by simp only [evE]
theorem w_and1 {c1 : CE} (ha : PT X a (upT X.K ca W fun env ah => toB (evE G cx c1 env ah))) : PW X (.BoolOp .And [a] pos) (upT X.K ca W fun env ah => toB (evE G cx c1 env ah)) := pw_and1 ha
theorem w_or1 {c1 : CE} (ha : PT X a (upT X.K ca W fun env ah => toB (evE G cx c1 env ah))) : PW X (.BoolOp .Or [a] pos) (upT X.K ca W fun env ah => toB (evE G cx c1 env ah)) := pw_or1 ha
theorem w_and {c1 c2 : CE} {rest : List Expr} (ha : PT X a (upT X.K ca W fun env ah => toB (evE G cx c1 env ah))) (hb : PW X (.BoolOp .And (b :: rest) pos) (upT X.K ca W fun env ah => toB (evE G cx c2 env ah))) :
    PW X (.BoolOp .And (a :: b :: rest) pos) (upT X.K ca W fun env ah => toB (evE G cx (.and c1 c2) env ah)) := by
  refine imW (pw_and ha hb) fun σ H Q ⟨F, rho, env, ah, R0, er, h⟩ => ?_
  refine ⟨F, rho, env, ah, R0, er, ?_⟩
  show OutG _ _ _ _ _ _ _ _ (toB (evE G cx c1 env ah))
  dsimp only at h
  rw [and_ev, toB_bind] at h
  cases q : evE G cx c1 env ah with
  | exc e ah1 => rw [q] at h; exact h
  | bad => rw [q] at h; exact h
  | ok d ah1 =>
    rw [q, bnd_ok] at h
    cases d with
    | bl k =>
      intro F' rho' H' b' e R' eb
      have eb' : k = b' := eb
      subst eb'
      cases k with
      | true =>
        rw [if_pos rfl]
        exact ⟨F', rho', env, ah1, R', er.keep R0.sub R0.mu e, OutG.ext h e R0.sub⟩
      | false =>
        rw [if_neg Bool.false_ne_true]
        exact h F' rho' H' false e R' rfl
    | _ => exact (show False from h).elim
theorem w_or {c1 c2 : CE} {rest : List Expr} (ha : PT X a (upT X.K ca W fun env ah => toB (evE G cx c1 env ah))) (hb : PW X (.BoolOp .Or (b :: rest) pos) (upT X.K ca W fun env ah => toB (evE G cx c2 env ah))) :
    PW X (.BoolOp .Or (a :: b :: rest) pos) (upT X.K ca W fun env ah => toB (evE G cx (.or c1 c2) env ah)) := by
  refine imW (pw_or ha hb) fun σ H Q ⟨F, rho, env, ah, R0, er, h⟩ => ?_
  refine ⟨F, rho, env, ah, R0, er, ?_⟩
  show OutG _ _ _ _ _ _ _ _ (toB (evE G cx c1 env ah))
  dsimp only at h
  rw [or_ev, toB_bind] at h
  cases q : evE G cx c1 env ah with
  | exc e ah1 => rw [q] at h; exact h
  | bad => rw [q] at h; exact h
  | ok d ah1 =>
    rw [q, bnd_ok] at h
    cases d with
    | bl k =>
      intro F' rho' H' b' e R' eb
      have eb' : k = b' := eb
      subst eb'
      cases k with
      | true =>
        rw [if_pos rfl]
        exact h F' rho' H' true e R' rfl
      | false =>
        rw [if_neg Bool.false_ne_true]
        exact ⟨F', rho', env, ah1, R', er.keep R0.sub R0.mu e, OutG.ext h e R0.sub⟩
    | _ => exact (show False from h).elim
theorem e_and {c1 c2 : CE} {rest : List Expr} (ha : PE X a (upE X.K ca W (evE G cx c1))) (hb : PE X (.BoolOp .And (b :: rest) pos) (upE X.K ca W (evE G cx c2))) :
    PE X (.BoolOp .And (a :: b :: rest) pos) (upE X.K ca W (evE G cx (.and c1 c2))) := by
  refine imE (pe_and ha hb) fun σ H Q ⟨F, rho, env, ah, R0, er, h⟩ => ?_
  refine ⟨F, rho, env, ah, R0, er, ?_⟩
  rw [and_ev] at h
  cases q : evE G cx c1 env ah with
  | exc e ah1 => rw [q] at h; exact h
  | bad => rw [q] at h; exact h
  | ok d ah1 =>
    rw [q, bnd_ok] at h
    cases d with
    | bl k =>
      intro F' rho' H' v e R' rv
      refine ⟨k, rel_bl rv, ?_⟩
      cases k with
      | true =>
        rw [if_pos rfl]
        exact ⟨F', rho', env, ah1, R', er.keep R0.sub R0.mu e, OutG.ext h e R0.sub⟩
      | false =>
        rw [if_neg Bool.false_ne_true]
        exact h F' rho' H' _ e R' (by simp only [RelD])
    | _ => exact (show False from h).elim
theorem e_or {c1 c2 : CE} {rest : List Expr} (ha : PE X a (upE X.K ca W (evE G cx c1))) (hb : PE X (.BoolOp .Or (b :: rest) pos) (upE X.K ca W (evE G cx c2))) :
    PE X (.BoolOp .Or (a :: b :: rest) pos) (upE X.K ca W (evE G cx (.or c1 c2))) := by
  refine imE (pe_or ha hb) fun σ H Q ⟨F, rho, env, ah, R0, er, h⟩ => ?_
  refine ⟨F, rho, env, ah, R0, er, ?_⟩
  rw [or_ev] at h
  cases q : evE G cx c1 env ah with
  | exc e ah1 => rw [q] at h; exact h
  | bad => rw [q] at h; exact h
  | ok d ah1 =>
    rw [q, bnd_ok] at h
    cases d with
    | bl k =>
      intro F' rho' H' v e R' rv
      refine ⟨k, rel_bl rv, ?_⟩
      cases k with
      | true =>
        rw [if_pos rfl]
        exact h F' rho' H' _ e R' (by simp only [RelD])
      | false =>
        rw [if_neg Bool.false_ne_true]
        exact ⟨F', rho', env, ah1, R', er.keep R0.sub R0.mu e, OutG.ext h e R0.sub⟩
    | _ => exact (show False from h).elim
theorem e_ite {c1 c2 c3 : CE} (hc : PT X c (upT X.K ca W fun env ah => toB (evE G cx c1 env ah))) (ha : PE X a (upE X.K ca W (evE G cx c2))) (hb : PE X b (upE X.K ca W (evE G cx c3))) :
    PE X (.IfExp c a b pos) (upE X.K ca W (evE G cx (.ite c1 c2 c3))) := by
  refine imE (pe_ifExp hc ha hb) fun σ H Q ⟨F, rho, env, ah, R0, er, h⟩ => ?_
  simp only [evE] at h
  refine ⟨F, rho, env, ah, R0, er, (h.bind (rel := relB) R0.sub).mono fun k H1 ⟨F1, rho1, ah1, k', e1, R1, ek, h1⟩ => ?_⟩
  have ek' : k' = k := ek
  subst ek'
  have er1 := er.keep R0.sub R0.mu e1
  dsimp only at h1
  cases k' with
  | true => rw [if_pos rfl] at h1 ⊢; exact ⟨F1, rho1, env, ah1, R1, er1, h1⟩
  | false => rw [if_neg Bool.false_ne_true] at h1 ⊢; exact ⟨F1, rho1, env, ah1, R1, er1, h1⟩
/-- a op b op' c -/
theorem e_chain {op op' : CmpOp} {p p' : Prim} {c1 c2 c3 : CE} (ho : OpR X (compareOp op) (r2 X.K ca fun d e ah => prim p [d, e] ah)) (ho' : OpR X (compareOp op') (r2 X.K ca fun d e ah => prim p' [d, e] ah))
    (ha : PE X a (upE X.K ca W (evE G cx c1))) (hb : PE X b (upE X.K ca W (evE G cx c2))) (hc : PE X c (upE X.K ca W (evE G cx c3))) (hm : lastMarks [op, op'] [b, c] = false) :
    PE X (.Compare a [op, op'] [b, c] pos) (upE X.K ca W (evE G cx (.chain p p' c1 c2 c3))) := by
  refine imE (pe_chain ho ho' ha hb hc hm) fun σ H Q ⟨F, rho, env, ah, R0, er, h⟩ => ?_
  simp only [evE] at h
  refine ⟨F, rho, env, ah, R0, er, (h.bind R0.sub).mono fun x H1 ⟨F1, rho1, ah1, d, e1, R1, rx, h1⟩ => ?_⟩
  have er1 := er.keep R0.sub R0.mu e1
  refine ⟨F1, rho1, env, ah1, R1, er1, (h1.bind R1.sub).mono fun y H2 ⟨F2, rho2, ah2, e, e2, R2, ry, h2⟩ => ?_⟩
  have er2 := er1.keep R1.sub R1.mu e2
  refine ⟨F2, rho2, ah2, d, e, R2, rx.keep R1.sub R1.mu e2 _ _, ry, ?_⟩
  dsimp only at h2
  cases q : prim p [d, e] ah2 with
  | exc _ _ => rw [q] at h2; exact (show False from h2).elim
  | bad => rw [q] at h2; exact (show False from h2).elim
  | ok z ah3 =>
    rw [q] at h2
    show OutV _ _ _ _ _ _ (prim p [d, e] ah2)
    rw [q]
    intro F3 rho3 H3 v e3 R3 rv
    have h3 := OutG.ext h2 e3 R2.sub
    rw [show (M.R.ok z ah3).nox = M.R.ok z ah3 from rfl, bnd_ok] at h3
    cases z with
    | bl k =>
      refine ⟨k, rel_bl rv, ?_⟩
      cases k with
      | true =>
        rw [if_pos rfl]
        refine ⟨F3, rho3, env, ah3, R3, er2.keep R2.sub R2.mu e3, (h3.bind R3.sub).mono fun w H4 ⟨F4, rho4, ah4, f, e4, R4, rw', h4⟩ => ?_⟩
        exact ⟨F4, rho4, ah4, e, f, R4, (ry.keep R2.sub R2.mu e3 _ _).keep R3.sub R3.mu e4 _ _, rw', h4.nox⟩
      | false =>
        rw [if_neg Bool.false_ne_true]
        exact h3 F3 rho3 H3 _ (Ext.refl _ _ _) R3 (by simp only [RelD])
    | _ => exact (show False from h3).elim
end
end M
end

section
set_option Elab.async false
set_option linter.all false
set_option maxRecDepth 100000
set_option maxHeartbeats 4000000
/-! The machine, 7: subscripts, slices, calls. -/
namespace M
open PySem PySem.Spec PyProof.Rows L2
section
variable {X : Cx} {ca : CA} {W : WX} {G : Cfg} {cx : Option Ex} {a b c : Expr} {pos : Pos}
theorem e_idx {c1 c2 : CE} (ha : PE X a (upE X.K ca W (evE G cx c1))) (hb : PE X b (upE X.K ca W (evE G cx c2))) (hs : PlainIx b) : PE X (.Subscript a b pos) (upE X.K ca W (evE G cx (.op .idx (.cons c1 (.cons c2 .nil))))) := by
  refine imE (pe_ix (ix_D (ca := ca)) ha hb hs) fun σ H Q h => ?_
  exact two (g := pIdx) (upE.congr (fun env ah => ev_op2) h)

/-! ### slices -/
def relP (_ _ : List Addr) (_ : Hp) (a b : Option Int) : Prop := a = b
def upO (K : PySem.W.Frag) (ca : CA) (W : WX) (m : Env1 → AH → R (Option Int)) : TO := fun σ H Q =>
  ∃ F rho env ah, HR K ca F rho ah H ∧ ER K ca F rho H env σ ∧ OutG relP K ca F rho H Q (fun c d H' => W c d σ H') (m env ah)
theorem imO {X : Cx} {e : Option Expr} {t t' : TO} (p : PO X e t) (h : ∀ σ H Q, t' σ H Q → t σ H Q) : PO X e t' := ⟨fun pins s σ H Q I hw => p.run pins s σ H Q I (h σ H Q hw)⟩
theorem o_none : PO X none (upO X.K ca W fun env ah => (evE G cx (.con .non) env ah).bind partK) := by
  refine imO po_none fun σ H Q ⟨F, rho, env, ah, R0, er, h⟩ => ?_
  simp only [evE, bnd_ok, partK, partOf] at h
  exact h _ _ _ _ (Ext.refl _ _ _) R0 rfl
theorem o_some {c1 : CE} (ha : PE X a (upE X.K ca W (evE G cx c1))) : PO X (some a) (upO X.K ca W fun env ah => (evE G cx c1 env ah).bind partK) := by
  refine ⟨fun pins s σ H Q I ⟨F, rho, env, ah, R0, er, h⟩ => ?_⟩
  rw [evalPart_some]
  refine thn (ha.run pins s σ H _ I ⟨F, rho, env, ah, R0, er, (h.bind (rel := RelD X.K ca) R0.sub)⟩) fun u s1 ⟨x, H1, I1, r1, F1, rho1, ah1, d, e1, R1, rx, h1⟩ => ?_
  unfold partK partOf at h1
  cases d with
  | non =>
    have ex : x = .non := by simpa only [RelD] using rx
    subst ex
    cases r1
    exact ⟨none, H1, I1, .none, h1 _ _ _ _ (Ext.refl _ _ _) R1 rfl⟩
  | int i =>
    have ex := rel_int rx
    subst ex
    obtain ⟨t, rfl⟩ := r1
    exact ⟨some i, H1, I1, .int i t, h1 _ _ _ _ (Ext.refl _ _ _) R1 rfl⟩
  | _ => exact (show False from h1).elim
theorem e_slice {lo hi : Option Expr} {c1 cl ch : CE} {m : Bool} {p2 : Pos} (ha : PE X a (upE X.K ca W (evE G cx c1))) (hl : PO X lo (upO X.K ca W fun env ah => (evE G cx cl env ah).bind partK)) (hh : PO X hi (upO X.K ca W fun env ah => (evE G cx ch env ah).bind partK)) :
    PE X (.Subscript a (.Slice lo hi none p2) pos) (upE X.K ca W (evE G cx (.slice m c1 cl ch))) := by
  refine imE (pe_slice (sl_D (ca := ca) m) ha hl hh) fun σ H Q ⟨F, rho, env, ah, R0, er, h⟩ => ?_
  simp only [evE] at h
  refine ⟨F, rho, env, ah, R0, er, (h.bind R0.sub).mono fun x H1 ⟨F1, rho1, ah1, d, e1, R1, rx, h1⟩ => ?_⟩
  have er1 := er.keep R0.sub R0.mu e1
  refine ⟨F1, rho1, env, ah1, R1, er1, (OutG.bind (rel := relP) h1 R1.sub).mono fun l H2 ⟨F2, rho2, ah2, l', e2, R2, rl, h2⟩ => ?_⟩
  have er2 := er1.keep R1.sub R1.mu e2
  refine ⟨F2, rho2, env, ah2, R2, er2, (OutG.bind (rel := relP) h2 R2.sub).mono fun k H3 ⟨F3, rho3, ah3, k', e3, R3, rk, h3⟩ => ?_⟩
  have el : l' = l := rl
  have ek : k' = k := rk
  subst el ek
  exact ⟨F3, rho3, ah3, d, R3, (rx.keep R1.sub R1.mu e2 _ _).keep R2.sub R2.mu e3 _ _, OutG.nox h3⟩

/-! ### built-in functions -/
theorem cb_up {g : List D → AH → R D} {cs : CEs} {σ : L2.St} {H : Hp} {Q : VK} (h : upE X.K ca W (fun env ah => (evEs G cx cs env ah).bind fun ds ah1 => (g ds ah1).nox) σ H Q) :
    upA X.K ca W (evEs G cx cs) σ H fun vs H1 => rN X.K ca g vs H1 Q := by
  obtain ⟨F, rho, env, ah, R0, er, h⟩ := h
  refine ⟨F, rho, env, ah, R0, er, (h.bind R0.sub).mono fun vs H1 ⟨F1, rho1, ah1, ds, e1, R1, rx, h1⟩ => ?_⟩
  exact ⟨F1, rho1, ah1, ds, R1, rx, OutG.nox h1⟩
theorem e_callB {id : String} {p : Prim} {cs : CEs} {x : Str} {np : Pos} {e : Expr} {es : List Expr} (hc : CallR X (.builtin id) (rN X.K ca fun ds ah => prim p ds ah)) (hg : Gl X x) (hm : X.mg x = none) (hv : bootBuiltins x = some (.builtin id))
    (ha : PA X (e :: es) (upA X.K ca W (evEs G cx cs))) (hn : x ≠ "__name__") (hdb : (x == ("__debug__" : Str)) = false) (he : starEach (e :: es) X.env = (false, eval e X.env) :: starEach es X.env) (hpl : (backTo pos (starEach es X.env)).any (·.1) = false) :
    PE X (.Call (.Name x np) (e :: es) [] pos) (upE X.K ca W (evE G cx (.op p cs))) := by
  refine imE (pe_callB hc hg hm hv ha hn hdb he hpl) fun σ H Q h => ?_
  exact cb_up (upE.congr (fun env ah => by simp only [evE]) h)
theorem e_callTy {id : String} {p : Prim} {cs : CEs} {x : Str} {np : Pos} {e : Expr} {es : List Expr} (hc : CallR X (.type id) (rN X.K ca fun ds ah => prim p ds ah)) (hg : Gl X x) (hm : X.mg x = none) (hv : bootBuiltins x = some (.type id))
    (ha : PA X (e :: es) (upA X.K ca W (evEs G cx cs))) (hn : x ≠ "__name__") (hdb : (x == ("__debug__" : Str)) = false) (he : starEach (e :: es) X.env = (false, eval e X.env) :: starEach es X.env) (hpl : (backTo pos (starEach es X.env)).any (·.1) = false) :
    PE X (.Call (.Name x np) (e :: es) [] pos) (upE X.K ca W (evE G cx (.op p cs))) := by
  refine imE (pe_callTy hc hg hm hv ha hn hdb he hpl) fun σ H Q h => ?_
  exact cb_up (upE.congr (fun env ah => by simp only [evE]) h)
/-- isinstance(e, T) -/
theorem e_isi {t : Ty} {c1 : CE} {x ty : Str} {np tp : Pos} {e : Expr} (hg : Gl X x) (hm : X.mg x = none) (hx : x = "isinstance") (hgt : Gl X ty) (hmt : X.mg ty = none) (hvt : bootBuiltins ty = some (.type (tyN t)))
    (ha : PE X e (upE X.K ca W (evE G cx c1))) (hn : ty ≠ "__name__") (hdb : (ty == ("__debug__" : Str)) = false) (he : starEach [e, .Name ty tp] X.env = (false, eval e X.env) :: starEach [.Name ty tp] X.env) :
    PE X (.Call (.Name x np) [e, .Name ty tp] [] pos) (upE X.K ca W (evE G cx (.op (.isinst t) (.cons c1 .nil)))) := by
  subst hx
  refine ⟨fun pins s σ H Q I h => ?_⟩
  obtain ⟨F, rho, env, ah, R0, er, h⟩ := upE.congr (fun env ah => ev_op1) h
  refine wpAny_Call_Name_kw (ld_blt I hg hm (show bootBuiltins "isinstance" = some (.builtin "isinstance") by decide +kernel) ?_ (by decide) (by decide))
  have p2 : PE X (.Name ty tp) (tC (.ty (tyN t))) := pe_bltn hgt hmt hvt rfl hn hdb
  refine PyProof.Rows.callWith_builtin1 (thn ((pa_cons ha (pa_cons p2 pa_nil) he).run pos pins s σ H (fun vs H1 => ∃ x1, vs = [x1, .ty (tyN t)] ∧ r1 X.K ca (fun d ah => prim (.isinst t) [d] ah) x1 H1 Q) I ⟨F, rho, env, ah, R0, er, (h.bind R0.sub).mono fun x1 H1 ⟨F1, rho1, ah1, d, e1, R1, rx, h1⟩ => ?_⟩) fun us s1 ⟨vs, H1, I1, rv, x1, ev, q⟩ => ?_) he rfl
  · exact ⟨x1, rfl, F1, rho1, ah1, d, R1, rx, OutG.nox h1⟩
  · subst ev
    exact call_isiD t I1 rv q

/-! ### methods -/
theorem isMT_ty {F rho : List Addr} {H : Hp} {ah : AH} {d : D} {v : V} {t : MT} (R0 : HR X.K ca F rho ah H) (r : RelD X.K ca F rho H d v) (h : isMT ah t d = true) : tyV X.K (match t with | .str => "str" | .list => "list" | .dict => "dict") v H := by
  cases t <;> cases d <;> simp only [isMT, Bool.false_eq_true] at h
  · obtain ⟨_, rfl⟩ := rel_str r; rfl
  · simp only [RelD] at r
    obtain ⟨_, a, vs, rfl, h2, _⟩ := r
    exact .inl ⟨rfl, vs, SqL.of h2⟩
  · rename_i n
    simp only [RelD] at r
    obtain ⟨a, rfl, ha⟩ := r
    split at h
    · rename_i xs q
      obtain ⟨_, vs, h3, _⟩ := R0.cells n _ a q ha
      exact .inl ⟨rfl, vs, SqL.of h3⟩
    · cases h
  · simp only [RelD] at r
    obtain ⟨a, vs, rfl, _, h2, _⟩ := r
    refine .inr (.inr (.inl ⟨rfl, ?_⟩))
    rcases h2 with ⟨_, _, _, h2⟩ | ⟨_, _, _, h2⟩
    · exact .inl ⟨_, h2⟩
    · exact .inr ⟨_, h2⟩
  · rename_i n
    simp only [RelD] at r
    obtain ⟨a, rfl, ha⟩ := r
    split at h
    · rename_i ks xs q
      obtain ⟨vs, h2, _⟩ := R0.cells n _ a q ha
      refine .inr (.inr (.inl ⟨rfl, ?_⟩))
      rcases h2 with ⟨_, _, _, h2⟩ | ⟨_, _, _, h2⟩
      · exact .inl ⟨_, h2⟩
      · exact .inr ⟨_, h2⟩
    · cases h
def mtS : MT → String
  | .str => "str" | .list => "list" | .dict => "dict"
theorem e_meth {t : MT} {p : Prim} {c1 : CE} {cs : CEs} {o e : Expr} {es : List Expr} {name : Str} {apos : Pos} {id : String} (pa : PlainAttrs (mtS t)) (slot : Slot (mtS t) name id) (hty : typeOf (.builtin id) = pure (.type "method_descriptor"))
    (hm : MtR X id (rM X.K ca fun ds ah => prim p ds ah)) (ho : PE X o (upE X.K ca W (evE G cx c1))) (ha : PA X (e :: es) (upA X.K ca W (evEs G cx cs)))
    (hbase : attributeBase o name X.env (eval o X.env) = eval o X.env)
    (hfew : ((backTo pos (starEach (e :: es) X.env)).all (fun x => !x.1) && (backToKw pos (keywordEach [] X.env)).all (fun x => x.1.isSome) && decide ((e :: es).length + ([] : List Keyword).length + (if ([] : List Keyword).isEmpty then 0 else 1) < 30)) = true)
    (hline : (apos.endLine == pos.line) = true) (hs : starEach (e :: es) X.env = (false, eval e X.env) :: starEach es X.env) (hplain : (backTo pos (starEach es X.env)).any (·.1) = false) :
    PE X (.Call (.Attribute o name apos) (e :: es) [] pos) (upE X.K ca W (evE G cx (.meth t p c1 cs))) := by
  refine imE (pe_bm pa slot hty hm ho ha hbase hfew hline hs hplain) fun σ H Q ⟨F, rho, env, ah, R0, er, h⟩ => ?_
  simp only [evE] at h
  refine ⟨F, rho, env, ah, R0, er, (h.bind R0.sub).mono fun x H1 ⟨F1, rho1, ah1, d, e1, R1, rx, h1⟩ => ?_⟩
  dsimp only at h1
  split at h1
  · rename_i z
    refine ⟨by cases t <;> exact isMT_ty R1 rx z, F1, rho1, env, ah1, R1, er.keep R0.sub R0.mu e1, (h1.bind R1.sub).mono fun vs H2 ⟨F2, rho2, ah2, ds, e2, R2, rvs, h2⟩ => ?_⟩
    exact ⟨F2, rho2, ah2, d, ds, R2, rx.keep R1.sub R1.mu e2 _ _, rvs, OutG.nox h2⟩
  · exact (show False from h1).elim
theorem e_meth0 {t : MT} {p : Prim} {c1 : CE} {o : Expr} {name : Str} {apos : Pos} {id : String} (pa : PlainAttrs (mtS t)) (slot : Slot (mtS t) name id) (hty : typeOf (.builtin id) = pure (.type "method_descriptor"))
    (hm : MtR X id (rM X.K ca fun ds ah => prim p ds ah)) (ho : PE X o (upE X.K ca W (evE G cx c1)))
    (hbase : attributeBase o name X.env (eval o X.env) = eval o X.env) (hline : (apos.endLine == pos.line) = true) :
    PE X (.Call (.Attribute o name apos) [] [] pos) (upE X.K ca W (evE G cx (.meth t p c1 .nil))) := by
  refine imE (pe_bm0 pa slot hty hm ho hbase hline) fun σ H Q ⟨F, rho, env, ah, R0, er, h⟩ => ?_
  simp only [evE, evEs, bnd_ok] at h
  refine ⟨F, rho, env, ah, R0, er, (h.bind R0.sub).mono fun x H1 ⟨F1, rho1, ah1, d, e1, R1, rx, h1⟩ => ?_⟩
  dsimp only at h1
  split at h1
  · rename_i z
    exact ⟨by cases t <;> exact isMT_ty R1 rx z, F1, rho1, ah1, d, [], R1, rx, RelDs.nil, OutG.nox h1⟩
  · exact (show False from h1).elim

/-! ### own defs -/
/-- what a def promises: what the machine's call says -/
def spF (K : PySem.W.Frag) (ca : CA) (g : List D → AH → R D) : Sp := fun vs H Q E =>
  ∃ F rho ah ds, HR K ca F rho ah H ∧ RelDs K ca F rho H ds vs ∧ OutG (RelD K ca) K ca F rho H Q E (g ds ah)
/-- where the defs stand -/
structure FnAt (P : Program) (w : World) (K : PySem.W.Frag) (mg : Str → Option Value) (base : Heap) (ca : CA) (k : Nat) (g : List D → AH → R D) (x : Str) : Prop where
  ex : ∃ (f : Addr) (fd : FuncData) (ps : List Str), mg x = some (.ref f) ∧ PySem.W.keepIn K (.ref f) = true ∧ Binds K fd ps [] ∧ FnOk P w K mg base (L2.CX P w) k f fd ps (spF K ca g)
theorem e_call {f : Nat} {cs : CEs} {x : Str} {np : Pos} {k : Nat} {e : Expr} {es : List Expr} (tk : Takes X W) (hr : Room k X.A) (hf : FnAt X.prog X.w X.K X.mg X.base ca k (G.cf f) x) (hg : Gl X x) (ha : PA X (e :: es) (upA X.K ca W (evEs G cx cs)))
    (hdb : (x == ("__debug__" : Str)) = false) (he : starEach (e :: es) X.env = (false, eval e X.env) :: starEach es X.env) (hpl : (backTo pos (starEach es X.env)).any (·.1) = false) :
    PE X (.Call (.Name x np) (e :: es) [] pos) (upE X.K ca W (evE G cx (.call f cs))) := by
  obtain ⟨fa, fd, ps, hm, hk, hb, F0⟩ := hf.ex
  refine ⟨fun pins s σ H Q I ⟨F, rho, env, ah, R0, er, h⟩ => ?_⟩
  simp only [evE] at h
  have hx : Passes (L2.CX X.prog X.w) X (fun c d H' => W c d σ H') ∨ True := .inr trivial
  refine wpAny_Call_Name_kw (ld_glob I hg hm ?_ hdb)
  refine PySem.W.callWith_K (h₀ := X.base) I.ok.mod.kin hk (thn (ha.run pos pins s σ H _ I ⟨F, rho, env, ah, R0, er, h.bind R0.sub⟩) fun us s1 ⟨vs, H1, I1, rv, F1, rho1, ah1, ds, e1, R1, rx, h1⟩ => ⟨I1.kIn, ?_⟩) he hpl
  have hl : us.length = ps.length := by rw [← rv.length]; exact F0.len vs H1 Q (fun c d H' => W c d σ H') ⟨F1, rho1, ah1, ds, R1, rx, h1⟩
  have hb2 := hb s1 us I1.kIn (by rw [List.append_nil]; exact hl)
  rw [List.append_nil] at hb2
  refine wpAny_call (codeAny_mono (F0.run X.A X.stack s1 H1 ⟨us, []⟩ us vs Q (fun c d H' => W c d σ H') hr I1.env0 hb2 rv ⟨F1, rho1, ah1, ds, R1, rx, h1⟩) fun r s' hq => ?_)
  cases r with
  | error e => exact tk e s' (XE.of_call I1 (fun _ _ _ z => z) hq)
  | ok fl =>
    cases fl with
    | ret u => exact I1.after hq
    | next => exact False.elim hq
    | brk => exact False.elim hq
    | cont => exact False.elim hq
theorem e_call0 {f : Nat} {x : Str} {np : Pos} {k : Nat} (tk : Takes X W) (hr : Room k X.A) (hf : FnAt X.prog X.w X.K X.mg X.base ca k (G.cf f) x) (hg : Gl X x) (hdb : (x == ("__debug__" : Str)) = false) :
    PE X (.Call (.Name x np) [] [] pos) (upE X.K ca W (evE G cx (.call f .nil))) := by
  obtain ⟨fa, fd, ps, hm, hk, hb, F0⟩ := hf.ex
  refine ⟨fun pins s σ H Q I ⟨F, rho, env, ah, R0, er, h⟩ => ?_⟩
  simp only [evE, evEs, bnd_ok] at h
  refine wpAny_Call_Name_kw (ld_glob I hg hm ?_ hdb)
  refine PySem.W.callWith_K0 I.kIn hk ?_
  have sp0 : spF X.K ca (G.cf f) [] H Q (fun c d H' => W c d σ H') := ⟨F, rho, ah, [], R0, RelDs.nil, h⟩
  have hl : ([] : List Value).length = ps.length := F0.len [] H Q _ sp0
  have hb2 := hb s [] I.kIn (by rw [List.append_nil]; exact hl)
  rw [List.append_nil] at hb2
  refine wpAny_call (codeAny_mono (F0.run X.A X.stack s H ⟨[], []⟩ [] [] Q (fun c d H' => W c d σ H') hr I.env0 hb2 .nil sp0) fun r s' hq => ?_)
  cases r with
  | error e => exact tk e s' (XE.of_call I (fun _ _ _ z => z) hq)
  | ok fl =>
    cases fl with
    | ret u => exact I.after hq
    | next => exact False.elim hq
    | brk => exact False.elim hq
    | cont => exact False.elim hq
end
end M
end

section
set_option Elab.async false
set_option linter.all false
set_option maxRecDepth 100000
set_option maxHeartbeats 4000000
/-! The machine, 8: targets, what is walked, for, comprehensions. -/
namespace M
open PySem PySem.Spec PyProof.Rows L2
section
variable {K : PySem.W.Frag} {ca : CA} {F rho F' rho' : List Addr} {H H' : Hp} {ah ah' : AH}
theorem CellAt.keepW {o : Option HO} {c : Cell} (mu : ∀ a ∈ F, Mut (H a)) (e : ExtW F rho H F' rho' H') (h : CellAt K ca F rho H o c) : CellAt K ca F' rho' H' o c := by
  cases c with
  | lst ds => obtain ⟨hz, vs, h1, h2⟩ := h; exact ⟨hz, vs, h1, RelDs.keepW mu e _ _ h2⟩
  | dct ks ds => obtain ⟨vs, h1, h2⟩ := h; exact ⟨vs, h1, RelDs.keepW mu e _ _ h2⟩
  | ins c ns ds => obtain ⟨dx, vs, h1, h2, h3⟩ := h; exact ⟨dx, vs, h1, h2, RelDs.keepW mu e _ _ h3⟩
  | gone => trivial
theorem CellAt.anti {o : Option HO} {c : Cell} (lm : ∀ a ∈ F', a ∈ F) (h : CellAt K ca F rho H o c) : CellAt K ca F' rho H o c := by
  cases c with
  | lst ds => obtain ⟨hz, vs, h1, h2⟩ := h; exact ⟨hz, vs, h1, RelDs.anti lm _ _ h2⟩
  | dct ks ds => obtain ⟨vs, h1, h2⟩ := h; exact ⟨vs, h1, RelDs.anti lm _ _ h2⟩
  | ins c ns ds => obtain ⟨dx, vs, h1, h2, h3⟩ := h; exact ⟨dx, vs, h1, h2, RelDs.anti lm _ _ h3⟩
  | gone => trivial
theorem HR.anti (R : HR K ca F rho ah H) (lm : ∀ a ∈ F', a ∈ F) (sub : ∀ a ∈ rho, a ∈ F') : HR K ca F' rho ah H :=
  ⟨sub, R.nd, R.len, fun a h => R.mu a (lm a h), fun i c a hc ha => (R.cells i c a hc ha).anti lm⟩
/-- a list that is being made: forbidden, no cell of ours -/
theorem HR.hide (R : HR K ca F rho ah H) {p : Addr} {o : HO} (hp : H p = none) (hm : Mut (some o)) : HR K ca (p :: F) rho ah (upd H p o) ∧ Ext F rho H (p :: F) rho (upd H p o) := by
  have e : Ext F rho H (p :: F) rho (upd H p o) := by
    refine ⟨⟨[], by simp⟩, fun a h => List.mem_cons_of_mem _ h, fun a h n => ?_, fun a h n => absurd h n, fun a u h _ => by rw [upd_ne (ne_of_none h hp)]; exact h⟩
    rcases List.mem_cons.mp h with z | z
    · rw [z]; exact hp
    · exact absurd z n
  refine ⟨⟨fun a h => List.mem_cons_of_mem _ (R.sub a h), R.nd, R.len, fun a h => ?_, fun i c a hc ha => ?_⟩, e⟩
  · rcases List.mem_cons.mp h with z | z
    · rw [z, upd_same]; exact hm
    · rw [upd_ne (fun q => R.nF hp (by rw [← q]; exact z))]; exact R.mu a z
  · have ha' : a ∈ rho := List.mem_of_getElem? ha
    rw [upd_ne (fun z => R.nrho hp (by rw [← z]; exact ha'))]
    exact (R.cells i c a hc ha).keep R.sub R.mu e
theorem HR.hid (R : HR K ca F rho ah H) {p : Addr} {o : HO} (hF : p ∈ F) (hn : p ∉ rho) (hm : Mut (some o)) : HR K ca F rho ah (upd H p o) ∧ ExtW F rho H F rho (upd H p o) := by
  have e : ExtW F rho H F rho (upd H p o) := ⟨⟨[], by simp⟩, fun a h n => absurd h n, fun a u h n => by rw [upd_ne (fun z => n (by rw [z]; exact hF))]; exact h⟩
  refine ⟨⟨R.sub, R.nd, R.len, fun a h => ?_, fun i c a hc ha => ?_⟩, e⟩
  · by_cases z : a = p
    · rw [z, upd_same]; exact hm
    · rw [upd_ne z]; exact R.mu a h
  · have ha' : a ∈ rho := List.mem_of_getElem? ha
    rw [upd_ne (fun z => hn (by rw [← z]; exact ha'))]
    exact (R.cells i c a hc ha).keepW R.mu e

/-! ### what is walked -/
structure WalkD (K : PySem.W.Frag) (ca : CA) (J : It) (ds : List D) (g : Gd) (F1 rho1 : List Addr) (H1 : Hp) : Prop where
  len : ds.length ≤ sizeLine
  go : ∀ F2 rho2 ah2 H2 i, Ext F1 rho1 H1 F2 rho2 H2 → HR K ca F2 rho2 ah2 H2 → gdOk g ah2 = true → i < ds.length → J.go i H2
  stop : ∀ F2 rho2 ah2 H2, Ext F1 rho1 H1 F2 rho2 H2 → HR K ca F2 rho2 ah2 H2 → gdOk g ah2 = true → J.stop ds.length H2
  yld : ∀ F2 rho2 ah2 H2 i x H' d, Ext F1 rho1 H1 F2 rho2 H2 → HR K ca F2 rho2 ah2 H2 → gdOk g ah2 = true → J.yld i H2 x H' → ds[i]? = some d →
    Ext F2 rho2 H2 F2 rho2 H' ∧ HR K ca F2 rho2 ah2 H' ∧ RelD K ca F2 rho2 H' d x

variable {ds es : List D} {vs ws : List V} {a b : Addr} {g : Gd} {ah1 : AH}
/-- where a walked list stands, now and later -/
def LstL (K : PySem.W.Frag) (ca : CA) (F1 rho1 : List Addr) (H1 : Hp) (a : Addr) (ds : List D) (g : Gd) : Prop :=
  ∀ F2 rho2 ah2 H2, Ext F1 rho1 H1 F2 rho2 H2 → HR K ca F2 rho2 ah2 H2 → gdOk g ah2 = true → ∃ vs, SqL K H2 a vs ∧ RelDs K ca F2 rho2 H2 ds vs
def TupL (K : PySem.W.Frag) (ca : CA) (F1 rho1 : List Addr) (H1 : Hp) (a : Addr) (ds : List D) : Prop :=
  ∀ F2 rho2 H2, Ext F1 rho1 H1 F2 rho2 H2 → ∃ vs, SqT K H2 a vs ∧ RelDs K ca F2 rho2 H2 ds vs
theorem LstL.of (R0 : HR K ca F rho ah H) (h : H a = some (.lst vs)) (hn : a ∉ F) (r : RelDs K ca F rho H ds vs) : LstL K ca F rho H a ds none := fun F2 rho2 ah2 H2 e R2 _ =>
  ⟨vs, SqL.of (e.keep a _ h fun z => hn (R0.sub a z)), r.keep R0.sub R0.mu e⟩
theorem LstL.ofLoc {n : Nat} (hr : rho[n]? = some a) : LstL K ca F rho H a ds (some (n, ds)) := fun F2 rho2 ah2 H2 e R2 hg => by
  simp only [gdOk] at hg
  split at hg
  · rename_i ys q
    have ey := D.sames_ok _ _ hg
    subst ey
    obtain ⟨t, et⟩ := e.pre
    have hr2 : rho2[n]? = some a := by
      rw [et, List.getElem?_append_left (List.getElem?_eq_some_iff.mp hr).1]; exact hr
    obtain ⟨_, vs, h1, h2⟩ := R2.cells n _ a q hr2
    exact ⟨vs, SqL.of h1, h2⟩
  · cases hg
theorem TupL.of (R0 : HR K ca F rho ah H) (h : SqT K H a vs) (r : RelDs K ca F rho H ds vs) : TupL K ca F rho H a ds := fun F2 rho2 H2 e =>
  ⟨vs, sqt_keep R0.mu (e.w R0.sub) h, r.keep R0.sub R0.mu e⟩
theorem WalkD.list (hl : ds.length ≤ sizeLine) (L : LstL K ca F rho H a ds g) : WalkD K ca (Itl K a) ds g F rho H where
  len := hl
  go := fun F2 rho2 ah2 H2 i e R2 hg hi => by
    obtain ⟨vs, h1, h2⟩ := L F2 rho2 ah2 H2 e R2 hg
    obtain ⟨v, h3, _⟩ := h2.get (List.getElem?_eq_getElem hi)
    exact ⟨vs, v, h1, h3⟩
  stop := fun F2 rho2 ah2 H2 e R2 hg => by
    obtain ⟨vs, h1, h2⟩ := L F2 rho2 ah2 H2 e R2 hg
    exact ⟨vs, h1, by rw [h2.length]; exact Nat.le_refl _⟩
  yld := fun F2 rho2 ah2 H2 i x H' d e R2 hg y hd => by
    obtain ⟨vs, h1, h2⟩ := L F2 rho2 ah2 H2 e R2 hg
    obtain ⟨v, h3, h4⟩ := h2.get hd
    obtain ⟨rfl, y⟩ := y
    have := y vs h1
    rw [h3] at this
    cases this
    exact ⟨Ext.refl _ _ _, R2, h4⟩
theorem WalkD.tup (hl : ds.length ≤ sizeLine) (L : TupL K ca F rho H a ds) : WalkD K ca (Itt K a) ds none F rho H where
  len := hl
  go := fun F2 rho2 ah2 H2 i e R2 hg hi => by
    obtain ⟨vs, h1, h2⟩ := L F2 rho2 H2 e
    obtain ⟨v, h3, _⟩ := h2.get (List.getElem?_eq_getElem hi)
    exact ⟨vs, v, h1, h3⟩
  stop := fun F2 rho2 ah2 H2 e R2 hg => by
    obtain ⟨vs, h1, h2⟩ := L F2 rho2 H2 e
    exact ⟨vs, h1, by rw [h2.length]; exact Nat.le_refl _⟩
  yld := fun F2 rho2 ah2 H2 i x H' d e R2 hg y hd => by
    obtain ⟨vs, h1, h2⟩ := L F2 rho2 H2 e
    obtain ⟨v, h3, h4⟩ := h2.get hd
    obtain ⟨rfl, y⟩ := y
    have := y vs h1
    rw [h3] at this
    cases this
    exact ⟨Ext.refl _ _ _, R2, h4⟩
theorem WalkD.range {lo : Int} {n : Nat} (hl : n ≤ sizeLine) : WalkD K ca (Itr lo n) (rangeD lo n) none F rho H where
  len := by unfold rangeD; rw [List.length_map, List.length_range]; exact hl
  go := fun F2 rho2 ah2 H2 i e R2 hg hi => by
    unfold rangeD at hi
    rw [List.length_map, List.length_range] at hi
    exact hi
  stop := fun F2 rho2 ah2 H2 e R2 hg => by
    unfold rangeD
    rw [List.length_map, List.length_range]
    exact Nat.le_refl _
  yld := fun F2 rho2 ah2 H2 i x H' d e R2 hg y hd => by
    obtain ⟨rfl, rfl⟩ := y
    unfold rangeD at hd
    rw [List.getElem?_map] at hd
    by_cases hi : i < n
    · rw [List.getElem?_range hi] at hd
      cases hd
      exact ⟨Ext.refl _ _ _, R2, by simp only [RelD]⟩
    · rw [List.getElem?_eq_none (by simpa using hi)] at hd
      cases hd
theorem WalkD.str {x : List Nat} (hx : sOk x) : WalkD K ca (Its ⟨x.toArray⟩) (x.map fun c => D.str [c]) none F rho H where
  len := by rw [List.length_map]; exact hx.1
  go := fun F2 rho2 ah2 H2 i e R2 hg hi => by
    rw [List.length_map] at hi
    show i < x.toArray.size
    simpa using hi
  stop := fun F2 rho2 ah2 H2 e R2 hg => by
    rw [List.length_map]
    show x.toArray.size ≤ x.length
    simp
  yld := fun F2 rho2 ah2 H2 i v H' d e R2 hg y hd => by
    obtain ⟨rfl, c, hc, rfl⟩ := y
    rw [List.getElem?_map] at hd
    have hc' : x[i]? = some c := by simpa using hc
    rw [hc'] at hd
    cases hd
    refine ⟨Ext.refl _ _ _, R2, ?_⟩
    simp only [RelD]
    refine ⟨⟨by show 1 ≤ sizeLine; decide, fun b hb => ?_⟩, trivial⟩
    rw [List.mem_singleton.mp hb]
    exact hx.2 c (List.mem_of_getElem? hc')
theorem pair_rel {d1 d2 : D} {x y : V} {T : Addr} {F2 rho2 : List Addr} {ah2 : AH} {H2 : Hp} (R2 : HR K ca F2 rho2 ah2 H2) (hT : H2 T = none) (r1 : RelD K ca F2 rho2 H2 d1 x) (r2 : RelD K ca F2 rho2 H2 d2 y) :
    Ext F2 rho2 H2 F2 rho2 (upd H2 T (.tup [x, y])) ∧ HR K ca F2 rho2 ah2 (upd H2 T (.tup [x, y])) ∧ RelD K ca F2 rho2 (upd H2 T (.tup [x, y])) (.tup [d1, d2]) (.ref T) := by
  have e := ext_new (o := .tup [x, y]) R2 hT
  refine ⟨e, R2.new hT, ?_⟩
  simp only [RelD]
  refine ⟨by show 2 ≤ sizeLine; decide, T, [x, y], rfl, .inl (.inl (upd_same ..)), ?_⟩
  exact RelDs.keep R2.sub R2.mu e _ _ (RelDs.cons r1 (RelDs.cons r2 RelDs.nil))
theorem enumD_get {i : Nat} {d : D} (h : (enumD ds)[i]? = some d) : ∃ x, ds[i]? = some x ∧ d = .tup [.int (i : Int), x] := by
  unfold enumD at h
  rw [List.getElem?_zipWith] at h
  by_cases hi : i < ds.length
  · rw [List.getElem?_range hi, List.getElem?_eq_getElem hi] at h
    exact ⟨ds[i], List.getElem?_eq_getElem hi, (Option.some.inj h).symm⟩
  · rw [List.getElem?_eq_none (by simpa using hi : (List.range ds.length).length ≤ i)] at h
    simp at h
theorem enumD_len : (enumD ds).length = ds.length := by
  unfold enumD
  rw [List.length_zipWith, List.length_range, Nat.min_self]
theorem WalkD.enum (hl : ds.length ≤ sizeLine) (L : LstL K ca F rho H a ds g) : WalkD K ca (Ite K a) (enumD ds) g F rho H where
  len := by rw [enumD_len]; exact hl
  go := fun F2 rho2 ah2 H2 i e R2 hg hi => by
    rw [enumD_len] at hi
    obtain ⟨vs, h1, h2⟩ := L F2 rho2 ah2 H2 e R2 hg
    obtain ⟨v, h3, _⟩ := h2.get (List.getElem?_eq_getElem hi)
    exact ⟨vs, v, h1, h3⟩
  stop := fun F2 rho2 ah2 H2 e R2 hg => by
    obtain ⟨vs, h1, h2⟩ := L F2 rho2 ah2 H2 e R2 hg
    exact ⟨vs, h1, by rw [enumD_len, h2.length]; exact Nat.le_refl _⟩
  yld := fun F2 rho2 ah2 H2 i x H' d e R2 hg y hd => by
    obtain ⟨vs, h1, h2⟩ := L F2 rho2 ah2 H2 e R2 hg
    obtain ⟨z, hz, rfl⟩ := enumD_get hd
    obtain ⟨v, h3, h4⟩ := h2.get hz
    obtain ⟨T, y0, rfl, hT, rfl, y⟩ := y
    have := y vs h1
    rw [h3] at this
    cases this
    exact pair_rel R2 hT (by simp only [RelD]) h4
theorem zipD_get {i : Nat} {d : D} (h : (zipD ds es)[i]? = some d) : ∃ x y, ds[i]? = some x ∧ es[i]? = some y ∧ d = .tup [x, y] := by
  unfold zipD at h
  rw [List.getElem?_zipWith] at h
  cases q : ds[i]? with
  | none => rw [q] at h; simp at h
  | some x =>
    cases q2 : es[i]? with
    | none => rw [q, q2] at h; simp at h
    | some y =>
      rw [q, q2] at h
      exact ⟨x, y, rfl, rfl, (Option.some.inj h).symm⟩
theorem zipD_len : (zipD ds es).length = min ds.length es.length := by unfold zipD; rw [List.length_zipWith]
theorem WalkD.zipL (hl : ds.length ≤ sizeLine) (L : LstL K ca F rho H a ds none) (L2 : LstL K ca F rho H b es none) : WalkD K ca (Itz K a b) (zipD ds es) none F rho H where
  len := by rw [zipD_len]; omega
  go := fun F2 rho2 ah2 H2 i e R2 hg hi => by
    rw [zipD_len] at hi
    obtain ⟨vs, h1, h2⟩ := L F2 rho2 ah2 H2 e R2 hg
    obtain ⟨ws, k1, k2⟩ := L2 F2 rho2 ah2 H2 e R2 hg
    obtain ⟨v, h3, _⟩ := h2.get (List.getElem?_eq_getElem (i := i) (by omega))
    obtain ⟨w, k3, _⟩ := k2.get (List.getElem?_eq_getElem (i := i) (by omega))
    exact ⟨vs, ws, v, w, h1, k1, h3, k3⟩
  stop := fun F2 rho2 ah2 H2 e R2 hg => by
    obtain ⟨vs, h1, h2⟩ := L F2 rho2 ah2 H2 e R2 hg
    obtain ⟨ws, k1, k2⟩ := L2 F2 rho2 ah2 H2 e R2 hg
    have l1 := h2.length
    have l2 := k2.length
    exact ⟨vs, ws, h1, k1, by rw [zipD_len]; omega⟩
  yld := fun F2 rho2 ah2 H2 i x H' d e R2 hg y hd => by
    obtain ⟨vs, h1, h2⟩ := L F2 rho2 ah2 H2 e R2 hg
    obtain ⟨ws, k1, k2⟩ := L2 F2 rho2 ah2 H2 e R2 hg
    obtain ⟨z, z2, hz, hz2, rfl⟩ := zipD_get hd
    obtain ⟨v, h3, h4⟩ := h2.get hz
    obtain ⟨w, k3, k4⟩ := k2.get hz2
    obtain ⟨T, y0, y1, rfl, hT, rfl, ya, yb⟩ := y
    have e1 := ya vs h1
    have e2 := yb ws k1
    rw [h3] at e1
    rw [k3] at e2
    cases e1
    cases e2
    exact pair_rel R2 hT h4 k4
theorem WalkD.zipT (hl : ds.length ≤ sizeLine) (L : TupL K ca F rho H a ds) (L2 : TupL K ca F rho H b es) : WalkD K ca (RZ.ItzT K a b) (zipD ds es) none F rho H where
  len := by rw [zipD_len]; omega
  go := fun F2 rho2 ah2 H2 i e R2 hg hi => by
    rw [zipD_len] at hi
    obtain ⟨vs, h1, h2⟩ := L F2 rho2 H2 e
    obtain ⟨ws, k1, k2⟩ := L2 F2 rho2 H2 e
    obtain ⟨v, h3, _⟩ := h2.get (List.getElem?_eq_getElem (i := i) (by omega))
    obtain ⟨w, k3, _⟩ := k2.get (List.getElem?_eq_getElem (i := i) (by omega))
    exact ⟨vs, ws, v, w, h1, k1, h3, k3⟩
  stop := fun F2 rho2 ah2 H2 e R2 hg => by
    obtain ⟨vs, h1, h2⟩ := L F2 rho2 H2 e
    obtain ⟨ws, k1, k2⟩ := L2 F2 rho2 H2 e
    have l1 := h2.length
    have l2 := k2.length
    exact ⟨vs, ws, h1, k1, by rw [zipD_len]; omega⟩
  yld := fun F2 rho2 ah2 H2 i x H' d e R2 hg y hd => by
    obtain ⟨vs, h1, h2⟩ := L F2 rho2 H2 e
    obtain ⟨ws, k1, k2⟩ := L2 F2 rho2 H2 e
    obtain ⟨z, z2, hz, hz2, rfl⟩ := zipD_get hd
    obtain ⟨v, h3, h4⟩ := h2.get hz
    obtain ⟨w, k3, k4⟩ := k2.get hz2
    obtain ⟨T, y0, y1, rfl, hT, rfl, ya, yb⟩ := y
    have e1 := ya vs h1
    have e2 := yb ws k1
    rw [h3] at e1
    rw [k3] at e2
    cases e1
    cases e2
    exact pair_rel R2 hT h4 k4
end
end M
end

section
set_option Elab.async false
set_option linter.all false
set_option maxRecDepth 100000
set_option maxHeartbeats 4000000
/-! The machine, 9: iterators and targets. -/
namespace M
open PySem PySem.Spec PyProof.Rows L2
def relI (K : PySem.W.Frag) (ca : CA) (F rho : List Addr) (H : Hp) (p : List D × Gd) (J : It) : Prop := WalkD K ca J p.1 p.2 F rho H
def upI (K : PySem.W.Frag) (ca : CA) (W : WX) (m : Env1 → AH → R (List D × Gd)) : TI := fun σ H Q =>
  ∃ F rho env ah, HR K ca F rho ah H ∧ ER K ca F rho H env σ ∧ OutG (relI K ca) K ca F rho H Q (fun c d H' => W c d σ H') (m env ah)
theorem imI {X : Cx} {tg e : Expr} {t t' : TI} (p : PI X tg e t) (h : ∀ σ H Q, t' σ H Q → t σ H Q) : PI X tg e t' := ⟨fun pins s σ H Q I hw => p.run pins s σ H Q I (h σ H Q hw)⟩
theorem imG {X : Cx} {tg : Expr} {t t' : TG} (p : PG X tg t) (h : ∀ v σ H Q, t' v σ H Q → t v σ H Q) : PG X tg t' := ⟨fun pins s σ H v u Q I r hw => p.run pins s σ H v u Q I r (h v σ H Q hw)⟩
theorem imGs {X : Cx} {tg : List Expr} {t t' : TGs} (p : PGs X tg t) (h : ∀ v σ H Q, t' v σ H Q → t v σ H Q) : PGs X tg t' := ⟨fun pins s σ H v u Q I r hw => p.run pins s σ H v u Q I r (h v σ H Q hw)⟩

section
variable {X : Cx} {ca : CA} {W : WX} {G : Cfg} {cx : Option Ex} {a b c tg : Expr} {pos : Pos}
theorem i_seq {c1 : CE} (ha : PE X a (upE X.K ca W (evE G cx c1))) : PI X tg a (upI X.K ca W (evI G cx (.seq c1))) := by
  refine ⟨fun pins s σ H Q I ⟨F, rho, env, ah, R0, er, h⟩ => ?_⟩
  simp only [evI] at h
  refine thn (ha.run pins s σ H _ I ⟨F, rho, env, ah, R0, er, h.bind R0.sub⟩) fun v s1 ⟨x, H1, I1, r1, F1, rho1, ah1, d, e1, R1, rx, h1⟩ => ?_
  have lst : ∀ {la : Addr} {vs : List V} {p : List D × Gd}, x = .ref la → SqL X.K H1 la vs → WalkD X.K ca (Itl X.K la) p.1 p.2 F1 rho1 H1 → OutG (relI X.K ca) X.K ca F1 rho1 H1 Q (fun c d H' => W c d σ H') (.ok p ah1) →
      wpAny (model X.prog X.w) X.A (pyIter v) (PIE X pins σ tg Q) X.xe s1 := fun {la vs p} ex hq wk hh => by
    subst ex
    cases r1
    obtain ⟨its, rv, p', hz⟩ := I1.list hq
    refine wpAny_pyIter_list p'.isList (pi_one (tk := s1.toks) I1 _ (turn_list la _) ⟨_, Heap.get?_push_size _ rfl, rfl, rfl⟩ ?_)
    exact hh _ _ _ _ (Ext.refl _ _ _) R1 wk
  cases d with
  | str y =>
    obtain ⟨hy, rfl⟩ := rel_str rx
    have hq : Q (Its ⟨y.toArray⟩) H1 := h1 _ _ _ _ (Ext.refl _ _ _) R1 (WalkD.str hy)
    obtain ⟨t, rfl⟩ := r1
    generalize (⟨y.toArray⟩ : Str) = x at hq ⊢
    cases ha : x.cps.all (· < 128)
    · exact wpAny_pyIter_wide ha (pi_one (tk := s1.toks) I1 _ (turn_str _ x t "str_iterator" (.inr rfl)) ⟨_, Heap.get?_push_size _ rfl, rfl, rfl⟩ hq)
    · exact wpAny_pyIter_ascii ha (pi_one (tk := s1.toks) I1 _ (turn_str _ x t "str_ascii_iterator" (.inl rfl)) ⟨_, Heap.get?_push_size _ rfl, rfl, rfl⟩ hq)
  | tup xs =>
    simp only [RelD] at rx
    obtain ⟨hz, la, vs, rfl, hq, rv⟩ := rx
    have hq' : Q (Itt X.K la) H1 := h1 _ _ _ _ (Ext.refl _ _ _) R1 (WalkD.tup hz (TupL.of R1 hq rv))
    cases r1
    obtain ⟨its, rv', p', hz'⟩ := I1.tuple hq
    exact wpAny_pyIter_tuple (show s1.heap.IsTuple la its.toArray from p') (pi_one (tk := s1.toks) I1 _ (turn_tuple la _) ⟨_, Heap.get?_push_size _ rfl, rfl, rfl⟩ hq')
  | lst xs =>
    simp only [RelD] at rx
    obtain ⟨hz, la, vs, ex, h2, h3, rv⟩ := rx
    exact lst ex (SqL.of h2) (WalkD.list hz (LstL.of R1 h2 h3 rv)) h1
  | loc n =>
    simp only [RelD] at rx
    obtain ⟨la, ex, hr⟩ := rx
    dsimp only at h1
    split at h1
    · rename_i xs q
      obtain ⟨hz, vs, h2, rv⟩ := R1.cells n _ la q hr
      exact lst ex (SqL.of h2) (WalkD.list hz (LstL.ofLoc hr)) h1
    · exact (show False from h1).elim
  | _ => exact (show False from h1).elim
theorem i_enum {c1 : CE} {p tpos : Pos} {elts : List Expr} {kk : Nat} (hg : Gl X "enumerate") (hm : X.mg "enumerate" = none) (ha : PE X a (upE X.K ca W (evE G cx c1))) (hs : starEach [a] X.env = (false, eval a X.env) :: starEach [] X.env) :
    PI X (.Tuple elts kk tpos) (.Call (.Name "enumerate" p) [a] [] pos) (upI X.K ca W (evI G cx (.enum c1))) := by
  refine imI (pi_enum hg hm (pa_cons ha pa_nil hs) hs) fun σ H Q ⟨F, rho, env, ah, R0, er, h⟩ => ?_
  simp only [evI] at h
  refine ⟨F, rho, env, ah, R0, er, (h.bind R0.sub).mono fun x H1 ⟨F1, rho1, ah1, d, e1, R1, rx, h1⟩ => ?_⟩
  cases d with
  | lst xs =>
    simp only [RelD] at rx
    obtain ⟨hz, la, vs, rfl, h2, h3, rv⟩ := rx
    exact ⟨la, vs, rfl, SqL.of h2, h1 _ _ _ _ (Ext.refl _ _ _) R1 (WalkD.enum hz (LstL.of R1 h2 h3 rv))⟩
  | loc n =>
    simp only [RelD] at rx
    obtain ⟨la, rfl, hr⟩ := rx
    dsimp only at h1
    split at h1
    · rename_i xs q
      obtain ⟨hz, vs, h2, rv⟩ := R1.cells n _ la q hr
      exact ⟨la, vs, rfl, SqL.of h2, h1 _ _ _ _ (Ext.refl _ _ _) R1 (WalkD.enum hz (LstL.ofLoc hr))⟩
    · exact (show False from h1).elim
  | _ => exact (show False from h1).elim
theorem i_zip {c1 c2 : CE} {p tpos : Pos} {elts : List Expr} {kk : Nat} (hg : Gl X "zip") (hm : X.mg "zip" = none) (ha : PE X a (upE X.K ca W (evE G cx c1))) (hb : PE X b (upE X.K ca W (evE G cx c2)))
    (hs : starEach [a, b] X.env = (false, eval a X.env) :: starEach [b] X.env) (hs2 : starEach [b] X.env = (false, eval b X.env) :: starEach [] X.env) (hpl : (backTo pos (starEach [b] X.env)).any (·.1) = false) :
    PI X (.Tuple elts kk tpos) (.Call (.Name "zip" p) [a, b] [] pos) (upI X.K ca W (evI G cx (.zip c1 c2))) := by
  refine imI (RZ.pi_zipA hg hm (pa_cons ha (pa_cons hb pa_nil hs2) hs) hs hpl) fun σ H Q ⟨F, rho, env, ah, R0, er, h⟩ => ?_
  simp only [evI] at h
  refine ⟨F, rho, env, ah, R0, er, (h.bind R0.sub).mono fun x H1 ⟨F1, rho1, ah1, d, e1, R1, rx, h1⟩ => ?_⟩
  refine ⟨F1, rho1, env, ah1, R1, er.keep R0.sub R0.mu e1, (h1.bind R1.sub).mono fun y H2 ⟨F2, rho2, ah2, e, e2, R2, ry, h2⟩ => ?_⟩
  have rx := rx.keep R1.sub R1.mu e2
  dsimp only at h2
  split at h2
  · simp only [RelD] at rx ry
    obtain ⟨hz, la, vs, rfl, k2, rv⟩ := rx
    obtain ⟨hz', lb, ws, rfl, k4, rw'⟩ := ry
    exact ⟨la, lb, vs, ws, rfl, .inr ⟨k2, k4, h2 _ _ _ _ (Ext.refl _ _ _) R2 (WalkD.zipT hz (TupL.of R2 k2 rv) (TupL.of R2 k4 rw'))⟩⟩
  · simp only [RelD] at rx ry
    obtain ⟨hz, la, vs, rfl, k2, k3, rv⟩ := rx
    obtain ⟨hz', lb, ws, rfl, k4, k5, rw'⟩ := ry
    exact ⟨la, lb, vs, ws, rfl, .inl ⟨SqL.of k2, SqL.of k4, h2 _ _ _ _ (Ext.refl _ _ _) R2 (WalkD.zipL hz (LstL.of R2 k2 k3 rv) (LstL.of R2 k4 k5 rw'))⟩⟩
  · exact (show False from h2).elim
theorem i_range1 {c1 : CE} {p : Pos} (hg : Gl X "range") (hm : X.mg "range" = none) (ha : PE X a (upE X.K ca W (evE G cx c1))) (hs : starEach [a] X.env = (false, eval a X.env) :: starEach [] X.env) :
    PI X tg (.Call (.Name "range" p) [a] [] pos) (upI X.K ca W (evI G cx (.range1 c1))) := by
  refine imI (pi_range1 hg hm (pa_cons ha pa_nil hs) hs) fun σ H Q ⟨F, rho, env, ah, R0, er, h⟩ => ?_
  simp only [evI] at h
  refine ⟨F, rho, env, ah, R0, er, (h.bind R0.sub).mono fun x H1 ⟨F1, rho1, ah1, d, e1, R1, rx, h1⟩ => ?_⟩
  dsimp only at h1
  split at h1
  · rename_i n
    split at h1
    · rename_i hn
      have ex := rel_int rx
      subst ex
      have hz : SZ = sizeLine := SZ_eq
      have hz2 : (SZ : Int) = 16777216 := rfl
      refine ⟨n, rfl, by omega, by omega, h1 _ _ _ _ (Ext.refl _ _ _) R1 (WalkD.range ?_)⟩
      omega
    · exact (show False from h1).elim
  · exact (show False from h1).elim
theorem i_range2 {c1 c2 : CE} {p : Pos} (hg : Gl X "range") (hm : X.mg "range" = none) (ha : PE X a (upE X.K ca W (evE G cx c1))) (hb : PE X b (upE X.K ca W (evE G cx c2)))
    (hs : starEach [a, b] X.env = (false, eval a X.env) :: starEach [b] X.env) (hs2 : starEach [b] X.env = (false, eval b X.env) :: starEach [] X.env) (hs3 : starEach [] X.env = []) :
    PI X tg (.Call (.Name "range" p) [a, b] [] pos) (upI X.K ca W (evI G cx (.range2 c1 c2))) := by
  refine imI (pi_range2 hg hm (pa_cons ha (pa_cons hb pa_nil hs2) hs) (by rw [hs, hs2, hs3]) (by rw [hs2, hs3])) fun σ H Q ⟨F, rho, env, ah, R0, er, h⟩ => ?_
  simp only [evI] at h
  refine ⟨F, rho, env, ah, R0, er, (h.bind R0.sub).mono fun x H1 ⟨F1, rho1, ah1, d, e1, R1, rx, h1⟩ => ?_⟩
  refine ⟨F1, rho1, env, ah1, R1, er.keep R0.sub R0.mu e1, (h1.bind R1.sub).mono fun y H2 ⟨F2, rho2, ah2, e, e2, R2, ry, h2⟩ => ?_⟩
  dsimp only at h2
  split at h2
  · rename_i i n
    split at h2
    · rename_i hn
      have ex := rel_int rx
      subst ex
      have ey := rel_int ry
      subst ey
      have hz : SZ = sizeLine := SZ_eq
      have hz2 : (SZ : Int) = 16777216 := rfl
      refine ⟨_, _, rfl, ⟨by omega, by omega, by omega, by omega⟩, h2 _ _ _ _ (Ext.refl _ _ _) R2 (WalkD.range ?_)⟩
      omega
    · exact (show False from h2).elim
  · exact (show False from h2).elim

/-! ### targets -/
mutual
def tgS : Tg → List Nat
  | .name i => [i]
  | .tup ts => tgSs ts
def tgSs : Tgs → List Nat
  | .nil => []
  | .cons t ts => tgS t ++ tgSs ts
end
def tgN : Tgs → Nat
  | .nil => 0
  | .cons _ ts => tgN ts + 1
/-- but for these slots the same -/
def SameBut (l : List Nat) (σ σ' : L2.St) : Prop := ∀ vs : List Nat, (∀ i ∈ l, i ∈ vs) → wipe σ' vs = wipe σ vs
theorem wipe_set {σ : L2.St} {i : Nat} {x : Option V} : ∀ {vs : List Nat}, i ∈ vs → wipe (σ.set i x) vs = wipe σ vs
  | v :: vs, h => by
    unfold wipe
    by_cases e : i ∈ vs
    · rw [wipe_set e]
    · have ev : i = v := (List.mem_cons.mp h).resolve_right e
      subst ev
      have out : ∀ {us : List Nat}, i ∉ us → (wipe (σ.set i x) us) = (wipe σ us).set i x := fun {us} => by
        induction us with
        | nil => intro _; rfl
        | cons u us ih =>
          intro hu
          simp only [List.mem_cons, not_or] at hu
          unfold wipe
          rw [ih hu.2, List.set_comm _ _ hu.1]
      rw [out e, List.set_set]
theorem exS_set {K : PySem.W.Frag} {F rho : List Addr} {H : Hp} {σ : L2.St} {i : Nat} {x : Option V} (hi : notEx ca i) (h : exS K ca F rho H σ) : exS K ca F rho H (σ.set i x) := fun e he => by
  rw [List.getElem?_set_ne (hi e he)]
  exact h e he
theorem notEx_of (h : ca.ex = none) (i : Nat) : notEx ca i := fun e he => by rw [h] at he; cases he
theorem ER.set {K : PySem.W.Frag} {F rho : List Addr} {H : Hp} {env : Env1} {σ : L2.St} {i : Nat} {d : D} {v : V} (hi : notEx ca i) (er : ER K ca F rho H env σ) (r : RelD K ca F rho H d v) : ER K ca F rho H (env.set i (some d)) (σ.set i (some v)) := by
  refine ⟨by rw [List.length_set, List.length_set]; exact er.1, fun j e he => ?_, exS_set hi er.2.2⟩
  by_cases hj : i = j
  · subst hj
    have hl : i < env.length := by
      have := (List.getElem?_eq_some_iff.mp he).1
      rwa [List.length_set] at this
    rw [List.getElem?_set_self hl] at he
    cases he
    exact ⟨v, List.getElem?_set_self (by rw [← er.1]; exact hl), r⟩
  · rw [List.getElem?_set_ne hj] at he
    rw [List.getElem?_set_ne hj]
    exact er.2.1 j e he
theorem ER.setN {K : PySem.W.Frag} {F rho : List Addr} {H : Hp} {env : Env1} {σ : L2.St} {i : Nat} {x : Option V} (hi : notEx ca i) (er : ER K ca F rho H env σ) : ER K ca F rho H (env.set i none) (σ.set i x) := by
  refine ⟨by rw [List.length_set, List.length_set]; exact er.1, fun j e he => ?_, exS_set hi er.2.2⟩
  by_cases hj : i = j
  · subst hj
    have hl : i < env.length := by
      have := (List.getElem?_eq_some_iff.mp he).1
      rwa [List.length_set] at this
    rw [List.getElem?_set_self hl] at he
    cases he
  · rw [List.getElem?_set_ne hj] at he
    rw [List.getElem?_set_ne hj]
    exact er.2.1 j e he
theorem ER.wipe {K : PySem.W.Frag} {F rho : List Addr} {H : Hp} {env : Env1} {σ : L2.St} (h0 : ca.ex = none) (er : ER K ca F rho H env σ) : ∀ vs : List Nat, ER K ca F rho H (wipeE env vs) (L2.wipe σ vs)
  | [] => er
  | v :: vs => by
    unfold wipeE L2.wipe
    exact (ER.wipe h0 er vs).setN (notEx_of h0 v)
def upG (K : PySem.W.Frag) (ca : CA) (t : Tg) : TG := fun v σ H Q =>
  ∃ F rho ah env env1 d, HR K ca F rho ah H ∧ ER K ca F rho H env σ ∧ RelD K ca F rho H d v ∧ assign t d env = some env1 ∧ ∀ σ', ER K ca F rho H env1 σ' → SameBut (tgS t) σ σ' → Q σ' H
def upGs (K : PySem.W.Frag) (ca : CA) (t : Tgs) : TGs := fun vs σ H Q =>
  ∃ F rho ah env env1 ds, HR K ca F rho ah H ∧ ER K ca F rho H env σ ∧ RelDs K ca F rho H ds vs ∧ assigns t ds env = some env1 ∧ ∀ σ', ER K ca F rho H env1 σ' → SameBut (tgSs t) σ σ' → Q σ' H
theorem g_name {i : Nat} {x : Str} (hne : notEx ca i) (hN : X.N.Nodup) (hi : X.N[i]? = some x) (hx : Loc X.env.scope x) (hf : X.fn x = true ∨ X.env.scope.names.lookup x = some .local) : PG X (.Name x pos) (upG X.K ca (.name i)) := by
  refine imG (pg_name hN hi hx hf) fun v σ H Q ⟨F, rho, ah, env, env1, d, R0, er, rv, ea, h⟩ => ?_
  simp only [assign] at ea
  cases ea
  exact h _ (er.set hne rv) fun vs hv => wipe_set (hv i (by simp [tgS]))
theorem gs_nil : PGs X [] (upGs X.K ca .nil) := by
  refine imGs pgs_nil fun v σ H Q ⟨F, rho, ah, env, env1, d, R0, er, rv, ea, h⟩ => ?_
  cases d with
  | cons _ _ => simp [assigns] at ea
  | nil =>
    simp only [assigns] at ea
    cases ea
    simp only [RelDs] at rv
    exact ⟨rv, h σ er fun _ _ => rfl⟩
theorem gs_cons {e : Expr} {es : List Expr} {t : Tg} {ts : Tgs} (h1 : PG X e (upG X.K ca t)) (h2 : PGs X es (upGs X.K ca ts)) (hs : (assignEach (e :: es) X.env).map (·.2) = PySem.assign e X.env :: (assignEach es X.env).map (·.2)) : PGs X (e :: es) (upGs X.K ca (.cons t ts)) := by
  refine imGs (pgs_cons h1 h2 hs) fun v σ H Q ⟨F, rho, ah, env, env1, d, R0, er, rv, ea, h⟩ => ?_
  cases d with
  | nil => simp [assigns] at ea
  | cons d ds =>
    simp only [assigns] at ea
    split at ea
    · rename_i env2 q
      simp only [RelDs] at rv
      obtain ⟨v, r, rfl, r1, r2⟩ := rv
      refine ⟨v, r, rfl, F, rho, ah, env, env2, d, R0, er, r1, q, fun σ2 er2 sb => ?_⟩
      refine ⟨F, rho, ah, env2, env1, ds, R0, er2, r2, ea, fun σ3 er3 sb3 => h σ3 er3 fun vs hv => ?_⟩
      rw [sb3 vs fun i hi => hv i (by unfold tgSs; exact List.mem_append_right _ hi), sb vs fun i hi => hv i (by unfold tgSs; exact List.mem_append_left _ hi)]
    · cases ea
theorem assigns_len : ∀ {ts : Tgs} {ds : List D} {env env1 : Env1}, assigns ts ds env = some env1 → ds.length = tgN ts
  | .nil, [], _, _, _ => rfl
  | .nil, _ :: _, _, _, h => by simp [assigns] at h
  | .cons _ _, [], _, _, h => by simp [assigns] at h
  | .cons t ts, d :: ds, env, env1, h => by
    simp only [assigns] at h
    split at h
    · rw [List.length_cons, assigns_len h]; rfl
    · cases h
theorem g_tup {es : List Expr} {k : Nat} {ts : Tgs} (hc : X.calm = true) (h : PGs X es (upGs X.K ca ts)) (hn : (assignEach es X.env).length = tgN ts) (hst : (assignEach es X.env).findIdx? (·.1) = none) : PG X (.Tuple es k pos) (upG X.K ca (.tup ts)) := by
  refine imG (pg_tup hc h hn hst) fun v σ H Q ⟨F, rho, ah, env, env1, d, R0, er, rv, ea, h⟩ => ?_
  cases d with
  | tup ds =>
    simp only [assign] at ea
    simp only [RelD] at rv
    obtain ⟨hz, a, vs, rfl, hq, rv⟩ := rv
    exact ⟨a, vs, rfl, hq, by rw [← rv.length]; exact assigns_len ea, F, rho, ah, env, env1, ds, R0, er, rv, ea, h⟩
  | _ => simp [assign] at ea
end
end M
end

section
set_option Elab.async false
set_option linter.all false
set_option maxRecDepth 100000
set_option maxHeartbeats 4000000
/-! The machine, 10: statements. -/
namespace M
open PySem PySem.Spec PyProof.Rows L2
def OutS (K : PySem.W.Frag) (ca : CA) (F rho : List Addr) (H : Hp) (W : WX) (D : Ends) : RS → Prop
  | .nx env ah => ∀ F' rho' H' σ', Ext F rho H F' rho' H' → HR K ca F' rho' ah H' → ER K ca F' rho' H' env σ' → D.nx σ' H'
  | .ret d ah => ∀ F' rho' H' v, Ext F rho H F' rho' H' → HR K ca F' rho' ah H' → RelD K ca F' rho' H' d v → D.rt v H'
  | .exc e env ah => ∀ F' rho' H' σ' cls dx, Ext F rho H F' rho' H' → HR K ca F' rho' ah H' → ER K ca F' rho' H' env σ' → RelX K ca F' rho' H' e cls dx → W cls dx σ' H'
  | .bad => False
def upS (K : PySem.W.Frag) (ca : CA) (W : WX) (m : Env1 → AH → RS) : TS := fun D σ H =>
  ∃ F rho env ah, HR K ca F rho ah H ∧ ER K ca F rho H env σ ∧ OutS K ca F rho H W D (m env ah)
section
variable {K : PySem.W.Frag} {ca : CA} {α β : Type} {rel : List Addr → List Addr → Hp → α → β → Prop} {F rho F1 rho1 : List Addr} {H H1 : Hp} {W W' : WX} {D D' : Ends} {r : RS} {env : Env1} {σ : L2.St}
theorem OutS.ext (h : OutS K ca F rho H W D r) (e : Ext F rho H F1 rho1 H1) (sub : ∀ a ∈ rho, a ∈ F) : OutS K ca F1 rho1 H1 W D r := by
  cases r with
  | nx env ah => exact fun F' rho' H' s e2 R x => h F' rho' H' s (e.trans e2 sub) R x
  | ret d ah => exact fun F' rho' H' v e2 R x => h F' rho' H' v (e.trans e2 sub) R x
  | exc x env ah => exact fun F' rho' H' s c d e2 R x => h F' rho' H' s c d (e.trans e2 sub) R x
  | bad => exact h
theorem OutS.monoW (h : OutS K ca F rho H W D r) (hw : ∀ c d s H, W c d s H → W' c d s H) : OutS K ca F rho H W' D r := by
  cases r with
  | nx env ah => exact h
  | ret d ah => exact h
  | exc x env ah => exact fun F' rho' H' s c d e2 R x y => hw _ _ _ _ (h F' rho' H' s c d e2 R x y)
  | bad => exact h
theorem OutS.monoD (h : OutS K ca F rho H W D r) (h1 : ∀ s H, D.nx s H → D'.nx s H) (h2 : ∀ v H, D.rt v H → D'.rt v H) : OutS K ca F rho H W D' r := by
  cases r with
  | nx env ah => exact fun F' rho' H' s e2 R x => h1 _ _ (h F' rho' H' s e2 R x)
  | ret d ah => exact fun F' rho' H' v e2 R x => h2 _ _ (h F' rho' H' v e2 R x)
  | exc x env ah => exact h
  | bad => exact h
theorem OutS.rs {x : R α} {f : α → AH → RS} (h : OutS K ca F rho H W D (x.rs env f)) {ah : AH} (R0 : HR K ca F rho ah H) (er : ER K ca F rho H env σ) :
    OutG rel K ca F rho H (Nxt rel K ca F rho H fun F1 rho1 H1 a ah1 => OutS K ca F1 rho1 H1 W D (f a ah1)) (fun c d H' => W c d σ H') x := by
  cases x with
  | ok a ah => exact fun F' rho' H' b e R x => ⟨F', rho', ah, a, e, R, x, h.ext e R0.sub⟩
  | exc e ah => exact fun F' rho' H' c d e2 R x => h F' rho' H' σ c d e2 R (er.keep R0.sub R0.mu e2) x
  | bad => exact h
/-- what a statement is to reach so that f goes on -/
def NxS (K : PySem.W.Frag) (ca : CA) (F rho : List Addr) (H : Hp) (W : WX) (D : Ends) (f : Env1 → AH → RS) (σ : L2.St) (H1 : Hp) : Prop :=
  ∃ F1 rho1 env ah, Ext F rho H F1 rho1 H1 ∧ HR K ca F1 rho1 ah H1 ∧ ER K ca F1 rho1 H1 env σ ∧ OutS K ca F1 rho1 H1 W D (f env ah)
theorem OutS.thn {f : Env1 → AH → RS} (h : OutS K ca F rho H W D (r.then f)) (sub : ∀ a ∈ rho, a ∈ F) {bk ct : L2.St → Hp → Prop} : OutS K ca F rho H W { D with nx := NxS K ca F rho H W D f, bk := bk, ct := ct } r := by
  cases r with
  | nx env ah => exact fun F' rho' H' s e2 R x => ⟨F', rho', env, ah, e2, R, x, h.ext e2 sub⟩
  | ret d ah => exact h
  | exc x env ah => exact h
  | bad => exact h
end
theorem imS {X : Cx} {e : Stmt} {t t' : TS} (p : PS X e t) (h : ∀ D σ H, t' D σ H → t D σ H) : PS X e t' := ⟨fun pins s σ H D I hw => p.run pins s σ H D I (h D σ H hw)⟩
theorem imSs {X : Cx} {e : List Stmt} {t t' : TS} (p : PSs X e t) (h : ∀ D σ H, t' D σ H → t D σ H) : PSs X e t' := ⟨fun pins s σ H D I hw => p.run pins s σ H D I (h D σ H hw)⟩
section
variable {X : Cx} {ca : CA} {W : WX} {G : Cfg} {cx : Option Ex} {a b c tg : Expr} {pos : Pos} {st : Stmt} {sts us : List Stmt}
theorem ss_nil : PSs X [] (upS X.K ca W (evSs G cx .nil)) := by
  refine imSs pss_nil fun D σ H ⟨F, rho, env, ah, R0, er, h⟩ => ?_
  simp only [evSs] at h
  exact h _ _ _ _ (Ext.refl _ _ _) R0 er
theorem ss_cons {s1 : CS} {s2 : CSs} (h1 : PS X st (upS X.K ca W (evS G cx s1))) (h2 : PSs X sts (upS X.K ca W (evSs G cx s2))) : PSs X (st :: sts) (upS X.K ca W (evSs G cx (.cons s1 s2))) := by
  refine imSs (pss_cons h1 h2) fun D σ H ⟨F, rho, env, ah, R0, er, h⟩ => ?_
  simp only [evSs] at h
  refine ⟨F, rho, env, ah, R0, er, (h.thn R0.sub (bk := D.bk) (ct := D.ct)).monoD (fun s H1 ⟨F1, rho1, env1, ah1, e1, R1, er1, h1⟩ => ⟨F1, rho1, env1, ah1, R1, er1, h1⟩) fun _ _ q => q⟩
/-- a docstring -/
theorem s_doc {x : Str} {j : Nat} {p1 p2 : Pos} : PS X (.Expr (.Constant (.str x) j p1) p2) (upS X.K ca W (evS G cx .pass)) := by
  refine imS ps_doc fun D σ H ⟨F, rho, env, ah, R0, er, h⟩ => ?_
  simp only [evS] at h
  exact h _ _ _ _ (Ext.refl _ _ _) R0 er
theorem s_pass : PS X (.Pass pos) (upS X.K ca W (evS G cx .pass)) := by
  refine imS ps_pass fun D σ H ⟨F, rho, env, ah, R0, er, h⟩ => ?_
  simp only [evS] at h
  exact h _ _ _ _ (Ext.refl _ _ _) R0 er
theorem s_ex {c1 : CE} (ha : PE X a (upE X.K ca W (evE G cx c1))) (hs : swapsWith a none pos.line X.env = pure false) : PS X (.Expr a pos) (upS X.K ca W (evS G cx (.ex c1))) := by
  refine imS (ps_expr ha hs) fun D σ H ⟨F, rho, env, ah, R0, er, h⟩ => ?_
  simp only [evS] at h
  refine ⟨F, rho, env, ah, R0, er, (h.rs (rel := RelD X.K ca) R0 er).mono fun x H1 ⟨F1, rho1, ah1, d, e1, R1, rx, h1⟩ => ?_⟩
  exact h1 _ _ _ _ (Ext.refl _ _ _) R1 (er.keep R0.sub R0.mu e1)
theorem s_ret {c1 : CE} (ha : PE X a (upE X.K ca W (evE G cx c1))) : PS X (.Return (some a) pos) (upS X.K ca W (evS G cx (.ret c1))) := by
  refine imS (ps_ret ha) fun D σ H ⟨F, rho, env, ah, R0, er, h⟩ => ?_
  simp only [evS] at h
  refine ⟨F, rho, env, ah, R0, er, (h.rs (rel := RelD X.K ca) R0 er).mono fun x H1 ⟨F1, rho1, ah1, d, e1, R1, rx, h1⟩ => ?_⟩
  exact h1 _ _ _ _ (Ext.refl _ _ _) R1 rx
theorem s_retN : PS X (.Return none pos) (upS X.K ca W (evS G cx (.ret (.con .non)))) := by
  refine imS ps_retN fun D σ H ⟨F, rho, env, ah, R0, er, h⟩ => ?_
  simp only [evS, evE, R.rs_ok] at h
  exact h _ _ _ _ (Ext.refl _ _ _) R0 (by simp only [RelD])
/-- what an assignment needs -/
theorem asg_g {t : Tg} {c1 : CE} {D : Ends} {σ : L2.St} {H : Hp} (h : upS X.K ca W (evS G cx (.asg t c1)) D σ H) : upE X.K ca W (evE G cx c1) σ H fun x H1 => upG X.K ca t x σ H1 D.nx := by
  obtain ⟨F, rho, env, ah, R0, er, h⟩ := h
  simp only [evS] at h
  refine ⟨F, rho, env, ah, R0, er, (h.rs (rel := RelD X.K ca) R0 er).mono fun x H1 ⟨F1, rho1, ah1, d, e1, R1, rx, h1⟩ => ?_⟩
  dsimp only at h1
  split at h1
  · rename_i env1 q
    exact ⟨F1, rho1, ah1, env, env1, d, R1, er.keep R0.sub R0.mu e1, rx, q, fun σ' er' _ => h1 _ _ _ _ (Ext.refl _ _ _) R1 er'⟩
  · exact (show False from h1).elim
theorem g_nameS {i : Nat} (hne : notEx ca i) {v : V} {σ : L2.St} {H : Hp} {Q : L2.St → Hp → Prop} (h : upG X.K ca (.name i) v σ H Q) : gName i v σ H Q := by
  obtain ⟨F, rho, ah, env, env1, d, R0, er, rv, ea, h⟩ := h
  simp only [assign] at ea
  cases ea
  exact h _ (er.set hne rv) fun vs hv => wipe_set (hv i (by simp [tgS]))
theorem s_set {i : Nat} {x : Str} {p2 : Pos} {c1 : CE} (hne : notEx ca i) (hN : X.N.Nodup) (hi : X.N[i]? = some x) (hx : Loc X.env.scope x) (ha : PE X a (upE X.K ca W (evE G cx c1))) (hs : swapsWith a (some (.Name x p2)) pos.line X.env = pure false) (hf : X.fn x = true ∨ X.env.scope.names.lookup x = some .local) :
    PS X (.Assign [.Name x p2] a pos) (upS X.K ca W (evS G cx (.asg (.name i) c1))) := by
  refine imS (ps_set hN hi hx ha hs hf) fun D σ H h => ?_
  obtain ⟨F, rho, env, ah, R0, er, h⟩ := asg_g h
  exact ⟨F, rho, env, ah, R0, er, h.mono fun x H1 q => g_nameS hne q⟩
theorem s_asg {t : Tg} {c1 : CE} (ha : PE X a (upE X.K ca W (evE G cx c1))) (hg : PG X tg (upG X.K ca t)) (hs : swapsWithSole [tg] a pos.line X.env = pure false) (hw : swappedStores [tg] a X.env = pure none)
    (h1 : (assignEach [tg] X.env).map (·.2) = [PySem.assign tg X.env]) : PS X (.Assign [tg] a pos) (upS X.K ca W (evS G cx (.asg t c1))) :=
  imS (ps_asg ha hg hs hw h1) fun D σ H h => asg_g h
theorem s_setI {o i e : Expr} {co ci ce : CE} {p2 : Pos} (ho : PE X o (upE X.K ca W (evE G cx co))) (hi : PE X i (upE X.K ca W (evE G cx ci))) (he : PE X e (upE X.K ca W (evE G cx ce)))
    (hA : ∀ v, PySem.assign (.Subscript o i p2) X.env v = (do
      let ov ← holding [v] (eval o X.env)
      let iv ← holding [v, ov] (eval i X.env)
      standAt p2
      holding [v, ov, iv] (setItem ov iv v)
      release [v, ov, iv] []))
    (hs : swapsWithSole [.Subscript o i p2] e pos.line X.env = pure false) (hw : swappedStores [.Subscript o i p2] e X.env = pure none)
    (h1 : (assignEach [.Subscript o i p2] X.env).map (·.2) = [PySem.assign (.Subscript o i p2) X.env]) : PS X (.Assign [.Subscript o i p2] e pos) (upS X.K ca W (evS G cx (.setI co ci ce))) := by
  refine imS (ps_asg he (pg_sub ho hi set_list hA) hs hw h1) fun D σ H ⟨F, rho, env, ah, R0, er, h⟩ => ?_
  simp only [evS] at h
  refine ⟨F, rho, env, ah, R0, er, (h.rs (rel := RelD X.K ca) R0 er).mono fun x H1 ⟨F1, rho1, ah1, d, e1, R1, rx, h1⟩ => ?_⟩
  have er1 := er.keep R0.sub R0.mu e1
  refine ⟨F1, rho1, env, ah1, R1, er1, (h1.rs (rel := RelD X.K ca) R1 er1).mono fun y H2 ⟨F2, rho2, ah2, d2, e2, R2, ry, h2⟩ => ?_⟩
  have er2 := er1.keep R1.sub R1.mu e2
  have rx2 := rx.keep R1.sub R1.mu e2
  refine ⟨F2, rho2, env, ah2, R2, er2, (h2.rs (rel := RelD X.K ca) R2 er2).mono fun z H3 ⟨F3, rho3, ah3, d3, e3, R3, rz, h3⟩ => ?_⟩
  have er3 := er2.keep R2.sub R2.mu e3
  have rx3 := rx2.keep R2.sub R2.mu e3
  have ry3 := ry.keep R2.sub R2.mu e3
  dsimp only at h3
  cases d2 with
  | loc n =>
    cases d3 with
    | int k =>
      dsimp only at h3
      split at h3
      · rename_i xs q
        split at h3
        · rename_i j hj
          simp only [RelD] at ry3
          obtain ⟨p, rfl, hr⟩ := ry3
          have ez := rel_int rz
          subst ez
          obtain ⟨hz, vs, h4, rv⟩ := R3.cells n _ p q hr
          refine ⟨p, vs, k, j, rfl, rfl, h4, by rw [← rv.length]; exact hj, ?_⟩
          have e4 : Ext F3 rho3 H3 F3 rho3 (upd H3 p (.lst (vs.set j x))) := (HR.write (c := .gone) R3 hr (o := .lst (vs.set j x)) trivial trivial).2
          have rv' : RelDs X.K ca F3 rho3 (upd H3 p (.lst (vs.set j x))) (xs.set j d) (vs.set j x) := RelDs.keep R3.sub R3.mu e4 _ _ (rv.set j rx3)
          have R4 := (HR.write (c := .lst (xs.set j d)) R3 hr (o := .lst (vs.set j x)) trivial ⟨by rw [List.length_set]; exact hz, _, rfl, rv'⟩).1
          exact h3 _ _ _ _ e4 R4 (er3.keep R3.sub R3.mu e4)
        · exact (show False from h3).elim
      · exact (show False from h3).elim
    | _ => exact (show False from h3).elim
  | _ => exact (show False from h3).elim
theorem s_if {c1 : CE} {s1 s2 : CSs} (hc : PT X c (upT X.K ca W fun env ah => toB (evE G cx c1 env ah))) (ha : PSs X sts (upS X.K ca W (evSs G cx s1))) (hb : PSs X us (upS X.K ca W (evSs G cx s2))) : PS X (.If c sts us pos) (upS X.K ca W (evS G cx (.ite c1 s1 s2))) := by
  refine imS (ps_if hc ha hb) fun D σ H ⟨F, rho, env, ah, R0, er, h⟩ => ?_
  simp only [evS] at h
  refine ⟨F, rho, env, ah, R0, er, (h.rs (rel := relB) R0 er).mono fun k H1 ⟨F1, rho1, ah1, k', e1, R1, ek, h1⟩ => ?_⟩
  have ek' : k' = k := ek
  subst ek'
  have er1 := er.keep R0.sub R0.mu e1
  dsimp only at h1
  cases k' with
  | true => rw [if_pos rfl] at h1 ⊢; exact ⟨F1, rho1, env, ah1, R1, er1, h1⟩
  | false => rw [if_neg Bool.false_ne_true] at h1 ⊢; exact ⟨F1, rho1, env, ah1, R1, er1, h1⟩
theorem s_for {t : Tg} {ci : CI} {s1 : CSs} (hp : PassesOwn (model X.prog X.w) X.A X.env X.xe) (hc : X.calm = true) (hi : PI X tg a (upI X.K ca W (evI G cx ci))) (hg : PG X tg (upG X.K ca t)) (hb : PSs X sts (upS X.K ca W (evSs G cx s1)))
    (hs : ∀ x, foldedSetIterable a X.env x = pure x) : PS X (.For tg a sts [] pos) (upS X.K ca W (evS G cx (.forS t ci s1))) := by
  refine imS (ps_for hp hc hi hg hb hs) fun D σ H ⟨F, rho, env, ah, R0, er, h⟩ => ?_
  simp only [evS] at h
  refine ⟨F, rho, env, ah, R0, er, (h.rs (rel := relI X.K ca) R0 er).mono fun J H1 ⟨F1, rho1, ah1, p, e1, R1, wk, h1⟩ => ?_⟩
  have er1 := er.keep R0.sub R0.mu e1
  have wk : WalkD X.K ca J p.1 p.2 F1 rho1 H1 := wk
  obtain ⟨ds, g⟩ := p
  dsimp only at h1 wk
  let Pv : Nat → L2.St → Hp → Prop := fun i σ2 H2 => ∃ F2 rho2 env2 ah2, Ext F1 rho1 H1 F2 rho2 H2 ∧ HR X.K ca F2 rho2 ah2 H2 ∧ ER X.K ca F2 rho2 H2 env2 σ2 ∧ OutS X.K ca F2 rho2 H2 W D (forL g t (fun e a => evSs G cx s1 e a) (ds.drop i) env2 ah2)
  refine ⟨fun i m σ2 H2 => m = ds.length - i ∧ i ≤ ds.length ∧ Pv i σ2 H2, ⟨ds.length, by simp, Nat.zero_le _, F1, rho1, env, ah1, Ext.refl _ _ _, R1, er1, h1⟩, ?_⟩
  rintro i m σ2 H2 ⟨rfl, hil, F2, rho2, env2, ah2, e2, R2, er2, h2⟩
  by_cases hlt : i < ds.length
  · rw [List.drop_eq_getElem_cons hlt] at h2
    unfold forL at h2
    split at h2
    · rename_i hgd
      split at h2
      · rename_i env3 q
        refine .inr ⟨wk.go F2 rho2 ah2 H2 i e2 R2 hgd hlt, Pv (i + 1), fun σ' H' p' => ⟨ds.length - (i + 1), by omega, rfl, hlt, p'⟩, fun x H' y => ?_⟩
        obtain ⟨e3, R3, rx⟩ := wk.yld F2 rho2 ah2 H2 i x H' _ e2 R2 hgd y (List.getElem?_eq_getElem hlt)
        refine ⟨F2, rho2, ah2, env2, env3, _, R3, er2.keep R2.sub R2.mu e3, rx, q, fun σ3 er3 _ => ?_⟩
        refine ⟨F2, rho2, env3, ah2, R3, er3, ((h2.ext e3 R2.sub).thn R3.sub (bk := D.nx) (ct := Pv (i + 1))).monoD (fun s H4 ⟨F4, rho4, env4, ah4, e4, R4, er4, h4⟩ => ?_) fun _ _ q => q⟩
        exact ⟨F4, rho4, env4, ah4, (e2.trans e3 R1.sub).trans e4 R1.sub, R4, er4, h4⟩
      · exact (show False from h2).elim
    · exact (show False from h2).elim
  · have e : i = ds.length := by omega
    subst e
    rw [List.drop_length] at h2
    unfold forL at h2
    split at h2
    · rename_i hgd
      exact .inl ⟨wk.stop F2 rho2 ah2 H2 e2 R2 hgd, h2 _ _ _ _ (Ext.refl _ _ _) R2 er2⟩
    · exact (show False from h2).elim
theorem s_while {c1 : CE} {s1 : CSs} (hp : PassesOwn (model X.prog X.w) X.A X.env X.xe) (hc : PT X c (upT X.K ca W fun env ah => toB (evE G cx c1 env ah))) (hb : PSs X sts (upS X.K ca W (evSs G cx s1))) : PS X (.While c sts [] pos) (upS X.K ca W (evS G cx (.whileS c1 s1))) := by
  refine imS (ps_while hp hc hb) fun D σ H ⟨F, rho, env, ah, R0, er, h⟩ => ?_
  simp only [evS] at h
  let Pv : Nat → L2.St → Hp → Prop := fun m σ2 H2 => ∃ F2 rho2 env2 ah2, HR X.K ca F2 rho2 ah2 H2 ∧ ER X.K ca F2 rho2 H2 env2 σ2 ∧ OutS X.K ca F2 rho2 H2 W D (whileL (fun e a => toB (evE G cx c1 e a)) (fun e a => evSs G cx s1 e a) m env2 ah2)
  refine ⟨Pv, ⟨G.wf, F, rho, env, ah, R0, er, h⟩, ?_⟩
  rintro m σ2 H2 ⟨F2, rho2, env2, ah2, R2, er2, h2⟩
  cases m with
  | zero => exact (show False from h2).elim
  | succ m =>
    unfold whileL at h2
    refine ⟨F2, rho2, env2, ah2, R2, er2, (h2.rs (rel := relB) R2 er2).mono fun k H3 ⟨F3, rho3, ah3, k', e3, R3, ek, h3⟩ => ?_⟩
    have ek' : k' = k := ek
    subst ek'
    have er3 := er2.keep R2.sub R2.mu e3
    dsimp only at h3
    cases k' with
    | true =>
      rw [if_pos rfl] at h3 ⊢
      refine ⟨Pv m, fun σ' H' p' => ⟨m, Nat.lt_succ_self _, p'⟩, F3, rho3, env2, ah3, R3, er3, (h3.thn R3.sub (bk := D.nx) (ct := Pv m)).monoD (fun s H4 ⟨F4, rho4, env4, ah4, e4, R4, er4, h4⟩ => ?_) fun _ _ q => q⟩
      exact ⟨F4, rho4, env4, ah4, R4, er4, h4⟩
    | false =>
      rw [if_neg Bool.false_ne_true] at h3 ⊢
      exact h3 _ _ _ _ (Ext.refl _ _ _) R3 er3
end
end M
end

section
set_option Elab.async false
set_option linter.all false
set_option maxRecDepth 100000
set_option maxHeartbeats 4000000
/-! The machine, 11: comprehensions. -/
namespace M
open PySem PySem.Spec PyProof.Rows L2
def WF0 : WX := fun _ _ _ _ => False
section
variable {K : PySem.W.Frag} {ca : CA} {α β γ δ : Type} {rel : List Addr → List Addr → Hp → α → β → Prop} {rel2 : List Addr → List Addr → Hp → γ → δ → Prop} {F rho Fb rb F1 rho1 : List Addr} {H Hb H1 : Hp} {Q2 : δ → Hp → Prop} {E E' : XK} {r : R α}
theorem nox_bind {f : α → AH → R γ} (h : OutG rel2 K ca Fb rb Hb Q2 E (r.nox.bind f)) :
    OutG rel K ca F rho H (fun b H3 => ∃ F3 rho3 ah3 a, Ext F rho H F3 rho3 H3 ∧ HR K ca F3 rho3 ah3 H3 ∧ rel F3 rho3 H3 a b ∧ OutG rel2 K ca Fb rb Hb Q2 E (f a ah3)) E' r := by
  cases r with
  | ok a ah => exact fun F' rho' H' b e R x => ⟨F', rho', ah, a, e, R, x, h⟩
  | exc e ah => exact (show False from h).elim
  | bad => exact (show False from h).elim
theorem wipe_idem : ∀ {σ : L2.St} {vs us : List Nat}, (∀ i ∈ us, i ∈ vs) → L2.wipe (L2.wipe σ us) vs = L2.wipe σ vs
  | σ, vs, [], _ => rfl
  | σ, vs, u :: us, h => by
    show L2.wipe ((L2.wipe σ us).set u none) vs = _
    rw [wipe_set (h u List.mem_cons_self), wipe_idem fun i hi => h i (List.mem_cons_of_mem _ hi)]
/-- what is left of a comprehension -/
def CL (m : Bool) (g : Gd) (tg : Tg) (cond : Env1 → AH → R Bool) (el : Env1 → AH → R D) (env : Env1) (ds : List D) (ah : AH) (acc : List D) : R D := (compL g tg cond el env ds ah).bind fun xs ah3 => mkL m (acc ++ xs) ah3
theorem CL_cons {m : Bool} {g : Gd} {tg : Tg} {cond : Env1 → AH → R Bool} {el : Env1 → AH → R D} {env env1 : Env1} {d : D} {ds acc : List D} {ah : AH} (hg : gdOk g ah = true) (ha : assign tg d env = some env1) :
    CL m g tg cond el env (d :: ds) ah acc = (cond env1 ah).nox.bind fun b ah1 => if b = true then (el env1 ah1).nox.bind fun x ah2 => CL m g tg cond el env ds ah2 (acc ++ [x]) else CL m g tg cond el env ds ah1 acc := by
  unfold CL
  conv => lhs; unfold compL
  rw [if_pos hg, ha]
  dsimp only
  rw [bind_bind]
  congr
  funext b ah1
  cases b with
  | false => rfl
  | true =>
    simp only [if_true]
    rw [bind_bind]
    congr
    funext x ah2
    rw [bind_bind]
    congr
    funext xs ah3
    show mkL m (acc ++ x :: xs) ah3 = _
    rw [List.append_assoc, List.singleton_append]
theorem CL_nil {m : Bool} {g : Gd} {tg : Tg} {cond : Env1 → AH → R Bool} {el : Env1 → AH → R D} {env : Env1} {acc : List D} {ah : AH} (hg : gdOk g ah = true) : CL m g tg cond el env [] ah acc = mkL m acc ah := by
  unfold CL compL
  rw [if_pos hg, bnd_ok, List.append_nil]
theorem CL_gd {m : Bool} {g : Gd} {tg : Tg} {cond : Env1 → AH → R Bool} {el : Env1 → AH → R D} {env : Env1} {ds acc : List D} {ah : AH} (hg : gdOk g ah ≠ true) : CL m g tg cond el env ds ah acc = .bad := by
  unfold CL
  cases ds <;> (unfold compL; rw [if_neg hg]; rfl)
theorem CL_asg {m : Bool} {g : Gd} {tg : Tg} {cond : Env1 → AH → R Bool} {el : Env1 → AH → R D} {env : Env1} {d : D} {ds acc : List D} {ah : AH} (hg : gdOk g ah = true) (ha : assign tg d env = none) : CL m g tg cond el env (d :: ds) ah acc = .bad := by
  unfold CL compL
  rw [if_pos hg, ha]
  rfl
/-- the list that is made: its end -/
theorem made {m : Bool} {acc : List D} {accV : List V} {D1 : Addr} {ah : AH} {Q : VK} (h : OutG (RelD K ca) K ca F1 rho1 H1 Q E (mkL m acc ah)) (R1 : D1 ∉ F1) (hD : H1 D1 = none) (e : Ext F1 rho1 H1 F rho H) (R0 : HR K ca F rho ah H) (hF : D1 ∈ F) (hn : D1 ∉ rho)
    (hd : H D1 = some (.lst accV)) (ra : RelDs K ca F rho H acc accV) (hz : acc.length ≤ sizeLine) : Q (.ref D1) H := by
  unfold mkL at h
  cases m with
  | false =>
    rw [if_neg Bool.false_ne_true] at h
    have lm : ∀ a ∈ F.filter (fun a => decide (a ≠ D1)), a ∈ F := fun a h => (List.mem_filter.mp h).1
    have mem : ∀ a ∈ F, a ≠ D1 → a ∈ F.filter (fun a => decide (a ≠ D1)) := fun a h n => List.mem_filter.mpr ⟨h, decide_eq_true n⟩
    refine h (F.filter fun a => decide (a ≠ D1)) rho H (.ref D1) ⟨e.pre, fun a h => mem a (e.sub a h) fun z => R1 (by rw [← z]; exact h), fun a h n => e.new a (lm a h) n, e.newr, e.keep⟩ (R0.anti lm fun a h => mem a (R0.sub a h) fun z => hn (by rw [← z]; exact h)) ?_
    simp only [RelD]
    exact ⟨hz, D1, accV, rfl, hd, fun z => by simpa using (List.mem_filter.mp z).2, ra.anti lm⟩
  | true =>
    rw [if_pos rfl] at h
    have ew : ExtW F rho H F (rho ++ [D1]) H := ⟨⟨[D1], rfl⟩, fun a h n => absurd h n, fun a o h _ => h⟩
    obtain ⟨t, et⟩ := e.pre
    refine h F (rho ++ [D1]) H (.ref D1) ⟨⟨t ++ [D1], by rw [et, List.append_assoc]⟩, e.sub, e.new, fun a h n => ?_, e.keep⟩ ⟨fun a h => ?_, ?_, by rw [List.length_append, List.length_append, R0.len]; rfl, R0.mu, fun i c a hc ha => ?_⟩ ?_
    · rcases List.mem_append.mp h with z | z
      · exact e.newr a z n
      · rw [List.mem_singleton.mp z]; exact hD
    · rcases List.mem_append.mp h with z | z
      · exact R0.sub a z
      · rw [List.mem_singleton.mp z]; exact hF
    · rw [List.nodup_append]
      refine ⟨R0.nd, by simp, fun a h b hb z => ?_⟩
      rw [List.mem_singleton.mp hb] at z
      exact hn (by rw [← z]; exact h)
    · by_cases hi : i < ah.length
      · rw [List.getElem?_append_left hi] at hc
        rw [List.getElem?_append_left (by rw [R0.len]; exact hi)] at ha
        exact (R0.cells i c a hc ha).keepW R0.mu ew
      · have hl : i < (ah ++ [Cell.lst acc]).length := (List.getElem?_eq_some_iff.mp hc).1
        rw [List.length_append, List.length_singleton] at hl
        have ei : i = ah.length := by omega
        subst ei
        rw [List.getElem?_append_right (Nat.le_refl _), Nat.sub_self] at hc
        rw [List.getElem?_append_right (by rw [R0.len]; exact Nat.le_refl _), R0.len, Nat.sub_self] at ha
        simp at hc ha
        subst hc ha
        exact ⟨hz, accV, hd, RelDs.keepW R0.mu ew _ _ ra⟩
    · simp only [RelD]
      refine ⟨D1, rfl, ?_⟩
      rw [List.getElem?_append_right (by rw [R0.len]; exact Nat.le_refl _), R0.len, Nat.sub_self]
      rfl
end
section
variable {X : Cx} {ca : CA} {W : WX} {G : Cfg} {cx : Option Ex} {a b c tg : Expr} {pos : Pos}
theorem lc_red {m : Bool} {t : Tg} {ci : CI} {cond : CEs} {elt : CE} {own : List Nat} {σ : L2.St} {H : Hp} {Q : VK} {K : PySem.W.Frag} (h0 : ca.ex = none) (hown : ∀ i ∈ tgS t, i ∈ own) (h : upE K ca W (evE G cx (.comp m t ci cond elt own)) σ H Q) :
    tLc (upI K ca W (evI G cx ci)) (upG K ca t) (upT K ca WF0 (evC G cx cond)) (upE K ca WF0 (evE G cx elt)) own σ H Q := by
  obtain ⟨F, rho, env, ah, R0, er, h⟩ := h
  simp only [evE] at h
  refine ⟨F, rho, env, ah, R0, er, (h.bind (rel := relI K ca) R0.sub).mono fun J H1 ⟨F1, rho1, ah1, p, e1, R1, wk, h1⟩ D1 hD => ?_⟩
  have wk : WalkD K ca J p.1 p.2 F1 rho1 H1 := wk
  obtain ⟨ds, g⟩ := p
  dsimp only at h1 wk
  have er1 := er.keep R0.sub R0.mu e1
  have h1 : OutG (RelD K ca) K ca F1 rho1 H1 Q (fun c d H' => W c d σ H') (CL m g t (fun e a => evC G cx cond e a) (fun e a => evE G cx elt e a) (wipeE env own) ds ah1 []) := h1
  let Pv : Nat → Hp → Prop := fun i H2 => ∃ F2 rho2 ah2 acc accV, Ext F1 rho1 H1 F2 rho2 H2 ∧ HR K ca F2 rho2 ah2 H2 ∧ D1 ∈ F2 ∧ D1 ∉ rho2 ∧ H2 D1 = some (.lst accV) ∧ RelDs K ca F2 rho2 H2 acc accV ∧ acc.length ≤ i ∧
    OutG (RelD K ca) K ca F1 rho1 H1 Q (fun c d H' => W c d σ H') (CL m g t (fun e a => evC G cx cond e a) (fun e a => evE G cx elt e a) (wipeE env own) (ds.drop i) ah2 acc)
  obtain ⟨RD, eD⟩ := R1.hide (o := .lst []) hD trivial
  refine ⟨fun i m H2 => m = ds.length - i ∧ i ≤ ds.length ∧ Pv i H2, ⟨ds.length, by simp, Nat.zero_le _, D1 :: F1, rho1, ah1, [], [], eD, RD, List.mem_cons_self, R1.nrho hD, upd_same .., RelDs.nil, Nat.le_refl _, h1⟩, ?_⟩
  rintro i n H2 ⟨rfl, hil, F2, rho2, ah2, acc, accV, e2, R2, hF2, hn2, hD2, ra, hai, h2⟩
  by_cases hg : gdOk g ah2 = true
  · by_cases hlt : i < ds.length
    · rw [List.drop_eq_getElem_cons hlt] at h2
      cases q : M.assign t ds[i] (wipeE env own) with
      | none => rw [CL_asg hg q] at h2; exact (show False from h2).elim
      | some env1 =>
        rw [CL_cons hg q] at h2
        refine .inr ⟨wk.go F2 rho2 ah2 H2 i e2 R2 hg hlt, Pv (i + 1), fun H' p' => ⟨ds.length - (i + 1), by omega, rfl, hlt, p'⟩, fun x H' y => ?_⟩
        obtain ⟨e3, R3, rx⟩ := wk.yld F2 rho2 ah2 H2 i x H' _ e2 R2 hg y (List.getElem?_eq_getElem hlt)
        have e13 := e2.trans e3 R1.sub
        have hD3 := e3.keep D1 _ hD2 hn2
        have ra3 := ra.keep R2.sub R2.mu e3
        refine ⟨F2, rho2, ah2, wipeE env own, env1, _, R3, (er1.wipe h0 own).keep R1.sub R1.mu e13, rx, q, fun σ3 er3 sb => ?_⟩
        refine ⟨by rw [sb own hown, wipe_idem fun i h => h], F2, rho2, env1, ah2, R3, er3, (nox_bind (rel := relB) h2).mono fun b H4 ⟨F4, rho4, ah4, b', e4, R4, eb, h4⟩ => ?_⟩
        have eb' : b' = b := eb
        subst eb'
        have hn4 : D1 ∉ rho4 := fun z => by
          have := e4.newr D1 z hn2
          rw [hD3] at this
          cases this
        have hD4 := e4.keep D1 _ hD3 hn2
        have ra4 := ra3.keep R3.sub R3.mu e4
        have e14 := e13.trans e4 R1.sub
        cases b' with
        | false =>
          rw [if_neg Bool.false_ne_true] at h4 ⊢
          exact ⟨F4, rho4, ah4, acc, accV, e14, R4, e4.sub _ hF2, hn4, hD4, ra4, Nat.le_succ_of_le hai, h4⟩
        | true =>
          rw [if_pos rfl] at h4 ⊢
          refine ⟨F4, rho4, env1, ah4, R4, er3.keep R3.sub R3.mu e4, (nox_bind (rel := RelD K ca) h4).mono fun z H5 ⟨F5, rho5, ah5, d, e5, R5, rz, h5⟩ => ?_⟩
          have hn5 : D1 ∉ rho5 := fun z => by
            have := e5.newr D1 z hn4
            rw [hD4] at this
            cases this
          have hD5 := e5.keep D1 _ hD4 hn4
          have ra5 := ra4.keep R4.sub R4.mu e5
          have e15 := e14.trans e5 R1.sub
          have hF5 := e5.sub _ (e4.sub _ hF2)
          have hl := wk.len
          refine ⟨accV, hD5, by rw [← ra5.length]; omega, ?_⟩
          obtain ⟨R6, e6⟩ := R5.hid (o := .lst (accV ++ [z])) hF5 hn5 trivial
          refine ⟨F5, rho5, ah5, acc ++ [d], accV ++ [z], ⟨e15.pre, e15.sub, e15.new, e15.newr, fun a o ha n => ?_⟩, R6, hF5, hn5, upd_same .., RelDs.app (RelDs.keepW R5.mu e6 _ _ ra5) (RelDs.cons (RelD.keepW R5.mu e6 _ _ rz) RelDs.nil), by rw [List.length_append, List.length_singleton]; omega, h5⟩
          rw [upd_ne (fun q => by rw [q, hD] at ha; cases ha)]
          exact e15.keep a o ha n
    · have ei : i = ds.length := by omega
      subst ei
      rw [List.drop_length, CL_nil hg] at h2
      exact .inl ⟨wk.stop F2 rho2 ah2 H2 e2 R2 hg, made h2 (R1.nF hD) hD e2 R2 hF2 hn2 hD2 ra (Nat.le_trans hai wk.len)⟩
  · rw [CL_gd hg] at h2
    exact (show False from h2).elim
/-- the tests of a clause -/
theorem ts_nil {X : Cx} {W : WX} : PTs X [] (upT X.K ca W (evC G cx .nil)) := by
  refine ⟨fun pins s σ H Q I ⟨F, rho, env, ah, R0, er, h⟩ => pts_nil.run pins s σ H Q I ?_⟩
  simp only [evC] at h
  exact h _ _ _ _ (Ext.refl _ _ _) R0 rfl
theorem ts_one {X : Cx} {W : WX} {c1 : CE} (h : PT X c (upT X.K ca W fun env ah => toB (evE G cx c1 env ah))) : PTs X [c] (upT X.K ca W (evC G cx (.cons c1 .nil))) := by
  refine ⟨fun pins s σ H Q I ⟨F, rho, env, ah, R0, er, hh⟩ => (pts_one h).run pins s σ H Q I ?_⟩
  simp only [evC] at hh
  exact ⟨F, rho, env, ah, R0, er, hh⟩
theorem e_comp {elt : Expr} {iter : Expr} {ifs : List Expr} {scope : Scope} {own : List (Str × Nat)} {m : Bool} {t : Tg} {ci : CI} {cond : CEs} {el : CE} (h0 : ca.ex = none) (hc : X.calm = true) (hN : X.N.Nodup) (hi : PI X tg iter (upI X.K ca W (evI G cx ci))) (ok : BlkOk X.N X.env.scope scope own)
    (hg : ∀ (s : Shared) (H : Hp) (C : Addr) (cl : List (Str × Addr)) (fp : List Addr), PG (X.blk s H scope (compEnvC scope cl C X.env) fp) tg (upG X.K ca t)) (ht : ∀ (s : Shared) (H : Hp) (C : Addr) (cl : List (Str × Addr)) (fp : List Addr), PTs (X.blk s H scope (compEnvC scope cl C X.env) fp) ifs (upT X.K ca WF0 (evC G cx cond)))
    (he : ∀ (s : Shared) (H : Hp) (C : Addr) (cl : List (Str × Addr)) (fp : List Addr), PE (X.blk s H scope (compEnvC scope cl C X.env) fp) elt (upE X.K ca WF0 (evE G cx el))) (hs : ∀ x, foldedSetIterable iter X.env x = pure x) (hown : ∀ i ∈ tgS t, i ∈ own.map (·.2)) :
    PE X (.ListComp elt [⟨tg, iter, ifs, 0⟩] scope pos) (upE X.K ca W (evE G cx (.comp m t ci cond el (own.map (·.2))))) :=
  imE (pe_lc hc hN hi ok hg ht he hs) fun σ H Q h => lc_red h0 hown h
theorem s_setLc {i : Nat} {y : Str} {py spos : Pos} {elt : Expr} {iter : Expr} {ifs : List Expr} {scope : Scope} {own : List (Str × Nat)} {m : Bool} {t : Tg} {ci : CI} {cond : CEs} {el : CE} (h0 : ca.ex = none) (hc : X.calm = true) (hN : X.N.Nodup) (hy : X.N[i]? = some y) (hyl : X.env.scope.names.lookup y = some .local)
    (hsw : swapsWith (.ListComp elt [⟨tg, iter, ifs, 0⟩] scope pos) (some (.Name y py)) spos.line X.env = pure true) (hi : PI X tg iter (upI X.K ca W (evI G cx ci))) (ok : BlkOk X.N X.env.scope scope own)
    (hg : ∀ (s : Shared) (H : Hp) (C : Addr) (cl : List (Str × Addr)) (fp : List Addr), PG (X.blk s H scope (compEnvC scope cl C X.env) fp) tg (upG X.K ca t)) (ht : ∀ (s : Shared) (H : Hp) (C : Addr) (cl : List (Str × Addr)) (fp : List Addr), PTs (X.blk s H scope (compEnvC scope cl C X.env) fp) ifs (upT X.K ca WF0 (evC G cx cond)))
    (he : ∀ (s : Shared) (H : Hp) (C : Addr) (cl : List (Str × Addr)) (fp : List Addr), PE (X.blk s H scope (compEnvC scope cl C X.env) fp) elt (upE X.K ca WF0 (evE G cx el))) (hs : ∀ x, foldedSetIterable iter X.env x = pure x) (hown : ∀ i ∈ tgS t, i ∈ own.map (·.2)) :
    PS X (.Assign [.Name y py] (.ListComp elt [⟨tg, iter, ifs, 0⟩] scope pos) spos) (upS X.K ca W (evS G cx (.asg (.name i) (.comp m t ci cond el (own.map (·.2)))))) := by
  refine imS (ps_setLc hc hN hy hyl hsw hi ok hg ht he hs) fun D σ H h => ?_
  obtain ⟨F, rho, env, ah, R0, er, h⟩ := asg_g h
  exact lc_red h0 hown ⟨F, rho, env, ah, R0, er, h.mono fun x H1 q => g_nameS (notEx_of h0 i) q⟩
end
end M
end

section
set_option Elab.async false
set_option linter.all false
set_option maxRecDepth 100000
set_option maxHeartbeats 4000000
/-! The machine, 12: an own error whose __init__ begins with super().__init__(..). -/
namespace L2
open PySem PySem.Spec PyProof.Rows
theorem lk_nodup : ∀ {l : List (Str × Value)} {x : Str} {u : Value}, (l.map (·.1)).Nodup → (x, u) ∈ l → l.lookup x = some u
  | (y, v) :: l, x, u, nd, h => by
    rw [List.map_cons, List.nodup_cons] at nd
    rcases List.mem_cons.mp h with e | h2
    · cases e
      simp [List.lookup]
    · have hne : (x == y) = false := by
        simp only [beq_eq_false_iff_ne, ne_eq]
        rintro rfl
        exact nd.1 (List.mem_map.mpr ⟨(x, u), h2, rfl⟩)
      simp only [List.lookup, hne]
      exact lk_nodup nd.2 h2
theorem lk_zip {ps : List Str} {us : List Value} {i : Nat} {x : Str} {u : Value} (nd : ps.Nodup) (hl : us.length = ps.length) (h1 : ps[i]? = some x) (h2 : us[i]? = some u) : (ps.zip us).reverse.lookup x = some u := by
  refine lk_nodup ?_ ?_
  · rw [List.map_reverse, List.map_fst_zip (by omega)]
    exact (List.reverse_perm ps).nodup_iff.mpr nd
  · rw [List.mem_reverse]
    have : (ps.zip us)[i]? = some (x, u) := by rw [List.getElem?_zip_eq_some]; exact ⟨h1, h2⟩
    exact List.mem_of_getElem? this
abbrev envS (qual : Str) (scope : Scope) (L f : Addr) (cd : Value) (cc : Addr) : Env := PySem.W.ksEnv qual scope L f cd cc
def cxS (CX : CXT) (P : Program) (w : World) (K : PySem.W.Frag) (mg : Str → Option Value) (base : Heap) (N : List Str) (qual : Str) (scope : Scope) (f : Addr) (cd : Value) (cc : Addr) (A : Around) (outer : List Env) (s : Shared) (H : Hp) (E : XK) : Cx where
  prog := P
  w := w
  K := K
  mg := mg
  base := base
  A := A.deeper (envS qual scope s.heap.objs.size f cd cc)
  N := N
  s_0 := s
  H_0 := H
  env := envS qual scope s.heap.objs.size f cd cc
  outer := outer
  stack := envS qual scope s.heap.objs.size f cd cc :: outer
  ex := []
  calm := true
  fn := fun _ => false
  pn := []
  xe := fun e s' => wpAny (model P w) (A.deeper (envS qual scope s.heap.objs.size f cd cc)) (leaving (envS qual scope s.heap.objs.size f cd cc) e) (fun _ s'' => CX outer H s E e s'') (fun e' s'' => CX outer H s E e' s'') s'
/-- the scope of such an __init__ -/
structure SScope (N P : List Str) (sc : Scope) : Prop where
  kind : sc.kind = .function
  co : sc.isCoroutine = false
  gen : sc.isGenerator = false
  nd : N.Nodup
  pre : N = P
  par : ∀ x ∈ P, sc.names.lookup x = some .local
  nocell : ∀ y ∈ sc.names, y.2 ≠ .cell
  only : ∀ y ∈ sc.names, y.2 = .free → y.1 = "__class__"
  sup : sc.names.lookup ("super" : Str) = some .globalImplicit
  cls : sc.names.lookup ("__class__" : Str) = some .free
section
variable {CX : CXT} {P : Program} {w : World} {K : PySem.W.Frag} {mg : Str → Option Value} {base : Heap} {k : Nat} {f : Addr} {name qual : Str} {params : Arguments} {scope : Scope} {dV kV doc pm cdv ct oc : Value} {an od : Option Addr}
  {osl : Array (Option Value)} {N ps : List Str} {sp : Sp} {cc C : Addr}
theorem inv_startS {A : Around} {outer : List Env} {s : Shared} {H : Hp} {E : XK} {us : List Value} {vs : List V} {h1 : Heap} {tk : Nat} {cl : Value} {cld : Option Addr} {csl : Array (Option Value)}
    (S : SScope N ps scope) (hd : A.handled = none) (e0 : Env0 P w K mg base A outer s H) (hl : vs.length = ps.length) (r : Vals vs us) (hcell : K.lookup cc = some ⟨cl, cld, .cell (some (.ref C)), csl⟩)
    (hns : h1.Ns s.heap.objs.size (fun x => (ps.zip us).reverse.lookup x)) (hk : ∀ b o, s.heap.get? b = some o → h1.get? b = some o) :
    Inv (cxS CX P w K mg base N qual scope f cdv cc A outer s H E) [] (start N vs) H { s with heap := h1, toks := tk } := by
  have noA : ∀ b : Addr, b ∉ (cxS CX P w K mg base N qual scope f cdv cc A outer s H E).ex := fun b z => absurd (show b ∈ ([] : List Addr) from z) (by simp)
  have hcb : base.get? cc = some ⟨cl, cld, .cell (some (.ref C)), csl⟩ := e0.mod.kin _ _ hcell
  have lk : ∀ {y : Str} {c : Addr}, List.lookup y [(("__class__" : Str), cc)] = some c → y = "__class__" ∧ c = cc := fun {y c} h => by
    simp only [List.lookup] at h
    split at h
    · rename_i q
      cases h
      exact ⟨by simpa using q, rfl⟩
    · cases h
  refine ⟨⟨e0.mod, S.kind, rfl, rfl, Nat.le_refl _, fun y z c h1 h2 => ?_, fun y hy => ?_, fun y c h _ => absurd (show false = true from h) Bool.false_ne_true, fun _ => hd, Around.frames_deeper e0.frames, .inr ⟨rfl, rfl⟩, fun b z => absurd z (noA b), e0.bs, e0.bsz, fun b _ _ => noA b, fun b z => absurd z (noA b), e0.funs, e0.frf⟩,
    rfl, e0.bare, Un.kept hk, ⟨_, hns, fun i y v h1 h2 h3 => ?_⟩, fun y c h => ?_, e0.hok.fresh (Nat.le_refl _), fun y c h => ?_, fun p hp => absurd (show p ∈ ([] : List (Addr × Obj)) from hp) (by simp), e0.hok.kept hk, ?_⟩
  · rw [(lk h1).1, (lk h2).1]
  · rcases hy with hy | hy
    · exact absurd rfl (S.nocell _ (PySem.mem_of_lookup hy))
    · have := S.only _ (PySem.mem_of_lookup hy) rfl
      exact ⟨cc, by show List.lookup y [(("__class__" : Str), cc)] = _; rw [show y = "__class__" from this]; rfl⟩
  · have hi : i < vs.length := by
      unfold start at h2
      by_cases hi : i < vs.length
      · exact hi
      · rw [List.getElem?_append_right (by simpa using hi)] at h2
        rw [List.getElem?_replicate] at h2
        split at h2 <;> cases h2
    have ha : vs[i]? = some v := by
      unfold start at h2
      rw [List.getElem?_append_left (by simpa using hi), List.getElem?_map] at h2
      cases e : vs[i]? with
      | none => rw [e] at h2; cases h2
      | some a => rw [e] at h2; cases h2; rfl
    obtain ⟨u, hu, rv⟩ := r.get ha
    have hp : ps[i]? = some y := by rw [← S.pre]; exact h1
    refine ⟨u, rv, .inl ⟨S.par y (List.mem_of_getElem? hp), lk_zip (by rw [← S.pre]; exact S.nd) (by rw [← r.length]; exact hl) hp hu⟩⟩
  · obtain ⟨_, rfl⟩ := lk h
    exact ⟨_, _, hk _ _ (e0.bs _ _ hcb).1, rfl⟩
  · obtain ⟨_, rfl⟩ := lk h
    exact (e0.bs _ _ hcb).2
  · unfold start
    show _ = N.length
    have : ps.length = N.length := by rw [S.pre]
    rw [List.length_append, List.length_map, List.length_replicate]
    omega
variable {X : Cx} {pins : List (Addr × Obj)} {σ : St} {H : Hp} {s : Shared} {a u : Addr} {Q : Value → Shared → Prop} {E : Value → Shared → Prop} {A : Around}
theorem supinit_ok {us : List Value} (T : OexC X.K C) (I : Inv X pins σ H s) (e : H a = some (exo a C none)) (hu : s.heap.get? u = some (PySem.W.kxs_mw "ValueError.__init__" a)) (hl : us.length ≤ sizeLine) (h : ∀ s', Inv X pins σ H s' → Q .none s') :
    wpAny (model X.prog X.w) A (call (.ref u) us) Q E s := by
  obtain ⟨nm, q, N, bs, bm, sn, sub, ab, col, dd, k0, k1, k2, k3, k5, hC, hbm⟩ := T.cls
  obtain ⟨t1, ho⟩ := exo_at I.hok e
  have hCI := I.kIn _ _ hC
  have fin : ∀ (h' : Heap) (t2 : Addr), (∀ b o, b ≠ a → s.heap.get? b = some o → h'.get? b = some o) → h'.get? a = some (PySem.HandSPX.excO C t2) → Q .none { s with heap := h' } := fun h' t2 k hx => by
    have J := I.write (t' := s.toks) (x := a) (e := a) (o := exo a C none) (by rw [e]; exact True.intro) (.inl rfl) k ⟨_, hx⟩ (exo_ok hx)
    have eu : upd H a (exo a C none) = H := by
      funext b
      by_cases hb : b = a
      · rw [hb, upd_same, e]
      · rw [upd_ne hb]
    rw [eu] at J
    exact h _ J
  obtain ⟨hp, g, d, t, os⟩ := s
  refine wpAny_call (codeAny_of_tree ?_)
  show wpAny _ A.in1 (callAny (.ref u) ⟨us, []⟩) _ _ _
  simp only [callAny]
  refine wpAny_bind (wpAny_load hu ?_)
  simp only [PySem.W.kxs_mw, show (Value.type "method-wrapper" == Value.type "method" || Value.type "method-wrapper" == Value.type "builtin_function_or_method" || Value.type "method-wrapper" == Value.type "method-wrapper") = true by decide, if_true]
  refine W.KFB.if_so (by decide) ?_
  refine wpAny_bind (PySem.ESX.check_bound F.excBase_ValueError hCI ho rfl ?_)
  refine wpAny_bind (wpAny_pure (wpAny_pure ?_))
  refine ⟨Code.quiet_builtin _ (by decide +kernel), codeAny_builtin F.excBase_ValueError.initEntry ?_⟩
  rw [Around.under_plainId F.excBase_ValueError.init.plain _]
  wp_walk
  refine fin _ hp.objs.size (fun b o hb ho' => ?_) ?_
  · rw [Heap.get?_update_other _ _ (Ne.symm hb)]
    exact Heap.get?_push_of_some _ ho'
  · rw [Heap.get?_update_self _ (Heap.get?_push_of_some _ ho) rfl]
    rfl
/-- such an __init__ -/
theorem fn_super {a1 : Expr} {rest : List Stmt} {p0 p1 p2 p3 p4 : Pos} {ar : Arg} {vf : Array Value} {file : Str} {tf : Tok} {cda : Addr} {ccl cl : Value} {cdd cld : Option Addr} {ccs csl : Array (Option Value)}
    (lk : K.lookup f = some ⟨oc, od, .func (PySem.W.ksFn name qual params (.Expr (.Call (.Attribute (.Call (.Name "super" p0) [] [] p1) "__init__" p2) [a1] [] p3) p4 :: rest) scope dV kV doc pm an (.ref cda) ct cc), osl⟩) (hcd : PySem.W.codeIn K (.ref cda) qual = true) (S : SScope N ps scope)
    (len : ∀ vs H Q E, sp vs H Q E → vs.length = ps.length) (hp : (params.posonlyargs ++ params.args).head? = some ar) (hps : ps[0]? = some ar.arg)
    (hcode : K.lookup cda = some ⟨ccl, cdd, .fields vf, ccs⟩) (hvs : vf[2]? = some (.str file tf)) (hfile : ((P.main.file : Str) == file) = true)
    (hcell : K.lookup cc = some ⟨cl, cld, .cell (some (.ref C)), csl⟩) {cdD : ClassData} (hD : PySem.W.clsIn K C = some cdD) (hsub : PySem.W.mroIn K C (.ref C) = some true) (hsuper : mg "super" = none)
    (hini : PySem.W.ks_superIn K C C "__init__" = some (some (.builtin "ValueError.__init__"))) (hthird : PySem.W.nsIn K PySem.cStatics "thirdparty.any" = some none) (hVE : PySem.W.subIn K (.ref C) (.type "ValueError") = some true)
    (htop : (P.main.scope.names.lookup ("super" : Str)).isSome = false) (T : OexC K C)
    (hstar : ∀ env : Env, starEach [a1] env = (false, eval a1 env) :: starEach [] env) {pl : Sem Bool}
    (hev : ∀ env : Env, eval (.Call (.Attribute (.Call (.Name "super" p0) [] [] p1) "__init__" p2) [a1] [] p3) env = (do
      let ov ← attributeBase (.Call (.Name "super" p0) [] [] p1) "__init__" env (eval (.Call (.Name "super" p0) [] [] p1) env)
      standAt p2.atName
      let (f, first) ← holding [ov] (getMethod ov "__init__" pl)
      callWith p3 f first (backTo p3 (starEach [a1] env)) []))
    (hbody : ∀ (A : Around) (outer : List Env) (s : Shared) (H : Hp) (vs : List V) (Q : VK) (E : XK), Room k (A.deeper (envS qual scope s.heap.objs.size f (.ref cda) cc)) → sp vs H Q E →
      ∃ (x0 : Addr) (ta : TE) (t : TS), PE (cxS CX P w K mg base N qual scope f (.ref cda) cc A outer s H E) a1 ta ∧ PSs (cxS CX P w K mg base N qual scope f (.ref cda) cc A outer s H E) rest t ∧ vs[0]? = some (.ref x0) ∧ H x0 = some (exo x0 C none) ∧
        ta (start N vs) H fun y H1 => ([y] : List V).length = 1 ∧ H1 x0 = some (exo x0 C none) ∧ t { nx := fun _ H' => Q .non H', rt := Q } (start N vs) H1) :
    FnOk P w K mg base CX (k + 1) f (PySem.W.ksFn name qual params (.Expr (.Call (.Attribute (.Call (.Name "super" p0) [] [] p1) "__init__" p2) [a1] [] p3) p4 :: rest) scope dV kV doc pm an (.ref cda) ct cc) ps sp := by
  refine ⟨len, fun A outer s H args us vs Q E hr e0 hb r hsp => ?_⟩
  have hl := len _ _ _ _ hsp
  have KX : K.In s.heap := e0.mod.kin.keeps fun b o e => (e0.bs b o e).1
  have lim : s.heap.NoLimit := e0.mod.nolimit.keeps fun b o e => (e0.bs b o e).1
  refine ks_codeAny_call_defAt hr.depth (KX _ _ lk) rfl lim (PySem.W.codeRec_of KX hcd) rfl hb S.nocell (fun y hy => S.par y.1 (List.of_mem_zip hy).1) (fun h1 hns hk1 => ?_) S.co S.gen S.kind
  obtain ⟨x0, ta, t, ha, ht, hv0, he, hq⟩ := hbody A outer s H vs Q E (hr.deeper _) hsp
  obtain ⟨u0, hu0, ru0⟩ := r.get hv0
  obtain rfl : u0 = Value.ref x0 := ru0
  have I : Inv (cxS CX P w K mg base N qual scope f (.ref cda) cc A outer s H E) [] (start N vs) H { s with heap := h1, toks := s.toks + (ps.zip us).length } := inv_startS S hr.hd e0 hl r hcell hns hk1
  have fin : ∀ {σ' : St} {H' : Hp} {v : V} {u : Value} {s' : Shared}, Inv (cxS CX P w K mg base N qual scope f (.ref cda) cc A outer s H E) [] σ' H' s' → RelV v u → Q v H' → CE outer P w H s Q u s' :=
    fun {σ' H' v u s'} J rv q => ⟨v, H', J.os, J.bare, J.base, J.hok, rv, q⟩
  have X1 : K.In h1 := KX.keeps hk1
  obtain ⟨t0, hx0⟩ := exo_at I.hok he
  have IA : PySem.W.InstAt h1 x0 ({ cls := .ref C, dict := none, data := .fields #[.ref t0, .none, .none, .none, .bool false, .none] } : Obj) C none := ⟨hx0, rfl, rfl, trivial⟩
  obtain ⟨oD, hD1, hD2⟩ : ∃ oD, h1.get? C = some oD ∧ oD.data = .cls cdD := by
    unfold PySem.W.clsIn at hD
    split at hD
    · rename_i c d cd' sl ho
      cases hD
      exact ⟨_, X1 _ _ ho, rfl⟩
    · cases hD
  have hxC : x0 ≠ C := PySem.W.ks_ne X1 IA hD
  unfold PySem.W.ks_superIn at hini
  rw [hD] at hini
  refine ks_wpAt_execs_cons (ks_wpAt_Expr_any (ks_wpAt_MethodCall (pl := pl) ?_ (hev _)) I.quiet rfl)
  refine ks_wpAt_super_base (env := envS qual scope s.heap.objs.size f (.ref cda) cc) S.sup S.cls (by decide) rfl (X1 _ _ lk) rfl hp rfl (X1 _ _ hcode) rfl hvs hfile htop ?_
  obtain ⟨mb, hb1, hb2⟩ := e0.mod.blt
  have kb : ∀ b o, base.get? b = some o → h1.get? b = some o := fun b o e => hk1 b o (e0.bs b o e).1
  refine PySem.W.ks_loadName_global S.kind S.sup (Calls.loadGlobal_builtin (env := envS qual scope s.heap.objs.size f (.ref cda) cc) (e0.mod.glob.keeps kb) hsuper (hb1.keeps kb) ((hb2 _ (by decide +kernel)).trans (by decide +kernel)) ⟨rfl, ?_⟩)
  refine wpAny_loadName_free S.kind S.cls rfl ⟨_, X1 _ _ hcell, rfl⟩ ?_
  refine wpAny_loadName_local S.kind (S.par _ (List.mem_of_getElem? hps)) hns (lk_zip (by rw [← S.pre]; exact S.nd) (by rw [← r.length]; exact hl) hps hu0) ?_
  obtain ⟨hp0, g, d, tk, os⟩ := s
  refine ks_wpAny_isType_cls hD1 hD2 ⟨rfl, ?_⟩
  refine ks_wpAny_call_super hD1 hD2 hx0 rfl (fun c e => by cases e) (PySem.W.looks_mroIn X1 hsub) (fun h2 e2 k2 => ?_)
  have X2 : K.In h2 := X1.keeps k2
  have I2 : Inv (cxS CX P w K mg base N qual scope f (.ref cda) cc A outer ⟨hp0, g, d, tk, os⟩ H E) [] (start N vs) H ⟨h2, g, d, tk + (ps.zip us).length, os⟩ := I.kept (t' := tk + (ps.zip us).length) k2
  have IA2 : PySem.W.InstAt h2 x0 ({ cls := .ref C, dict := none, data := .fields #[.ref t0, .none, .none, .none, .bool false, .none] } : Obj) C none := ⟨k2 _ _ hx0, rfl, rfl, trivial⟩
  refine PySem.W.kxs_getMethod PySem.W.kxs_ValueError e2 (PySem.W.looks_opaque X2 hthird) (l₀ := cdD.mro) (fun A Q E s k q => wpAny_bind ((PySem.W.looks_clsIn X2 hD) A _ E s k (wpAny_pure q))) rfl X2 hini (IA2.type.andThen (PySem.W.looks_subIn X2 hVE)) hxC (by decide) ?_
  dsimp only
  have hmw : (h2.push (PySem.W.kxs_mw "ValueError.__init__" x0)).get? h2.objs.size = some (PySem.W.kxs_mw "ValueError.__init__" x0) := Heap.get?_push_at rfl rfl
  have I3 : Inv (cxS CX P w K mg base N qual scope f (.ref cda) cc A outer ⟨hp0, g, d, tk, os⟩ H E) [(h2.objs.size, PySem.W.kxs_mw "ValueError.__init__" x0)] (start N vs) H ⟨h2.push (PySem.W.kxs_mw "ValueError.__init__" x0), g, d, tk + (ps.zip us).length + 1, os⟩ := by
    refine (I2.kept (t' := tk + (ps.zip us).length + 1) fun b o e => Heap.get?_push_of_some _ e).pins_of fun p hpm => ?_
    obtain rfl : p = _ := List.mem_singleton.mp hpm
    exact ⟨hmw, I2.hok.fresh (Nat.le_refl _), Nat.ne_of_gt I2.lt, I2.nofs (Nat.le_refl _), fun v z => by cases z⟩
  have hs1 := hstar (envS qual scope hp0.objs.size f (.ref cda) cc)
  have pa := (pa_cons ha pa_nil hs1).run p3 _ _ _ _ (fun ws H1 => ws.length = 1 ∧ H1 x0 = some (exo x0 C none) ∧ t { nx := fun _ H' => Q .non H', rt := Q } (start N vs) H1) I3 hq
  show wpAny _ _ (callWith p3 (.ref h2.objs.size) [] (backTo p3 (starEach [a1] (envS qual scope hp0.objs.size f (.ref cda) cc))) []) _ _ _
  refine PySem.W.kxs_callWith (i := "ValueError.__init__") (x := x0) (by rw [hs1]; rfl) ?_
  have pa2 : wpAny (model P w) (A.deeper (envS qual scope hp0.objs.size f (.ref cda) cc)) (spliced (backTo p3 (starEach [a1] (envS qual scope hp0.objs.size f (.ref cda) cc)))) _ _ _ := pa
  rw [hs1] at pa2 ⊢
  refine Calls.evalArgs_plain (wpAny_mono pa2 (fun ws s1 ⟨vs1, H1, I4, r4, hlen, he4, hq4⟩ => ?_) fun _ _ z => z)
  have hu4 := (I4.pin _ (List.mem_append_right _ (List.mem_singleton.mpr rfl))).1
  refine ⟨hu4, ?_⟩
  refine supinit_ok (X := cxS CX P w K mg base N qual scope f (.ref cda) cc A outer ⟨hp0, g, d, tk, os⟩ H E) T I4 he4 hu4 (by rw [List.nil_append, ← r4.length, hlen, sizeLine_eq]; omega) fun s5 I5 => ?_
  have I6 : Inv (cxS CX P w K mg base N qual scope f (.ref cda) cc A outer ⟨hp0, g, d, tk, os⟩ H E) [] (start N vs) H1 s5 := I5.pins_of fun p hpm => absurd hpm (by simp)
  refine wpAt_of_wpAny (wpAny_mono (ht.run [] s5 (start N vs) H1 _ I6 hq4) (fun fl s' hs => ?_) fun e s' hs => hs)
  cases fl with
  | ret u =>
    obtain ⟨v, σ', H', J, rv, q⟩ := hs
    exact fin J rv q
  | next =>
    obtain ⟨σ', H', J, q⟩ := hs
    exact fin (v := V.non) (u := Value.none) J rfl q
  | brk =>
    obtain ⟨_, _, _, q⟩ := hs
    exact False.elim q
  | cont =>
    obtain ⟨_, _, _, q⟩ := hs
    exact False.elim q
end
end L2
end

section
set_option Elab.async false
set_option linter.all false
set_option maxRecDepth 100000
set_option maxHeartbeats 4000000
/-! The machine, 13: raise. -/
namespace M
open PySem PySem.Spec PyProof.Rows L2
/-- what is known of an own error's class and its __init__ -/
structure SupD (P : Program) (K : PySem.W.Frag) (C f : Addr) (qual : Str) (params : Arguments) (body : List Stmt) (scope : Scope) : Prop where
  ex : ∃ (name : Str) (oc : Value) (od : Option Addr) (osl : Array (Option Value)) (kV doc pm : Value) (an : Option Addr) (cda : Addr) (ct : Value) (cc : Addr) (ccl cl : Value) (cdd cld : Option Addr) (vf : Array Value) (ccs csl : Array (Option Value)) (file : Str) (tf : Tok),
    K.lookup f = some ⟨oc, od, .func (PySem.W.ksFn name qual params body scope .none kV doc pm an (.ref cda) ct cc), osl⟩ ∧ PySem.W.codeIn K (.ref cda) qual = true ∧
      K.lookup cda = some ⟨ccl, cdd, .fields vf, ccs⟩ ∧ vf[2]? = some (.str file tf) ∧ ((P.main.file : Str) == file) = true ∧ K.lookup cc = some ⟨cl, cld, .cell (some (.ref C)), csl⟩
  T : OexC K C
  clsD : ∃ cdD, PySem.W.clsIn K C = some cdD
  sub : PySem.W.mroIn K C (.ref C) = some true
  ini : PySem.W.ks_superIn K C C "__init__" = some (some (.builtin "ValueError.__init__"))
  third : PySem.W.nsIn K PySem.cStatics "thirdparty.any" = some none
  VE : PySem.W.subIn K (.ref C) (.type "ValueError") = some true
  init : PySem.W.findIn K (.ref C) "__init__" = some (some (.ref f))
  ty : PySem.W.typeIn K (.ref f) = some (.type "function")
/-- C(e, ..) makes the error c -/
structure ExAt (P : Program) (w : World) (K : PySem.W.Frag) (mg : Str → Option Value) (base : Heap) (ca : CA) (k c : Nat) (ns : List Str) (xo : List D → Bool) (x : Str) : Prop where
  ex : ∃ (f : Addr) (fd : FuncData) (ps : List Str) (sp : Sp), mg x = some (.ref (ca.f (c % 1000))) ∧ OexC K (ca.f (c % 1000)) ∧ PySem.W.findIn K (.ref (ca.f (c % 1000))) "__init__" = some (some (.ref f)) ∧ PySem.W.typeIn K (.ref f) = some (.type "function") ∧ Binds K fd ps [] ∧ FnOk P w K mg base (L2.CX P w) k f fd ps sp ∧
    ∀ (F rho : List Addr) (ah : AH) (H1 : Hp) (ds : List D) (ws : List V) (a : Addr) (Q : VK), HR K ca F rho ah H1 → RelDs K ca F rho H1 ds ws → ds.length = ns.length → xo ds = true → H1 a = none →
      (∀ d fs H2, d ≠ a → H1 d = none → fs = ns.zip ws.reverse → H2 a = some (exo a (ca.f (c % 1000)) (some d)) → H2 d = some (exd d fs) → upd (del H2 a) d (.xd fs) = upd H1 d (.xd fs) → Q .non H2) →
      sp (.ref a :: ws) (upd H1 a (exo a (ca.f (c % 1000)) none)) Q (fun _ _ _ => False)
theorem ExAt.mono {P : Program} {w : World} {K : PySem.W.Frag} {mg : Str → Option Value} {base : Heap} {ca : CA} {j k c : Nat} {ns : List Str} {xo : List D → Bool} {x : Str} (h : ExAt P w K mg base ca j c ns xo x) (hj : j ≤ k) : ExAt P w K mg base ca k c ns xo x :=
  ⟨let ⟨f, fd, ps, sp, h1, h2, h3, h4, h5, h6, h7⟩ := h.ex; ⟨f, fd, ps, sp, h1, h2, h3, h4, h5, h6.mono hj, h7⟩⟩
theorem del_upd2 {H1 : Hp} {a d : Addr} {o1 o2 : HO} {o : HO} (ha : H1 a = none) (hda : d ≠ a) : upd (del (upd (upd H1 d o1) a o2) a) d o = upd H1 d o := by
  funext b
  by_cases hb : b = d
  · rw [hb, upd_same, upd_same]
  · rw [upd_ne hb, upd_ne hb]
    by_cases hb2 : b = a
    · rw [hb2, del_same, ha]
    · rw [del_ne hb2, upd_ne hb2, upd_ne hb]
/-- one field -/
def spE1 (C : Addr) (f : Str) : Sp := fun vs H Q _ => ∃ a y, vs = [.ref a, y] ∧ H a = some (exo a C none) ∧ ∀ dx, H dx = none → dx ≠ a → Q .non (upd (upd H dx (exd dx [(f, y)])) a (exo a C (some dx)))
def spE2 (C : Addr) (f g : Str) : Sp := fun vs H Q _ => ∃ a y z, vs = [.ref a, y, z] ∧ H a = some (exo a C none) ∧ ∀ dx, H dx = none → dx ≠ a → Q .non (upd (upd (upd H dx (exd dx [(f, y)])) a (exo a C (some dx))) dx (exd dx [(g, z), (f, y)]))
/-- one field, made of a text that is put behind another one -/
def spET (C : Addr) (n : Nat) (f : Str) : Sp := fun vs H Q _ => ∃ (a : Addr) (y : Str), vs = [.ref a, .str y] ∧ y.length + n ≤ sizeLine ∧ H a = some (exo a C none) ∧ ∀ dx, H dx = none → dx ≠ a → Q .non (upd (upd H dx (exd dx [(f, .str y)])) a (exo a C (some dx)))
section
variable {P : Program} {w : World} {K : PySem.W.Frag} {mg : Str → Option Value} {base : Heap} {ca : CA} {c : Nat} {x : Str} {f : Addr} {qual : Str} {params : Arguments} {rest : List Stmt} {scope : Scope} {p0 p1 p2 p3 p4 q1 q2 q3 q4 r1 r2 r3 r4 : Pos} {msg fld : Str} {j : Nat} {pa : Str} {pl : Sem Bool} {a1 : Expr}
abbrev supCall (p0 p1 p2 p3 : Pos) (a1 : Expr) : Expr := .Call (.Attribute (.Call (.Name "super" p0) [] [] p1) "__init__" p2) [a1] [] p3
abbrev EvS (p0 p1 p2 p3 : Pos) (a1 : Expr) (pl : Sem Bool) : Prop := ∀ env : Env, eval (supCall p0 p1 p2 p3 a1) env = (do
      let ov ← attributeBase (.Call (.Name "super" p0) [] [] p1) "__init__" env (eval (.Call (.Name "super" p0) [] [] p1) env)
      standAt p2.atName
      let (f, first) ← holding [ov] (getMethod ov "__init__" pl)
      callWith p3 f first (backTo p3 (starEach [a1] env)) [])
theorem exAt1 (hm : mg x = some (.ref (ca.f (c % 1000))))
    (F0 : SupD P K (ca.f (c % 1000)) f qual params [.Expr (supCall p0 p1 p2 p3 (.Constant (.str msg) j q4)) p4, .Assign [.Attribute (.Name "self" q1) fld q2] (.Name pa q3) r1] scope) (S : SScope ["self", pa] ["self", pa] scope)
    (hp' : (params.posonlyargs ++ params.args).head?.map (·.arg) = some "self") (hsuper : mg "super" = none) (htop : (P.main.scope.names.lookup ("super" : Str)).isSome = false) (hev : EvS p0 p1 p2 p3 (.Constant (.str msg) j q4) pl)
    (hno : PySem.W.findIn K (.ref (ca.f (c % 1000))) fld = some none) (hpa : (pa == ("__debug__" : Str)) = false) (hpa2 : (pa == ("__classdict__" : Str)) = false)
    (hb : ∀ (kV doc pm : Value) (an : Option Addr) (cdv ct : Value) (name : Str) (body : List Stmt) (cc : Addr) (us : List Value), us.length = 2 → bindArgs (PySem.W.ksFn name qual params body scope .none kV doc pm an cdv ct cc) ⟨us, []⟩ = pure ((["self", pa] : List Str).zip us)) :
    ExAt P w K mg base ca 1 c [fld] (fun _ => true) x := by
  obtain ⟨name, oc, od, osl, kV, doc, pm, an, cda, ct, cc, ccl, cl, cdd, cld, vf, ccs, csl, file, tf, lk, hcd, hcode, hvs, hfile, hcell⟩ := F0.ex
  obtain ⟨cdD, hD⟩ := F0.clsD
  obtain ⟨ar, hp, har⟩ := Option.map_eq_some_iff.mp hp'
  refine ⟨f, _, ["self", pa], spE1 (ca.f (c % 1000)) fld, hm, F0.T, F0.init, F0.ty, Binds.all fun us hl => hb kV doc pm an (.ref cda) ct name _ cc us hl, fn_super (k := 0) lk hcd S ?_ hp (by rw [har]; rfl) hcode hvs hfile hcell hD F0.sub hsuper F0.ini F0.third F0.VE htop F0.T (fun env => rfl) hev ?_, ?_⟩
  · rintro vs H Q E ⟨a, y, rfl, _⟩
    rfl
  · intro A outer s H vs Q E hr ⟨a, y, ev, ha, hq⟩
    subst ev
    refine ⟨a, tC (.str msg), tOst K fld (tVar 0) (tVar 1), pe_str, pss_one (ps_ost (pe_var (i := 0) rfl (.inl (S.par _ (by simp))) (by decide +kernel) (by decide +kernel)) (pe_var (i := 1) rfl (.inl (S.par _ (by simp))) hpa hpa2)), rfl, ha, rfl, ha, ?_⟩
    exact ⟨y, rfl, .ref a, rfl, a, ca.f (c % 1000), rfl, F0.T, hno, .inl ⟨ha, fun dx h1 h2 => hq dx h1 h2⟩⟩
  · intro F rho ah H1 ds ws a Q R0 rds hl _ ha hq
    obtain ⟨d, rfl⟩ := List.length_eq_one_iff.mp hl
    have hw := rds.length
    obtain ⟨y, rfl⟩ := List.length_eq_one_iff.mp hw.symm
    refine ⟨a, y, rfl, upd_same .., fun dx h1 h2 => ?_⟩
    rw [upd_ne h2] at h1
    refine hq dx [(fld, y)] _ h2 h1 rfl (upd_same ..) (by rw [upd_ne h2, upd_same]) ?_
    funext b
    by_cases hb : b = dx
    · rw [hb, upd_same, upd_same]
    · rw [upd_ne hb, upd_ne hb]
      by_cases hb2 : b = a
      · rw [hb2, del_same, ha]
      · rw [del_ne hb2, upd_ne hb2, upd_ne hb, upd_ne hb2]
theorem exAt2 {pa2 fld2 : Str} {s1 s2 s3 s4 : Pos} (hm : mg x = some (.ref (ca.f (c % 1000))))
    (F0 : SupD P K (ca.f (c % 1000)) f qual params [.Expr (supCall p0 p1 p2 p3 (.Constant (.str msg) j q4)) p4, .Assign [.Attribute (.Name "self" q1) fld q2] (.Name pa q3) r1, .Assign [.Attribute (.Name "self" s1) fld2 s2] (.Name pa2 s3) s4] scope) (S : SScope ["self", pa, pa2] ["self", pa, pa2] scope)
    (hp' : (params.posonlyargs ++ params.args).head?.map (·.arg) = some "self") (hsuper : mg "super" = none) (htop : (P.main.scope.names.lookup ("super" : Str)).isSome = false) (hev : EvS p0 p1 p2 p3 (.Constant (.str msg) j q4) pl)
    (hno : PySem.W.findIn K (.ref (ca.f (c % 1000))) fld = some none) (hno2 : PySem.W.findIn K (.ref (ca.f (c % 1000))) fld2 = some none) (hpa : (pa == ("__debug__" : Str)) = false) (hpa2 : (pa == ("__classdict__" : Str)) = false) (hpb : (pa2 == ("__debug__" : Str)) = false) (hpb2 : (pa2 == ("__classdict__" : Str)) = false)
    (hb : ∀ (kV doc pm : Value) (an : Option Addr) (cdv ct : Value) (name : Str) (body : List Stmt) (cc : Addr) (us : List Value), us.length = 3 → bindArgs (PySem.W.ksFn name qual params body scope .none kV doc pm an cdv ct cc) ⟨us, []⟩ = pure ((["self", pa, pa2] : List Str).zip us)) :
    ExAt P w K mg base ca 1 c [fld2, fld] (fun _ => true) x := by
  obtain ⟨name, oc, od, osl, kV, doc, pm, an, cda, ct, cc, ccl, cl, cdd, cld, vf, ccs, csl, file, tf, lk, hcd, hcode, hvs, hfile, hcell⟩ := F0.ex
  obtain ⟨cdD, hD⟩ := F0.clsD
  obtain ⟨ar, hp, har⟩ := Option.map_eq_some_iff.mp hp'
  refine ⟨f, _, ["self", pa, pa2], spE2 (ca.f (c % 1000)) fld fld2, hm, F0.T, F0.init, F0.ty, Binds.all fun us hl => hb kV doc pm an (.ref cda) ct name _ cc us hl, fn_super (k := 0) lk hcd S ?_ hp (by rw [har]; rfl) hcode hvs hfile hcell hD F0.sub hsuper F0.ini F0.third F0.VE htop F0.T (fun env => rfl) hev ?_, ?_⟩
  · rintro vs H Q E ⟨a, y, z, rfl, _⟩
    rfl
  · intro A outer s H vs Q E hr ⟨a, y, z, ev, ha, hq⟩
    subst ev
    refine ⟨a, tC (.str msg), tSeq (tOst K fld (tVar 0) (tVar 1)) (tOst K fld2 (tVar 0) (tVar 2)), pe_str, pss_cons (ps_ost (pe_var (i := 0) rfl (.inl (S.par _ (by simp))) (by decide +kernel) (by decide +kernel)) (pe_var (i := 1) rfl (.inl (S.par _ (by simp))) hpa hpa2))
      (pss_one (ps_ost (pe_var (i := 0) rfl (.inl (S.par _ (by simp))) (by decide +kernel) (by decide +kernel)) (pe_var (i := 2) rfl (.inl (S.par _ (by simp))) hpb hpb2))), rfl, ha, rfl, ha, ?_⟩
    refine ⟨y, rfl, .ref a, rfl, a, ca.f (c % 1000), rfl, F0.T, hno, .inl ⟨ha, fun dx h1 h2 => ?_⟩⟩
    exact ⟨z, rfl, .ref a, rfl, a, ca.f (c % 1000), rfl, F0.T, hno2, .inr ⟨dx, [(fld, y)], upd_same .., by rw [upd_ne h2, upd_same], by simp, hq dx h1 h2⟩⟩
  · intro F rho ah H1 ds ws a Q R0 rds hl _ ha hq
    have hw := rds.length
    rw [hl] at hw
    obtain ⟨y, z, rfl⟩ : ∃ y z, ws = [y, z] := by
      match ws, hw with
      | [y, z], _ => exact ⟨y, z, rfl⟩
    refine ⟨a, y, z, rfl, upd_same .., fun dx h1 h2 => ?_⟩
    rw [upd_ne h2] at h1
    refine hq dx [(fld2, z), (fld, y)] _ h2 h1 rfl (by rw [upd_ne (Ne.symm h2), upd_same]) (upd_same ..) ?_
    funext b
    by_cases hb : b = dx
    · rw [hb, upd_same, upd_same]
    · rw [upd_ne hb, upd_ne hb]
      by_cases hb2 : b = a
      · rw [hb2, del_same, ha]
      · rw [del_ne hb2, upd_ne hb, upd_ne hb2, upd_ne hb, upd_ne hb2]
theorem exAtT {q5 q6 : Pos} (hm : mg x = some (.ref (ca.f (c % 1000))))
    (F0 : SupD P K (ca.f (c % 1000)) f qual params [.Expr (supCall p0 p1 p2 p3 (.BinOp (.Constant (.str msg) j q4) .Add (.Name pa q5) q6)) p4, .Assign [.Attribute (.Name "self" q1) fld q2] (.Name pa q3) r1] scope) (S : SScope ["self", pa] ["self", pa] scope)
    (hp' : (params.posonlyargs ++ params.args).head?.map (·.arg) = some "self") (hsuper : mg "super" = none) (htop : (P.main.scope.names.lookup ("super" : Str)).isSome = false) (hev : EvS p0 p1 p2 p3 (.BinOp (.Constant (.str msg) j q4) .Add (.Name pa q5) q6) pl)
    (hno : PySem.W.findIn K (.ref (ca.f (c % 1000))) fld = some none) (hpa : (pa == ("__debug__" : Str)) = false) (hpa2 : (pa == ("__classdict__" : Str)) = false)
    (hb : ∀ (kV doc pm : Value) (an : Option Addr) (cdv ct : Value) (name : Str) (body : List Stmt) (cc : Addr) (us : List Value), us.length = 2 → bindArgs (PySem.W.ksFn name qual params body scope .none kV doc pm an cdv ct cc) ⟨us, []⟩ = pure ((["self", pa] : List Str).zip us)) :
    ExAt P w K mg base ca 1 c [fld] (fun ds => match ds with
      | [.str z] => decide (z.length + msg.length ≤ SZ)
      | _ => false) x := by
  obtain ⟨name, oc, od, osl, kV, doc, pm, an, cda, ct, cc, ccl, cl, cdd, cld, vf, ccs, csl, file, tf, lk, hcd, hcode, hvs, hfile, hcell⟩ := F0.ex
  obtain ⟨cdD, hD⟩ := F0.clsD
  obtain ⟨ar, hp, har⟩ := Option.map_eq_some_iff.mp hp'
  refine ⟨f, _, ["self", pa], spET (ca.f (c % 1000)) msg.length fld, hm, F0.T, F0.init, F0.ty, Binds.all fun us hl => hb kV doc pm an (.ref cda) ct name _ cc us hl, fn_super (k := 0) lk hcd S ?_ hp (by rw [har]; rfl) hcode hvs hfile hcell hD F0.sub hsuper F0.ini F0.third F0.VE htop F0.T (fun env => rfl) hev ?_, ?_⟩
  · rintro vs H Q E ⟨a, y, rfl, _⟩
    rfl
  · intro A outer s H vs Q E hr ⟨a, y, ev, hz, ha, hq⟩
    subst ev
    refine ⟨a, _, tOst K fld (tVar 0) (tVar 1), pe_op op_add_str pe_str (pe_var (i := 1) rfl (.inl (S.par _ (by simp))) hpa hpa2), pss_one (ps_ost (pe_var (i := 0) rfl (.inl (S.par _ (by simp))) (by decide +kernel) (by decide +kernel)) (pe_var (i := 1) rfl (.inl (S.par _ (by simp))) hpa hpa2)), rfl, ha, ?_⟩
    refine ⟨.str y, rfl, msg, y, rfl, rfl, by omega, rfl, ha, ?_⟩
    exact ⟨.str y, rfl, .ref a, rfl, a, ca.f (c % 1000), rfl, F0.T, hno, .inl ⟨ha, fun dx h1 h2 => hq dx h1 h2⟩⟩
  · intro F rho ah H1 ds ws a Q R0 rds hl hxo ha hq
    obtain ⟨d, rfl⟩ := List.length_eq_one_iff.mp hl
    have hw := rds.length
    obtain ⟨y, rfl⟩ := List.length_eq_one_iff.mp hw.symm
    cases d with
    | str z =>
      simp only [RelDs] at rds
      obtain ⟨v, r, e1, e2, e3⟩ := rds
      cases e1
      obtain ⟨hz, rfl⟩ := rel_str e2
      have hxo' : z.length + msg.length ≤ SZ := of_decide_eq_true hxo
      refine ⟨a, _, rfl, by rw [str_len, SZ_eq]; exact hxo', upd_same .., fun dx h1 h2 => ?_⟩
      rw [upd_ne h2] at h1
      refine hq dx [(fld, _)] _ h2 h1 rfl (upd_same ..) (by rw [upd_ne h2, upd_same]) ?_
      funext b
      by_cases hb : b = dx
      · rw [hb, upd_same, upd_same]
      · rw [upd_ne hb, upd_ne hb]
        by_cases hb2 : b = a
        · rw [hb2, del_same, ha]
        · rw [del_ne hb2, upd_ne hb2, upd_ne hb, upd_ne hb2]
    | _ => cases hxo
end
theorem RelDs.rev {K : PySem.W.Frag} {ca : CA} {F rho : List Addr} {H : Hp} : ∀ {ds : List D} {vs : List V}, RelDs K ca F rho H ds vs → RelDs K ca F rho H ds.reverse vs.reverse
  | [], vs, h => by
    simp only [RelDs] at h
    subst h
    exact RelDs.nil
  | d :: ds, vs, h => by
    simp only [RelDs] at h
    obtain ⟨v, r, rfl, h1, h2⟩ := h
    rw [List.reverse_cons, List.reverse_cons]
    exact h2.rev.app (RelDs.cons h1 RelDs.nil)
section
variable {X : Cx} {ca : CA} {W : WX} {G : Cfg} {cx : Option Ex}
theorem s_raise {x : Str} {np pos pos2 : Pos} {e : Expr} {es : List Expr} {cs : CEs} {k c : Nat} (hc : X.calm = true) (tk : Takes X W) (hr : Room (k + 1) X.A) (hx : ExAt X.prog X.w X.K X.mg X.base ca k c (G.xf c) (G.xo c) x) (hg : Gl X x) (ha : PA X (e :: es) (upA X.K ca W (evEs G cx cs)))
    (hdb : (x == ("__debug__" : Str)) = false) (he : starEach (e :: es) X.env = (false, eval e X.env) :: starEach es X.env) (hpl : (backTo pos (starEach es X.env)).any (·.1) = false) (hn : (G.xf c).length ≤ 1000) :
    PS X (.Raise (some (.Call (.Name x np) (e :: es) [] pos)) none pos2) (upS X.K ca W (evS G cx (.raise c cs))) := by
  obtain ⟨f, fd, ps, sp, hm, T, iC, tI, hb, F1, hsp⟩ := hx.ex
  refine imS (ps_raise hc tk (pmk_oex (dvs := []) (ds := []) T iC tI F1 hr hb .nil (passes_call tk fun _ _ _ _ z => z.elim) hg hm ha hdb he hpl)) fun D σ H ⟨F, rho, env, ah, R0, er, h⟩ => ?_
  simp only [evS] at h
  refine ⟨F, rho, env, ah, R0, er, (h.rs (rel := RelDs X.K ca) R0 er).mono fun ws H1 ⟨F1', rho1, ah1, ds, e1, R1, rds, h1⟩ => ?_⟩
  dsimp only at h1
  split at h1
  · rename_i hl
    refine ⟨by rw [← rds.length, hl.1]; exact hn, fun a han => ?_⟩
    rw [List.append_nil]
    refine hsp F1' rho1 ah1 H1 ds ws a _ R1 rds hl.1 hl.2 han fun d fs H2 hda hd efs ea ed eH => ?_
    refine ⟨rfl, d, fs, ea, ed, hd, ?_⟩
    rw [eH]
    have e2 := ext_new (o := .xd fs) R1 hd
    refine h1 F1' rho1 _ σ _ _ e2 (R1.new hd) ((er.keep R0.sub R0.mu e1).keep R1.sub R1.mu e2) ⟨rfl, ?_, fun _ => ⟨d, ws.reverse, rfl, ?_, ?_⟩⟩
    · rw [List.length_reverse]; exact hl.1.symm
    · rw [upd_same, efs]
    · exact (rds.keep R1.sub R1.mu e2).rev
  · exact (show False from h1).elim
end
end M
end

section
set_option Elab.async false
set_option linter.all false
set_option maxRecDepth 100000
set_option maxHeartbeats 4000000
/-! The machine, 14: a few rules more; the static context; the compile function for expressions. -/
namespace M
open PySem PySem.Spec PyProof.Rows L2
section
variable {X : Cx} {ca : CA} {W : WX} {G : Cfg} {cx : Option Ex} {a b c tg : Expr} {pos : Pos}
theorem e_neg {c1 : CE} (ha : PE X a (upE X.K ca W (evE G cx c1))) : PE X (.UnaryOp .USub a pos) (upE X.K ca W (evE G cx (.op .neg (.cons c1 .nil)))) := by
  refine imE (pe_un un_neg ha) fun σ H Q h => ?_
  obtain ⟨F, rho, env, ah, R0, er, h⟩ := upE.congr (fun env ah => ev_op1) h
  refine ⟨F, rho, env, ah, R0, er, (h.bind R0.sub).mono fun x H1 ⟨F1, rho1, ah1, d, e1, R1, rx, h1⟩ => ?_⟩
  cases d with
  | int i =>
    have ex := rel_int rx
    subst ex
    exact ⟨i, rfl, h1 _ _ _ _ (Ext.refl _ _ _) R1 (by simp only [RelD])⟩
  | _ => exact (show False from h1).elim
theorem t_chain {op op' : CmpOp} {p p' : Prim} {c1 c2 c3 : CE} (ho : OpR X (compareOp op) (r2 X.K ca fun d e ah => prim p [d, e] ah)) (ho' : OpR X (compareOp op') (r2 X.K ca fun d e ah => prim p' [d, e] ah))
    (hb' : IsB fun d e ah => prim p [d, e] ah) (hb2 : IsB fun d e ah => prim p' [d, e] ah)
    (ha : PE X a (upE X.K ca W (evE G cx c1))) (hb : PE X b (upE X.K ca W (evE G cx c2))) (hc : PE X c (upE X.K ca W (evE G cx c3))) (hm : lastMarks [op, op'] [b, c] = false) :
    PT X (.Compare a [op, op'] [b, c] pos) (upT X.K ca W fun env ah => toB (evE G cx (.chain p p' c1 c2 c3) env ah)) := by
  refine imT (pt_chain ho ho' ha hb hc hm) fun σ H Q ⟨F, rho, env, ah, R0, er, h⟩ => ?_
  have hz : ∀ z ah1, evE G cx (.chain p p' c1 c2 c3) env ah = .ok z ah1 → ∃ k, z = .bl k := fun z ah1 q => by
    simp only [evE] at q
    cases q1 : evE G cx c1 env ah with
    | exc _ _ => rw [q1] at q; simp at q
    | bad => rw [q1] at q; simp at q
    | ok d ah2 =>
      rw [q1, R.bind_ok] at q
      cases q2 : evE G cx c2 env ah2 with
      | exc _ _ => rw [q2] at q; simp at q
      | bad => rw [q2] at q; simp at q
      | ok e ah3 =>
        rw [q2, R.bind_ok] at q
        rcases hb' d e ah3 with ⟨k, ek⟩ | ek <;> dsimp only at ek
        · rw [ek] at q
          simp only [R.nox_ok, R.bind_ok] at q
          cases k with
          | false => simp only [andK, ok_inj] at q; exact ⟨false, q.1.symm⟩
          | true =>
            simp only [andK] at q
            cases q3 : evE G cx c3 env ah3 with
            | exc _ _ => rw [q3] at q; simp at q
            | bad => rw [q3] at q; simp at q
            | ok f ah4 =>
              rw [q3, R.bind_ok] at q
              rcases hb2 e f ah4 with ⟨k, ek⟩ | ek <;> dsimp only at ek
              · rw [ek] at q; simp only [R.nox_ok, ok_inj] at q; exact ⟨k, q.1.symm⟩
              · rw [ek] at q; simp at q
        · rw [ek] at q; simp at q
  have h2 : upE X.K ca W (evE G cx (.chain p p' c1 c2 c3)) σ H (fun z H' => ∃ k, z = .bl k ∧ Q k H') := ⟨F, rho, env, ah, R0, er, toB_bl hz h⟩
  obtain ⟨F, rho, env, ah, R0, er, h⟩ := h2
  simp only [evE] at h
  refine ⟨F, rho, env, ah, R0, er, (h.bind R0.sub).mono fun x H1 ⟨F1, rho1, ah1, d, e1, R1, rx, h1⟩ => ?_⟩
  have er1 := er.keep R0.sub R0.mu e1
  refine ⟨F1, rho1, env, ah1, R1, er1, (h1.bind R1.sub).mono fun y H2 ⟨F2, rho2, ah2, e, e2, R2, ry, h2⟩ => ?_⟩
  have er2 := er1.keep R1.sub R1.mu e2
  refine ⟨F2, rho2, ah2, d, e, R2, rx.keep R1.sub R1.mu e2 _ _, ry, ?_⟩
  dsimp only at h2
  cases q : prim p [d, e] ah2 with
  | exc _ _ => rw [q] at h2; exact (show False from h2).elim
  | bad => rw [q] at h2; exact (show False from h2).elim
  | ok z ah3 =>
    rw [q] at h2
    show OutV _ _ _ _ _ _ (prim p [d, e] ah2)
    rw [q]
    intro F3 rho3 H3 v e3 R3 rv
    have h3 := OutG.ext h2 e3 R2.sub
    rw [show (M.R.ok z ah3).nox = M.R.ok z ah3 from rfl, bnd_ok] at h3
    cases z with
    | bl k =>
      refine ⟨k, rel_bl rv, ?_⟩
      cases k with
      | true =>
        rw [if_pos rfl]
        refine ⟨F3, rho3, env, ah3, R3, er2.keep R2.sub R2.mu e3, (h3.bind R3.sub).mono fun w H4 ⟨F4, rho4, ah4, f, e4, R4, rw', h4⟩ => ?_⟩
        exact ⟨F4, rho4, ah4, e, f, R4, (ry.keep R2.sub R2.mu e3 _ _).keep R3.sub R3.mu e4 _ _, rw', h4.nox⟩
      | false =>
        rw [if_neg Bool.false_ne_true]
        exact h3 F3 rho3 H3 _ (Ext.refl _ _ _) R3 (by simp only [RelD])
    | _ => exact (show False from h3).elim
end
/-! ### syntax -/
def notStar : Expr → Bool
  | .Starred .. => false
  | _ => true
theorem star_cons {e : Expr} {es : List Expr} {env : Env} (h : notStar e = true) : starEach (e :: es) env = (false, eval e env) :: starEach es env := by
  cases e <;> first | rfl | cases h
theorem back_any {pos : Pos} {l : List (Bool × Sem Value)} : (backTo pos l).any (·.1) = l.any (·.1) := by
  unfold backTo
  rw [List.any_map]
  rfl
theorem star_any {env : Env} : ∀ {es : List Expr}, (∀ e ∈ es, notStar e = true) → (starEach es env).any (·.1) = false
  | [], _ => rfl
  | e :: es, h => by
    rw [star_cons (h e List.mem_cons_self), List.any_cons, star_any fun e he => h e (List.mem_cons_of_mem _ he)]
    rfl
def baseOk : Expr → Bool
  | .Call (.Name _ _) [] [] _ => false
  | _ => true
theorem base_ok {o : Expr} {name : Str} {env : Env} {w : Sem Value} (h : baseOk o = true) : attributeBase o name env w = w := by
  unfold attributeBase
  split
  · cases h
  · rfl
def ixOk : Expr → Bool
  | .Slice .. => false
  | _ => true
theorem ix_ok {e : Expr} (h : ixOk e = true) : PlainIx e := by
  intro o i
  cases e <;> first | rfl | cases h
def truOk : Expr → Bool
  | .UnaryOp .Not _ _ | .BoolOp .. | .IfExp .. | .Compare .. => false
  | _ => true
theorem tru_ok' {e : Expr} {env : Env} (h : truOk e = true) : ∀ whole, isTrue e env whole = (do let v ← whole; standAt e.pos; holding [v] (truthy v)) := by
  intro whole
  cases e with
  | UnaryOp op x p => cases op <;> first | rfl | cases h
  | _ => first | rfl | cases h
def isComp : Expr → Bool
  | .ListComp .. | .SetComp .. | .DictComp .. => true
  | _ => false
theorem swaps_not {e : Expr} {t : Option Expr} {l : Nat} {env : Env} (h : isComp e = false) : swapsWith e t l env = pure false := by
  cases e <;> first | rfl | cases h
def isSet : Expr → Bool
  | .Set .. => true
  | _ => false
theorem behind_not {op : CmpOp} {e : Expr} (h : isSet e = false) : behindInMarks op e = false := by
  cases e <;> first | rfl | cases h
theorem folded_not {e : Expr} {env : Env} (h : isSet e = false) (x : Value) : foldedSetIterable e env x = pure x := by
  cases e <;> first | rfl | cases h
def isTupE : Expr → Bool
  | .Tuple .. => true
  | _ => false
theorem swapped_not {ts : List Expr} {e : Expr} {env : Env} (h : isTupE e = false) : swappedStores ts e env = pure none := by
  unfold swappedStores
  split
  · rename_i q
    split at q
    · cases h
    · cases h
    · cases q
  · rfl

/-! ### the static context -/
structure Ct where
  N : List Str
  sc : Scope
  calm : Bool
  fns : List (Str × Nat)
  glb : List (Str × Nat)
  exs : List (Str × Nat)
  blt : List Str
  mu : List (Nat × Nat)
  exv : Option Str
  ctc : List (Str × List Nat)
def slotOf (N : List Str) (x : Str) : Option Nat := N.findIdx? (fun y => decide (y = x))
theorem slot_ok {N : List Str} {x : Str} {i : Nat} (h : slotOf N x = some i) : N[i]? = some x := by
  unfold slotOf at h
  rw [List.findIdx?_eq_some_iff_getElem] at h
  obtain ⟨hi, h1, _⟩ := h
  rw [List.getElem?_eq_getElem hi]
  exact congrArg some (of_decide_eq_true h1)
def Ct.kd (C : Ct) (x : Str) : Option NameKind := C.sc.names.lookup x
def badN (x : Str) : Bool := decide (x = ("__debug__" : Str)) || decide (x = ("__classdict__" : Str)) || decide (x = ("__name__" : Str))
theorem badN_ok {x : Str} (h : badN x = false) : (x == ("__debug__" : Str)) = false ∧ (x == ("__classdict__" : Str)) = false ∧ x ≠ "__name__" := by
  unfold badN at h
  simp only [Bool.or_eq_false_iff, decide_eq_false_iff_not] at h
  exact ⟨by simpa using h.1.1, by simpa using h.1.2, h.2⟩
structure Fit (X : Cx) (ca : CA) (W : WX) (G : Cfg) (cx : Option Ex) (k : Nat) (C : Ct) : Prop where
  N : X.N = C.N
  nd : X.N.Nodup
  vis : ∀ x, C.kd x = some .local ∨ C.kd x = some .cell ∨ C.kd x = some .free → Vis X.env.scope x
  gl : ∀ x, C.kd x = some .globalImplicit → Gl X x
  loc : ∀ x, C.kd x = some .local → X.env.scope.names.lookup x = some .local
  cel : ∀ x, C.kd x = some .cell → X.env.scope.names.lookup x = some .cell ∧ X.fn x = true
  fr : ∀ x, C.kd x = some .free → X.env.scope.names.lookup x = some .cell ∨ X.env.scope.names.lookup x = some .free
  kind : X.env.scope.kind = .function
  calm : X.calm = C.calm
  un : X.A.units + 66 < cLine
  room : C.calm = true → Room (k + 2) X.A
  blt : ∀ x ∈ C.blt, X.mg x = none
  fns : ∀ x i, (x, i) ∈ C.fns → FnAt X.prog X.w X.K X.mg X.base ca k (G.cf i) x
  glb : ∀ x g, (x, g) ∈ C.glb → ∃ v u, X.mg x = some u ∧ RelV v u ∧ ∀ F rho H, RelD X.K ca F rho H (G.gl g) v
  exs : ∀ x c, (x, c) ∈ C.exs → ExAt X.prog X.w X.K X.mg X.base ca 1 c (G.xf c) (G.xo c) x ∧ (G.xf c).length ≤ 1000
  exv : ∀ x, C.exv = some x → ∀ (f : Str) (p1 p2 : Pos), PE X (.Attribute (.Name x p1) f p2) (upE X.K ca W (evE G cx (.exf f)))
  fc : C.fns ≠ [] ∨ C.exs ≠ [] → C.calm = true
  tk : Takes X W
  ex0 : C.calm = true → ca.ex = none
  ex1 : ∀ x i, C.N[i]? = some x → C.exv ≠ some x → notEx ca i
theorem mem_lk {l : List (Str × Nat)} {x : Str} {i : Nat} (h : l.lookup x = some i) : (x, i) ∈ l := PySem.mem_of_lookup h
/-! ### primitives by their signs -/
def opB (m : Bool) : Operator → Option Prim
  | .Add => some (.add m) | .Sub => some .sub | .Mult => some .mul | .FloorDiv => some .fdiv | .Mod => some .mod | .Pow => some .pow
  | _ => none
def opC : CmpOp → Option Prim
  | .Eq => some .eq | .NotEq => some .ne | .Lt => some .lt | .LtE => some .le | .Gt => some .gt | .GtE => some .ge | .In => some .isin | .NotIn => some .notin
  | _ => none
theorem opB_ok {X : Cx} {ca : CA} {m : Bool} {op : Operator} {p : Prim} (h : opB m op = some p) : OpR X (binaryOp op) (r2 X.K ca fun d e ah => prim p [d, e] ah) := by
  cases op <;> simp only [opB, Option.some.injEq, reduceCtorEq] at h <;> subst h
  · exact op_addD m
  · exact op_subD
  · exact op_mulD
  · exact op_modD
  · exact op_powD
  · exact op_fdivD
theorem opC_ok {X : Cx} {ca : CA} {op : CmpOp} {p : Prim} (hu : X.A.units + 66 < cLine) (h : opC op = some p) : OpR X (compareOp op) (r2 X.K ca fun d e ah => prim p [d, e] ah) := by
  cases op <;> simp only [opC, Option.some.injEq, reduceCtorEq] at h <;> subst h
  · exact op_eqDD (by omega)
  · exact op_neDD (by omega)
  · exact op_ltD
  · exact op_leD
  · exact op_gtD
  · exact op_geD
  · exact op_inDD false (by omega)
  · exact op_inDD true (by omega)

end M
end

section
set_option Elab.async false
set_option linter.all false
set_option maxRecDepth 100000
set_option maxHeartbeats 400000
namespace M
open PySem PySem.Spec PyProof.Rows L2
/-! ### find, upper -/
theorem pre_one {c : Nat} {l : List Nat} : TL.pre [c] l = true ↔ l.head? = some c := by
  unfold TL.pre
  cases l with
  | nil => simp
  | cons a l => simp
theorem find_eq (x : List Nat) (c : Nat) : Txt.find ⟨x.toArray⟩ ⟨[c].toArray⟩ = match x.findIdx? (· == c) with
    | some i => (i : Int)
    | none => -1 := by
  have at1 : ∀ i, StrLaws.At ⟨x.toArray⟩ ⟨[c].toArray⟩ (⟨x.toArray⟩ : Str).length i ↔ x[i]? = some c := fun i => by
    rw [TL.at_iff (by simp [TL.tl])]
    show TL.pre [c] (x.drop i) = true ↔ _
    rw [pre_one, List.head?_drop]
  rcases PyProof.Rows.find_whole ⟨x.toArray⟩ ⟨[c].toArray⟩ with ⟨h, hn⟩ | ⟨i, h, h1, h2⟩
  · rw [h]
    have : x.findIdx? (· == c) = none := by
      rw [List.findIdx?_eq_none_iff]
      intro z hz
      obtain ⟨i, hi, e⟩ := List.getElem_of_mem hz
      have := hn i
      rw [at1, List.getElem?_eq_getElem hi, e] at this
      simpa using this
    rw [this]
  · rw [h]
    have q := (at1 i).mp h1
    obtain ⟨hi, e⟩ := List.getElem?_eq_some_iff.mp q
    have : x.findIdx? (· == c) = some i := by
      rw [List.findIdx?_eq_some_iff_getElem]
      refine ⟨hi, by simp [e], fun j hj => ?_⟩
      have := h2 j hj
      rw [at1, List.getElem?_eq_getElem (by omega)] at this
      simpa using this
    rw [this]
theorem mt_findD {X : Cx} {ca : CA} : MtR X "str.find" (rM X.K ca fun ds ah => prim .find ds ah) := by
  intro pins s σ H x xs v us Q I rx rxs h
  obtain ⟨F, rho, ah, d, ds, R, hx, hs, h⟩ := h
  cases d with
  | str z =>
    cases ds with
    | nil => exact (show False from h).elim
    | cons e es =>
      cases es with
      | cons _ _ =>
        cases e with
        | str y =>
          cases y with
          | nil => exact (show False from h).elim
          | cons c cs => cases cs <;> exact (show False from h).elim
        | _ => exact (show False from h).elim
      | nil =>
        cases e with
        | str y =>
          cases y with
          | nil => exact (show False from h).elim
          | cons c cs =>
            cases cs with
            | cons _ _ => exact (show False from h).elim
            | nil =>
              obtain ⟨y, rfl, he⟩ := rels1 hs
              obtain ⟨h1, rfl⟩ := rel_str hx
              obtain ⟨h2, rfl⟩ := rel_str he
              refine mt_find pins s σ H _ _ v us Q I rx rxs ⟨_, _, rfl, rfl, ?_⟩
              rw [find_eq]
              exact OutV.i h R
        | _ => exact (show False from h).elim
  | _ => exact (show False from h).elim
theorem up1_eq {c : Nat} : PyProof.Rows.up1 c = upperA c := by
  unfold PyProof.Rows.up1 upperA
  rfl
theorem mt_upperD {X : Cx} {ca : CA} : MtR X "str.upper" (rM X.K ca fun ds ah => prim .upper ds ah) := by
  intro pins s σ H x xs v us Q I rx rxs h
  obtain ⟨F, rho, ah, d, ds, R, hx, hs, h⟩ := h
  cases d with
  | str z =>
    cases ds with
    | cons e es => exact (show False from h).elim
    | nil =>
      simp only [prim] at h
      split at h
      · rename_i hz
        obtain ⟨hz1, hz2⟩ := hz
        rw [List.all_eq_true] at hz2
        simp only [RelDs] at hs
        subst hs
        obtain ⟨h1, rfl⟩ := rel_str hx
        refine mt_upper pins s σ H _ _ v us Q I rx rxs ⟨_, rfl, rfl, by rw [str_len]; exact hz1, ?_⟩
        rw [PyProof.Rows.upper_ascii (x := ⟨z.toArray⟩) (fun c hc => of_decide_eq_true (hz2 c (by simpa using hc)))]
        have e : (⟨(⟨z.toArray⟩ : Str).cps.map PyProof.Rows.up1⟩ : Str) = ⟨(z.map upperA).toArray⟩ := by
          have : PyProof.Rows.up1 = upperA := funext fun c => up1_eq
          rw [this]
          simp
        rw [e]
        refine OutV.s h R ⟨by rw [List.length_map]; exact h1.1, fun c hc => ?_⟩
        obtain ⟨b, hb, rfl⟩ := List.mem_map.mp hc
        have := h1.2 b hb
        unfold upperA
        split <;> omega
      · exact (show False from h).elim
  | _ => exact (show False from h).elim
end M
end

section
set_option Elab.async false
set_option linter.all false
set_option maxRecDepth 100000
set_option maxHeartbeats 4000000
/-! The machine, 15: the compile function for expressions, sound. -/
namespace M
open PySem PySem.Spec PyProof.Rows L2
theorem isB_data {f : D → D → Bool} : IsB fun d e ah => onData (fun a b => .bl (f a b)) d e ah := fun d e ah => by
  dsimp only
  unfold onData
  split
  · split
    · exact .inl ⟨_, rfl⟩
    · exact .inr rfl
  · exact .inr rfl
theorem isB_in {neg : Bool} : IsB fun d e ah => pIsin neg d e ah := fun d e ah => by
  dsimp only
  unfold pIsin
  split
  · exact .inl ⟨_, rfl⟩
  · split
    · split
      · exact .inl ⟨_, rfl⟩
      · exact .inr rfl
    · split
      · exact .inl ⟨_, rfl⟩
      · exact .inr rfl
    · exact .inr rfl
theorem isB_ii {p : Prim} {f : Int → Int → Bool} (h : ∀ d e ah, prim p [d, e] ah = match d, e with
    | .int i, .int j => okB (f i j) ah
    | _, _ => .bad) : IsB fun d e ah => prim p [d, e] ah := fun d e ah => by
  dsimp only
  rw [h]
  split
  · exact .inl ⟨_, rfl⟩
  · exact .inr rfl
theorem opC_isB {op : CmpOp} {p : Prim} (h : opC op = some p) : IsB fun d e ah => prim p [d, e] ah := by
  cases op <;> simp only [opC, Option.some.injEq, reduceCtorEq] at h <;> subst h
  · exact isB_data (f := fun d e => D.eqv d e)
  · exact isB_data (f := fun d e => !D.eqv d e)
  · exact isB_ii (f := fun i j => decide (i < j)) fun d e ah => by cases d <;> cases e <;> rfl
  · exact isB_ii (f := fun i j => decide (i ≤ j)) fun d e ah => by cases d <;> cases e <;> rfl
  · exact isB_ii (f := fun i j => decide (j < i)) fun d e ah => by cases d <;> cases e <;> rfl
  · exact isB_ii (f := fun i j => decide (j ≤ i)) fun d e ah => by cases d <;> cases e <;> rfl
  · exact isB_in (neg := false)
  · exact isB_in (neg := true)
/-! ### constants -/
def sOkB (l : List Nat) : Bool := decide (l.length ≤ SZ) && l.all fun c => decide (c < 1114112)
theorem sOkB_ok {l : List Nat} (h : sOkB l = true) : sOk l := by
  unfold sOkB at h
  simp only [Bool.and_eq_true, decide_eq_true_eq, List.all_eq_true] at h
  exact ⟨by rw [SZ_eq]; exact h.1, fun c hc => h.2 c hc⟩
def conD : Const → Option D
  | .none => some .non
  | .bool b => some (.bl b)
  | .int i => some (.int i)
  | .str s => if sOkB s.cps.toList = true then some (.str s.cps.toList) else none
  | _ => none
theorem con_ok {X : Cx} {ca : CA} {W : WX} {G : Cfg} {cx : Option Ex} {k : Const} {d : D} {j : Nat} {pos : Pos} (h : conD k = some d) : PE X (.Constant k j pos) (upE X.K ca W (evE G cx (.con d))) := by
  cases k <;> simp only [conD, Option.some.injEq, reduceCtorEq] at h
  · subst h
    exact e_con (v := .non) pe_non fun F rho H => by simp only [RelD]
  · subst h
    exact e_con (v := .bl _) pe_bl fun F rho H => by simp only [RelD]
  · subst h
    exact e_con (v := .int _) pe_int fun F rho H => by simp only [RelD]
  · split at h
    · rename_i q
      simp only [Option.some.injEq] at h
      subst h
      exact e_con pe_str fun F rho H => by simp only [RelD]; exact ⟨sOkB_ok q, trivial⟩
    · cases h
/-! ### built-in functions -/
def bltB (x : Str) : Option (String × Prim) :=
  if x = ("len" : Str) then some ("len", .len) else if x = ("abs" : Str) then some ("abs", .abs) else if x = ("all" : Str) then some ("all", .all) else
  if x = ("max" : Str) then some ("max", .max2) else if x = ("min" : Str) then some ("min", .min2) else none
def bltT (m : Bool) (x : Str) : Option (String × Prim) :=
  if x = ("int" : Str) then some ("int", .int) else if x = ("str" : Str) then some ("str", .str) else if x = ("tuple" : Str) then some ("tuple", .tuple) else
  if x = ("list" : Str) then some ("list", .list m) else none
def tyOfN (x : Str) : Option Ty :=
  if x = ("int" : Str) then some .int else if x = ("str" : Str) then some .str else if x = ("tuple" : Str) then some .tuple else
  if x = ("list" : Str) then some .list else if x = ("bool" : Str) then some .bool else none
theorem bltB_ok {X : Cx} {ca : CA} {x : Str} {id : String} {p : Prim} (hc : X.calm = true) (h : bltB x = some (id, p)) :
    bootBuiltins x = some (.builtin id) ∧ CallR X (.builtin id) (rN X.K ca fun ds ah => prim p ds ah) ∧ x ≠ "__name__" ∧ (x == ("__debug__" : Str)) = false := by
  unfold bltB at h
  split at h
  · rename_i e; subst e; cases h; exact ⟨by decide +kernel, call_lenD, by decide, by decide⟩
  split at h
  · rename_i e; subst e; cases h; exact ⟨by decide +kernel, call_absD, by decide, by decide⟩
  split at h
  · rename_i e; subst e; cases h; exact ⟨by decide +kernel, call_allD hc, by decide, by decide⟩
  split at h
  · rename_i e; subst e; cases h; exact ⟨by decide +kernel, call_max2D hc, by decide, by decide⟩
  split at h
  · rename_i e; subst e; cases h; exact ⟨by decide +kernel, call_min2D hc, by decide, by decide⟩
  · cases h
theorem bltT_ok {X : Cx} {ca : CA} {m : Bool} {x : Str} {id : String} {p : Prim} (h : bltT m x = some (id, p)) :
    bootBuiltins x = some (.type id) ∧ CallR X (.type id) (rN X.K ca fun ds ah => prim p ds ah) ∧ x ≠ "__name__" ∧ (x == ("__debug__" : Str)) = false := by
  unfold bltT at h
  split at h
  · rename_i e; subst e; cases h; exact ⟨by decide +kernel, call_intD, by decide, by decide⟩
  split at h
  · rename_i e; subst e; cases h; exact ⟨by decide +kernel, call_strD, by decide, by decide⟩
  split at h
  · rename_i e; subst e; cases h; exact ⟨by decide +kernel, call_tupleD, by decide, by decide⟩
  split at h
  · rename_i e; subst e; cases h; exact ⟨by decide +kernel, call_listD m, by decide, by decide⟩
  · cases h
theorem tyOfN_ok {x : Str} {t : Ty} (h : tyOfN x = some t) : bootBuiltins x = some (.type (tyN t)) ∧ x ≠ "__name__" ∧ (x == ("__debug__" : Str)) = false := by
  unfold tyOfN at h
  split at h
  · rename_i e; subst e; cases h; exact ⟨by decide +kernel, by decide, by decide⟩
  split at h
  · rename_i e; subst e; cases h; exact ⟨by decide +kernel, by decide, by decide⟩
  split at h
  · rename_i e; subst e; cases h; exact ⟨by decide +kernel, by decide, by decide⟩
  split at h
  · rename_i e; subst e; cases h; exact ⟨by decide +kernel, by decide, by decide⟩
  split at h
  · rename_i e; subst e; cases h; exact ⟨by decide +kernel, by decide, by decide⟩
  · cases h
/-! ### methods with one argument -/
def methS (m : Bool) (x : Str) : Option (MT × String × Prim) :=
  if x = ("split" : Str) then some (.str, "str.split", .split m) else if x = ("join" : Str) then some (.str, "str.join", .join) else
  if x = ("append" : Str) then some (.list, "list.append", .append) else if x = ("find" : Str) then some (.str, "str.find", .find) else none
theorem methS_ok {X : Cx} {ca : CA} {m : Bool} {x : Str} {t : MT} {id : String} {p : Prim} (h : methS m x = some (t, id, p)) :
    PlainAttrs (mtS t) ∧ Slot (mtS t) x id ∧ typeOf (.builtin id) = pure (.type "method_descriptor") ∧ MtR X id (rM X.K ca fun ds ah => prim p ds ah) := by
  unfold methS at h
  split at h
  · rename_i e; subst e; cases h; exact ⟨F.plainAttrs_str, F.slot_str_split, by kernel_rfl, mt_splitD m⟩
  split at h
  · rename_i e; subst e; cases h; exact ⟨F.plainAttrs_str, F.slot_str_join, by kernel_rfl, mt_joinD⟩
  split at h
  · rename_i e; subst e; cases h; exact ⟨F.plainAttrs_list, F.slot_list_append, by kernel_rfl, mt_appendD⟩
  split at h
  · rename_i e; subst e; cases h; exact ⟨F.plainAttrs_str, F.slot_str_find, by kernel_rfl, mt_findD⟩
  · cases h
/-! ### compile -/
def mapCE (f : Expr → Option CE) : List Expr → Option CEs
  | [] => some .nil
  | e :: es => match f e, mapCE f es with
    | some c, some cs => some (.cons c cs)
    | _, _ => none
def tOk : Expr → Bool
  | .IfExp .. => false
  | _ => true
def foldB (an : Bool) (f : Expr → Option CE) : List Expr → Option CE
  | [] => none
  | [e] => if tOk e = true then f e else none
  | e :: e2 :: es => if tOk e = true then (match f e, foldB an f (e2 :: es) with
    | some c, some d => some (if an = true then .and c d else .or c d)
    | _, _ => none) else none
def optC (f : Expr → Option CE) : Option Expr → Option CE
  | none => some (.con .non)
  | some e => f e
def tgNm (C : Ct) (x : Str) : Option Nat := if C.exv = some x then none else if (match C.kd x with
  | some .local => true
  | some .cell => true
  | _ => false) = true then slotOf C.N x else none
mutual
def compT (C : Ct) : Expr → Option Tg
  | .Name x _ => (tgNm C x).map Tg.name
  | .Tuple es _ _ => if C.calm = true then (compTs C es).map Tg.tup else none
  | _ => none
def compTs (C : Ct) : List Expr → Option Tgs
  | [] => some .nil
  | e :: es => match compT C e, compTs C es with
    | some t, some ts => some (.cons t ts)
    | _, _ => none
end
/-- a comprehension's own slots -/
def ownOf (N : List Str) (sc : Scope) : List (Str × Nat) := sc.names.filterMap fun y => match y.2 with
  | .local | .cell => (slotOf N y.1).map fun i => (y.1, i)
  | _ => none
def Ct.inBlk (C : Ct) (sc : Scope) : Ct := { C with sc := sc, exv := none }
def isNone : Expr → Bool
  | .Constant .none _ _ => true
  | _ => false
def subS (l m : List Nat) : Bool := l.all fun i => decide (i ∈ m)
/-- what is walked; tt: the target is a tuple -/
def compI (C : Ct) (f : Expr → Option CE) (tt : Bool) (e : Expr) : Option CI :=
  match e with
  | .Call (.Name x _) [a] [] _ => if C.kd x = some .globalImplicit ∧ x ∈ C.blt ∧ x = ("range" : Str) ∧ notStar a = true then (f a).map CI.range1
      else if C.kd x = some .globalImplicit ∧ x ∈ C.blt ∧ x = ("enumerate" : Str) ∧ tt = true ∧ notStar a = true then (f a).map CI.enum
      else (f e).map CI.seq
  | .Call (.Name x _) [a, b] [] _ => if C.kd x = some .globalImplicit ∧ x ∈ C.blt ∧ x = ("range" : Str) ∧ notStar a = true ∧ notStar b = true then (match f a, f b with
        | some c, some d => some (.range2 c d)
        | _, _ => none)
      else if C.kd x = some .globalImplicit ∧ x ∈ C.blt ∧ x = ("zip" : Str) ∧ tt = true ∧ notStar a = true ∧ notStar b = true then (match f a, f b with
        | some c, some d => some (.zip c d)
        | _, _ => none)
      else (f e).map CI.seq
  | e => (f e).map CI.seq
def compE : Nat → Ct → Expr → Option CE
  | 0, _, _ => none
  | n + 1, C, e => match e with
    | .Name x _ => if badN x = true then none else match C.kd x with
      | some .local | some .cell | some .free => (slotOf C.N x).map CE.var
      | some .globalImplicit => (C.glb.lookup x).map CE.glob
      | _ => none
    | .Constant k _ _ => (conD k).map CE.con
    | .Tuple es _ _ => (mapCE (compE n C) es).map CE.tup
    | .List es pos => (mapCE (compE n C) es).map (CE.lst (C.mu.contains (pos.line, 1000 * pos.endCol + pos.col)))
    | .BinOp a op b pos => match opB (C.mu.contains (pos.line, 1000 * pos.endCol + pos.col)) op, compE n C a, compE n C b with
      | some p, some c, some d => some (.op p (.cons c (.cons d .nil)))
      | _, _, _ => none
    | .Compare a [op] [b] _ => if isNone b = true ∧ op = .Is then (compE n C a).map fun c => .op .isN (.cons c .nil)
      else if isNone b = true ∧ op = .IsNot then (compE n C a).map fun c => .op .notN (.cons c .nil)
      else match opC op, compE n C a, compE n C b with
      | some p, some c, some d => some (.op p (.cons c (.cons d .nil)))
      | _, _, _ => none
    | .Compare a [op, op2] [b, b2] _ => match opC op, opC op2, compE n C a, compE n C b, compE n C b2 with
      | some p, some p2, some c, some d, some d2 => some (.chain p p2 c d d2)
      | _, _, _, _, _ => none
    | .UnaryOp .Not a _ => if tOk a = true then (compE n C a).map CE.not else none
    | .UnaryOp .USub a _ => (compE n C a).map fun c => .op .neg (.cons c .nil)
    | .BoolOp .And es _ => foldB true (compE n C) es
    | .BoolOp .Or es _ => foldB false (compE n C) es
    | .IfExp c a b _ => if tOk c = true then (match compE n C c, compE n C a, compE n C b with
      | some x, some y, some z => some (.ite x y z)
      | _, _, _ => none) else none
    | .Subscript a (.Slice lo hi none _) pos => match compE n C a, optC (compE n C) lo, optC (compE n C) hi with
      | some x, some y, some z => some (.slice (C.mu.contains (pos.line, 1000 * pos.endCol + pos.col)) x y z)
      | _, _, _ => none
    | .Subscript a i _ => match compE n C a, compE n C i with
      | some x, some y => some (.op .idx (.cons x (.cons y .nil)))
      | _, _ => none
    | .Call (.Name x _) es [] pos => if badN x = true ∨ C.kd x ≠ some .globalImplicit then none else match C.fns.lookup x with
      | some f => (mapCE (compE n C) es).map (CE.call f)
      | none => if x ∈ C.blt then (match es with
          | [] => none
          | a :: as => match bltT (C.mu.contains (pos.line, 1000 * pos.endCol + pos.col)) x with
            | some q => (mapCE (compE n C) (a :: as)).map (CE.op q.2)
            | none => if C.calm = true then (match bltB x with
                | some q => (mapCE (compE n C) (a :: as)).map (CE.op q.2)
                | none => if x = ("isinstance" : Str) then (match as with
                    | [.Name ty _] => if C.kd ty = some .globalImplicit ∧ ty ∈ C.blt then (match tyOfN ty, compE n C a with
                        | some t, some c => some (.op (.isinst t) (.cons c .nil))
                        | _, _ => none) else none
                    | _ => none) else none) else none)
        else none
    | .Call (.Attribute o m apos) [a] [] pos => if baseOk o = true ∧ (apos.endLine == pos.line) = true then (match methS (C.mu.contains (pos.line, 1000 * pos.endCol + pos.col)) m, compE n C o, compE n C a with
        | some q, some c, some d => some (.meth q.1 q.2.2 c (.cons d .nil))
        | _, _, _ => none) else none
    | .Call (.Attribute o m apos) [] [] pos => if baseOk o = true ∧ (apos.endLine == pos.line) = true ∧ m = ("upper" : Str) then (compE n C o).map fun c => .meth .str .upper c .nil else none
    | .Attribute (.Name x _) f _ => match C.exv with
      | some y => if x = y then some (.exf f) else none
      | none => none
    | .ListComp elt [⟨tg, iter, ifs, 0⟩] scope pos => if C.calm = true ∧ blkC C.N C.sc scope (ownOf C.N scope) = true ∧ isSet iter = false then
        (match compT (C.inBlk scope) tg, compI C (compE n C) (isTupE tg) iter, mapCE (compE n (C.inBlk scope)) ifs, compE n (C.inBlk scope) elt with
        | some t, some ci, some cs, some ce => if subS (tgS t) ((ownOf C.N scope).map (·.2)) = true ∧ (decide (ifs.length ≤ 1) && ifs.all tOk) = true then some (.comp (C.mu.contains (pos.line, 1000 * pos.endCol + pos.col)) t ci cs ce ((ownOf C.N scope).map (·.2))) else none
        | _, _, _, _ => none) else none
    | _ => none

/-! ### sound -/
theorem shape {n : Nat} {C : Ct} {e : Expr} {c : CE} (h : compE n C e = some c) : notStar e = true ∧ isSet e = false ∧ ixOk e = true := by
  cases n with
  | zero => simp [compE] at h
  | succ n => cases e <;> first | exact ⟨rfl, rfl, rfl⟩ | simp [compE] at h
section
variable {X : Cx} {ca : CA} {W : WX} {G : Cfg} {cx : Option Ex} {k : Nat} {C : Ct}
theorem mapCE_ok {f : Expr → Option CE} (hf : ∀ e c, f e = some c → PE X e (upE X.K ca W (evE G cx c)) ∧ notStar e = true) : ∀ {es : List Expr} {cs : CEs}, mapCE f es = some cs → PA X es (upA X.K ca W (evEs G cx cs)) ∧ ∀ e ∈ es, notStar e = true
  | [], cs, h => by
    simp only [mapCE, Option.some.injEq] at h
    subst h
    exact ⟨a_nil, fun e he => by cases he⟩
  | e :: es, cs, h => by
    simp only [mapCE] at h
    split at h
    · rename_i c cs2 h1 h2
      simp only [Option.some.injEq] at h
      subst h
      obtain ⟨p1, q1⟩ := hf e c h1
      obtain ⟨p2, q2⟩ := mapCE_ok hf h2
      exact ⟨a_cons p1 p2 (star_cons q1), fun z hz => (List.mem_cons.mp hz).elim (fun q => by rw [q]; exact q1) (q2 z)⟩
    · cases h
theorem foldA_ok {f : Expr → Option CE} {pos : Pos} (hf : ∀ e c, f e = some c → PE X e (upE X.K ca W (evE G cx c)) ∧ (tOk e = true → PT X e (upT X.K ca W fun env ah => toB (evE G cx c env ah)))) :
    ∀ {es : List Expr} {c : CE}, foldB true f es = some c → PE X (.BoolOp .And es pos) (upE X.K ca W (evE G cx c)) ∧ PW X (.BoolOp .And es pos) (upT X.K ca W fun env ah => toB (evE G cx c env ah))
  | [], c, h => by cases h
  | [e], c, h => by
    simp only [foldB] at h
    split at h
    · rename_i ht
      obtain ⟨p1, q1⟩ := hf e c h
      exact ⟨pe_one p1, w_and1 (q1 ht)⟩
    · cases h
  | e :: e2 :: es, c, h => by
    simp only [foldB] at h
    split at h
    · rename_i ht
      split at h
      · rename_i c1 d1 h1 h2
        simp only [if_true, Option.some.injEq] at h
        subst h
        obtain ⟨p1, q1⟩ := hf e c1 h1
        obtain ⟨p2, q2⟩ := foldA_ok hf h2
        exact ⟨e_and p1 p2, w_and (q1 ht) q2⟩
      · cases h
    · cases h
theorem foldO_ok {f : Expr → Option CE} {pos : Pos} (hf : ∀ e c, f e = some c → PE X e (upE X.K ca W (evE G cx c)) ∧ (tOk e = true → PT X e (upT X.K ca W fun env ah => toB (evE G cx c env ah)))) :
    ∀ {es : List Expr} {c : CE}, foldB false f es = some c → PE X (.BoolOp .Or es pos) (upE X.K ca W (evE G cx c)) ∧ PW X (.BoolOp .Or es pos) (upT X.K ca W fun env ah => toB (evE G cx c env ah))
  | [], c, h => by cases h
  | [e], c, h => by
    simp only [foldB] at h
    split at h
    · rename_i ht
      obtain ⟨p1, q1⟩ := hf e c h
      exact ⟨pe_one p1, w_or1 (q1 ht)⟩
    · cases h
  | e :: e2 :: es, c, h => by
    simp only [foldB] at h
    split at h
    · rename_i ht
      split at h
      · rename_i c1 d1 h1 h2
        simp only [Bool.false_eq_true, if_false, Option.some.injEq] at h
        subst h
        obtain ⟨p1, q1⟩ := hf e c1 h1
        obtain ⟨p2, q2⟩ := foldO_ok hf h2
        exact ⟨e_or p1 p2, w_or (q1 ht) q2⟩
      · cases h
    · cases h
theorem optC_ok {f : Expr → Option CE} (hf : ∀ e c, f e = some c → PE X e (upE X.K ca W (evE G cx c))) {o : Option Expr} {c : CE} (h : optC f o = some c) : PO X o (upO X.K ca W fun env ah => (evE G cx c env ah).bind partK) := by
  cases o with
  | none =>
    simp only [optC, Option.some.injEq] at h
    subst h
    exact o_none
  | some e => exact o_some (hf e c h)
theorem tgNm_ok (ft : Fit X ca W G cx k C) {x : Str} {i : Nat} (h : tgNm C x = some i) : notEx ca i ∧ X.N[i]? = some x ∧ Loc X.env.scope x ∧ (X.fn x = true ∨ X.env.scope.names.lookup x = some .local) := by
  unfold tgNm at h
  split at h
  · cases h
  rename_i hx
  cases hk : C.kd x with
  | none => rw [hk] at h; cases h
  | some kd =>
    rw [hk] at h
    cases kd with
    | «local» =>
      rw [if_pos rfl] at h
      exact ⟨ft.ex1 x i (slot_ok h) hx, by rw [ft.N]; exact slot_ok h, .inl (ft.loc x hk), .inr (ft.loc x hk)⟩
    | cell =>
      rw [if_pos rfl] at h
      obtain ⟨h1, h2⟩ := ft.cel x hk
      exact ⟨ft.ex1 x i (slot_ok h) hx, by rw [ft.N]; exact slot_ok h, .inr h1, .inl h2⟩
    | free => cases h
    | globalExplicit => cases h
    | globalImplicit => cases h
theorem notStar_T {e : Expr} {t : Tg} (h : compT C e = some t) : notStar e = true := by
  cases e <;> first | rfl | simp [compT] at h
theorem ass_cons {e : Expr} {es : List Expr} {env : Env} (h : notStar e = true) : assignEach (e :: es) env = (false, PySem.assign e env) :: assignEach es env := by
  cases e <;> first | rfl | cases h
mutual
theorem compT_ok (ft : Fit X ca W G cx k C) : ∀ {e : Expr} {t : Tg}, compT C e = some t → PG X e (upG X.K ca t)
  | .Name x pos, t, h => by
    simp only [compT, Option.map_eq_some_iff] at h
    obtain ⟨i, hi, rfl⟩ := h
    obtain ⟨h0, h1, h2, h3⟩ := tgNm_ok ft hi
    exact g_name h0 ft.nd h1 h2 h3
  | .Tuple es kk pos, t, h => by
    simp only [compT] at h
    split at h
    · rename_i hc
      simp only [Option.map_eq_some_iff] at h
      obtain ⟨ts, hts, rfl⟩ := h
      obtain ⟨p, q1, q2⟩ := compTs_ok ft hts
      exact g_tup (by rw [ft.calm]; exact hc) p q1 q2
    · cases h
  | .BoolOp .., t, h => by simp [compT] at h
  | .NamedExpr .., t, h => by simp [compT] at h
  | .BinOp .., t, h => by simp [compT] at h
  | .UnaryOp .., t, h => by simp [compT] at h
  | .Lambda .., t, h => by simp [compT] at h
  | .IfExp .., t, h => by simp [compT] at h
  | .Dict .., t, h => by simp [compT] at h
  | .Set .., t, h => by simp [compT] at h
  | .ListComp .., t, h => by simp [compT] at h
  | .SetComp .., t, h => by simp [compT] at h
  | .DictComp .., t, h => by simp [compT] at h
  | .GeneratorExp .., t, h => by simp [compT] at h
  | .Await .., t, h => by simp [compT] at h
  | .Yield .., t, h => by simp [compT] at h
  | .YieldFrom .., t, h => by simp [compT] at h
  | .Compare .., t, h => by simp [compT] at h
  | .Call .., t, h => by simp [compT] at h
  | .FormattedValue .., t, h => by simp [compT] at h
  | .JoinedStr .., t, h => by simp [compT] at h
  | .Constant .., t, h => by simp [compT] at h
  | .Attribute .., t, h => by simp [compT] at h
  | .Subscript .., t, h => by simp [compT] at h
  | .Starred .., t, h => by simp [compT] at h
  | .List .., t, h => by simp [compT] at h
  | .Slice .., t, h => by simp [compT] at h
theorem compTs_ok (ft : Fit X ca W G cx k C) : ∀ {es : List Expr} {ts : Tgs}, compTs C es = some ts → PGs X es (upGs X.K ca ts) ∧ (assignEach es X.env).length = tgN ts ∧ (assignEach es X.env).findIdx? (·.1) = none
  | [], ts, h => by
    simp only [compTs, Option.some.injEq] at h
    subst h
    exact ⟨gs_nil, rfl, rfl⟩
  | e :: es, ts, h => by
    simp only [compTs] at h
    split at h
    · rename_i t ts2 h1 h2
      simp only [Option.some.injEq] at h
      subst h
      have p1 := compT_ok ft h1
      obtain ⟨p2, q1, q2⟩ := compTs_ok ft h2
      have ea := ass_cons (es := es) (env := X.env) (notStar_T h1)
      refine ⟨gs_cons p1 p2 (by rw [ea]; rfl), by rw [ea, List.length_cons, q1]; rfl, ?_⟩
      rw [ea, List.findIdx?_cons, q2]
      rfl
    · cases h
end
end
end M
end

section
set_option Elab.async false
set_option linter.all false
set_option maxRecDepth 100000
set_option maxHeartbeats 4000000
/-! The machine, 16: compiled expressions are sound. -/
namespace M
open PySem PySem.Spec PyProof.Rows L2
theorem lk_free {sc : Scope} : ∀ {names : List (Str × NameKind)} {x : Str}, names.lookup x = some .free →
    (names.map fun (n, k) => if (k == NameKind.free && sc.kind == .function && sc.names.lookup n == some .cell) then (n, NameKind.cell) else (n, k)).lookup x = some .free ∨
    (names.map fun (n, k) => if (k == NameKind.free && sc.kind == .function && sc.names.lookup n == some .cell) then (n, NameKind.cell) else (n, k)).lookup x = some .cell
  | [], _, h => by simp at h
  | (n, k₀) :: r, x, h => by
    have ih := @lk_free sc r x
    show List.lookup x ((if (k₀ == NameKind.free && sc.kind == .function && sc.names.lookup n == some .cell) = true then (n, NameKind.cell) else (n, k₀)) :: (r.map _)) = some .free ∨ List.lookup x ((if (k₀ == NameKind.free && sc.kind == .function && sc.names.lookup n == some .cell) = true then (n, NameKind.cell) else (n, k₀)) :: (r.map _)) = some .cell
    cases hx : x == n with
    | true =>
      simp only [List.lookup_cons, hx] at h
      cases h
      by_cases hc : (NameKind.free == NameKind.free && sc.kind == .function && sc.names.lookup n == some .cell) = true
      · rw [if_pos hc]; simp only [List.lookup_cons, hx]; exact .inr trivial
      · rw [if_neg hc]; simp only [List.lookup_cons, hx]; exact .inl trivial
    | false =>
      simp only [List.lookup_cons, hx] at h
      by_cases hc : (k₀ == NameKind.free && sc.kind == .function && sc.names.lookup n == some .cell) = true
      · rw [if_pos hc]; simp only [List.lookup_cons, hx]; exact ih h
      · rw [if_neg hc]; simp only [List.lookup_cons, hx]; exact ih h
section
variable {X : Cx} {ca : CA} {W : WX} {G : Cfg} {cx : Option Ex} {k : Nat} {C : Ct}
theorem Fit.blk (ft : Fit X ca W G cx k C) (hcalm : C.calm = true) {scope : Scope} (hk : scope.kind = .function) (s : Shared) (H : Hp) (Cc : Addr) (cl : List (Str × Addr)) (fp : List Addr) : Fit (X.blk s H scope (compEnvC scope cl Cc X.env) fp) ca WF0 G cx k (C.inBlk scope) where
  N := ft.N
  nd := ft.nd
  vis := fun x h => by
    rcases h with h | h | h
    · exact .inl (lookup_relS_keep (by decide) h)
    · exact .inr (.inl (lookup_relS_keep (by decide) h))
    · rcases lk_free (sc := X.env.scope) h with h | h
      · exact .inr (.inr h)
      · exact .inr (.inl h)
  gl := fun x h => lookup_relS_keep (by decide) h
  loc := fun x h => lookup_relS_keep (by decide) h
  cel := fun x h => ⟨lookup_relS_keep (by decide) h, by
    show (scope.names.lookup x == some .cell) = true
    have h' : scope.names.lookup x = some .cell := h
    rw [h']
    rfl⟩
  fr := fun x h => (lk_free (sc := X.env.scope) h).symm
  kind := hk
  calm := ft.calm
  un := ft.un
  room := ft.room
  blt := ft.blt
  fns := ft.fns
  glb := ft.glb
  exs := ft.exs
  exv := fun x h => by cases h
  ex0 := ft.ex0
  ex1 := fun x i _ h => notEx_of (ft.ex0 hcalm) i
  fc := ft.fc
  tk := fun u s' ⟨a, B, sI, pins, σ, H, cls, d, e, I, nb, up, sky, na, os, ag, w⟩ => w.elim
theorem Fit.blkOk (ft : Fit X ca W G cx k C) {scope : Scope} {own : List (Str × Nat)} (h : blkC C.N C.sc scope own = true) : BlkOk X.N X.env.scope scope own := by
  have b := blkOk_by h
  rw [ft.N]
  exact ⟨b.kind, b.uniq, b.ix, fun y hy e => (b.free y hy e).elim (fun q => .inl (ft.cel _ q).1) (fun q => ft.fr _ q), b.own⟩
theorem tru_pt {e : Expr} {c : CE} (h : PE X e (upE X.K ca W (evE G cx c))) (ht : truOk e = true) : PE X e (upE X.K ca W (evE G cx c)) ∧ (tOk e = true → PT X e (upT X.K ca W fun env ah => toB (evE G cx c env ah))) := ⟨h, fun _ => t_tru h (tru_ok' ht)⟩
theorem isNone_ok {b : Expr} (h : isNone b = true) : ∃ j p, b = .Constant .none j p := by
  cases b with
  | Constant v j p => cases v <;> first | exact ⟨j, p, rfl⟩ | cases h
  | _ => cases h
theorem last_not {op op2 : CmpOp} {b b2 : Expr} (h : isSet b2 = false) : lastMarks [op, op2] [b, b2] = false := behind_not (op := op2) h
theorem few_ok {a : Expr} {env : Env} {pos : Pos} (h : notStar a = true) : ((backTo pos (starEach [a] env)).all (fun x => !x.1) && (backToKw pos (keywordEach [] env)).all (fun x => x.1.isSome) && decide ([a].length + ([] : List Keyword).length + (if ([] : List Keyword).isEmpty then 0 else 1) < 30)) = true := by
  rw [star_cons h]
  rfl
theorem compI_ok (ft : Fit X ca W G cx k C) {f : Expr → Option CE} (hf : ∀ e c, f e = some c → PE X e (upE X.K ca W (evE G cx c))) {tg e : Expr} {ci : CI} (h : compI C f (isTupE tg) e = some ci) : PI X tg e (upI X.K ca W (evI G cx ci)) := by
  have seq : ∀ {e : Expr} {ci : CI}, (f e).map CI.seq = some ci → PI X tg e (upI X.K ca W (evI G cx ci)) := fun {e ci} h => by
    simp only [Option.map_eq_some_iff] at h
    obtain ⟨c, h1, rfl⟩ := h
    exact i_seq (hf _ _ h1)
  have tup : isTupE tg = true → ∃ es kk p, tg = .Tuple es kk p := fun ht => by
    cases tg <;> first | exact ⟨_, _, _, rfl⟩ | cases ht
  unfold compI at h
  split at h
  · split at h
    · rename_i q
      obtain ⟨q1, q2, rfl, q4⟩ := q
      simp only [Option.map_eq_some_iff] at h
      obtain ⟨c, h1, rfl⟩ := h
      exact i_range1 (ft.gl _ q1) (ft.blt _ q2) (hf _ _ h1) (star_cons q4)
    · split at h
      · rename_i q
        obtain ⟨q1, q2, rfl, q4, q5⟩ := q
        obtain ⟨es, kk, p, rfl⟩ := tup q4
        simp only [Option.map_eq_some_iff] at h
        obtain ⟨c, h1, rfl⟩ := h
        exact i_enum (ft.gl _ q1) (ft.blt _ q2) (hf _ _ h1) (star_cons q5)
      · exact seq h
  · split at h
    · rename_i q
      obtain ⟨q1, q2, rfl, q4, q5⟩ := q
      split at h
      · rename_i c d h1 h2
        simp only [Option.some.injEq] at h
        subst h
        exact i_range2 (ft.gl _ q1) (ft.blt _ q2) (hf _ _ h1) (hf _ _ h2) (star_cons q4) (star_cons q5) rfl
      · cases h
    · split at h
      · rename_i q
        obtain ⟨q1, q2, rfl, q4, q5, q6⟩ := q
        obtain ⟨es, kk, p, rfl⟩ := tup q4
        split at h
        · rename_i c d h1 h2
          simp only [Option.some.injEq] at h
          subst h
          exact i_zip (ft.gl _ q1) (ft.blt _ q2) (hf _ _ h1) (hf _ _ h2) (star_cons q5) (star_cons q6) (by rw [back_any, star_cons q6]; rfl)
        · cases h
      · exact seq h
  · exact seq h
theorem subS_ok {l m : List Nat} (h : subS l m = true) : ∀ i ∈ l, i ∈ m := fun i hi => by
  unfold subS at h
  rw [List.all_eq_true] at h
  exact of_decide_eq_true (h i hi)
theorem snd_e : ∀ (n : Nat) (C : Ct) (e : Expr) (c : CE), compE n C e = some c → ∀ {X : Cx} {W : WX}, Fit X ca W G cx k C →
    PE X e (upE X.K ca W (evE G cx c)) ∧ (tOk e = true → PT X e (upT X.K ca W fun env ah => toB (evE G cx c env ah)))
  | 0, C, e, c, h, _, _, _ => by simp [compE] at h
  | n + 1, C, e, c, h, X, W, ft => by
    have ih : ∀ e c, compE n C e = some c → PE X e (upE X.K ca W (evE G cx c)) ∧ (tOk e = true → PT X e (upT X.K ca W fun env ah => toB (evE G cx c env ah))) := fun e c h => snd_e n C e c h ft
    have ihE : ∀ e c, compE n C e = some c → PE X e (upE X.K ca W (evE G cx c)) := fun e c h => (ih e c h).1
    have ihA : ∀ e c, compE n C e = some c → PE X e (upE X.K ca W (evE G cx c)) ∧ notStar e = true := fun e c h => ⟨(ih e c h).1, (shape h).1⟩
    unfold compE at h
    split at h
    · -- Name
      split at h
      · cases h
      · rename_i hb
        obtain ⟨b1, b2, b3⟩ := badN_ok (by simpa using hb)
        split at h
        · rename_i hk
          simp only [Option.map_eq_some_iff] at h
          obtain ⟨i, hi, rfl⟩ := h
          exact tru_pt (e_var (by rw [ft.N]; exact slot_ok hi) (ft.vis _ (.inl hk)) b1 b2) rfl
        · rename_i hk
          simp only [Option.map_eq_some_iff] at h
          obtain ⟨i, hi, rfl⟩ := h
          exact tru_pt (e_var (by rw [ft.N]; exact slot_ok hi) (ft.vis _ (.inr (.inl hk))) b1 b2) rfl
        · rename_i hk
          simp only [Option.map_eq_some_iff] at h
          obtain ⟨i, hi, rfl⟩ := h
          exact tru_pt (e_var (by rw [ft.N]; exact slot_ok hi) (ft.vis _ (.inr (.inr hk))) b1 b2) rfl
        · rename_i hk
          simp only [Option.map_eq_some_iff] at h
          obtain ⟨i, hi, rfl⟩ := h
          obtain ⟨v, u, h1, h2, h3⟩ := ft.glb _ _ (mem_lk hi)
          exact tru_pt (e_glob (ft.gl _ hk) h1 h2 b1 h3) rfl
        · cases h
    · -- Constant
      simp only [Option.map_eq_some_iff] at h
      obtain ⟨d, hd, rfl⟩ := h
      exact tru_pt (con_ok hd) rfl
    · -- Tuple
      simp only [Option.map_eq_some_iff] at h
      obtain ⟨cs, hd, rfl⟩ := h
      exact tru_pt (e_tup (mapCE_ok ihA hd).1) rfl
    · -- List
      simp only [Option.map_eq_some_iff] at h
      obtain ⟨cs, hd, rfl⟩ := h
      exact tru_pt (e_lst (mapCE_ok ihA hd).1) rfl
    · -- BinOp
      split at h
      · rename_i p c1 d1 h1 h2 h3
        simp only [Option.some.injEq] at h
        subst h
        exact tru_pt (e_bin (opB_ok h1) (ihE _ _ h2) (ihE _ _ h3)) rfl
      · cases h
    · -- Compare
      split at h
      · rename_i q
        obtain ⟨q1, rfl⟩ := q
        obtain ⟨j, p, rfl⟩ := isNone_ok q1
        simp only [Option.map_eq_some_iff] at h
        obtain ⟨c1, h1, rfl⟩ := h
        exact ⟨e_isN (ihE _ _ h1), fun _ => t_isN (ihE _ _ h1)⟩
      · split at h
        · rename_i q
          obtain ⟨q1, rfl⟩ := q
          obtain ⟨j, p, rfl⟩ := isNone_ok q1
          simp only [Option.map_eq_some_iff] at h
          obtain ⟨c1, h1, rfl⟩ := h
          exact ⟨e_notN (ihE _ _ h1), fun _ => t_notN (ihE _ _ h1)⟩
        · split at h
          · rename_i p c1 d1 h1 h2 h3
            simp only [Option.some.injEq] at h
            subst h
            have hm := behind_not (op := ‹CmpOp›) (shape h3).2.1
            exact ⟨e_cmp (opC_ok ft.un h1) (ihE _ _ h2) (ihE _ _ h3) hm, fun _ => t_cmp (opC_ok ft.un h1) (opC_isB h1) (ihE _ _ h2) (ihE _ _ h3) hm⟩
          · cases h
    · -- chain
      split at h
      · rename_i p p2 c1 d1 d2 h1 h2 h3 h4 h5
        simp only [Option.some.injEq] at h
        subst h
        have hm := last_not (op := ‹CmpOp›) (op2 := ‹CmpOp›) (b := ‹Expr›) (shape h5).2.1
        exact ⟨e_chain (opC_ok ft.un h1) (opC_ok ft.un h2) (ihE _ _ h3) (ihE _ _ h4) (ihE _ _ h5) (behind_not (shape h5).2.1), fun _ => t_chain (opC_ok ft.un h1) (opC_ok ft.un h2) (opC_isB h1) (opC_isB h2) (ihE _ _ h3) (ihE _ _ h4) (ihE _ _ h5) (behind_not (shape h5).2.1)⟩
      · cases h
    · -- Not
      split at h
      · rename_i q
        simp only [Option.map_eq_some_iff] at h
        obtain ⟨c1, h1, rfl⟩ := h
        exact ⟨e_not (ihE _ _ h1), fun _ => t_not ((ih _ _ h1).2 q)⟩
      · cases h
    · -- USub
      simp only [Option.map_eq_some_iff] at h
      obtain ⟨c1, h1, rfl⟩ := h
      exact tru_pt (e_neg (ihE _ _ h1)) rfl
    · -- And
      obtain ⟨p, q⟩ := foldA_ok (pos := ‹Pos›) ih h
      exact ⟨p, fun _ => q.pt⟩
    · -- Or
      obtain ⟨p, q⟩ := foldO_ok (pos := ‹Pos›) ih h
      exact ⟨p, fun _ => q.pt⟩
    · -- IfExp
      split at h
      · rename_i q
        split at h
        · rename_i x y z h1 h2 h3
          simp only [Option.some.injEq] at h
          subst h
          exact ⟨e_ite ((ih _ _ h1).2 q) (ihE _ _ h2) (ihE _ _ h3), fun z => by cases z⟩
        · cases h
      · cases h
    · -- slice
      split at h
      · rename_i x y z h1 h2 h3
        simp only [Option.some.injEq] at h
        subst h
        exact tru_pt (e_slice (ihE _ _ h1) (optC_ok ihE h2) (optC_ok ihE h3)) rfl
      · cases h
    · -- subscript
      split at h
      · rename_i x y h1 h2
        simp only [Option.some.injEq] at h
        subst h
        exact tru_pt (e_idx (ihE _ _ h1) (ihE _ _ h2) (ix_ok (shape h2).2.2)) rfl
      · cases h
    · -- call
      rename_i x np es pos
      split at h
      · cases h
      · rename_i hq
        simp only [not_or, ne_eq, Decidable.not_not] at hq
        obtain ⟨hb, hg⟩ := hq
        obtain ⟨b1, b2, b3⟩ := badN_ok (by simpa using hb)
        split at h
        · rename_i f hf
          simp only [Option.map_eq_some_iff] at h
          obtain ⟨cs, h1, rfl⟩ := h
          have hfn := ft.fns _ _ (mem_lk hf)
          have hc : C.calm = true := ft.fc (.inl (fun q => by rw [q] at hf; cases hf))
          have hr : Room k X.A := (ft.room hc).mono (by omega)
          cases es with
          | nil =>
            simp only [mapCE, Option.some.injEq] at h1
            subst h1
            exact tru_pt (e_call0 ft.tk hr hfn (ft.gl _ hg) b1) rfl
          | cons a as =>
            obtain ⟨p, q⟩ := mapCE_ok ihA h1
            exact tru_pt (e_call ft.tk hr hfn (ft.gl _ hg) p b1 (star_cons (q a List.mem_cons_self)) (by rw [back_any]; exact star_any fun e he => q e (List.mem_cons_of_mem _ he))) rfl
        · split at h
          · rename_i hblt
            split at h
            · cases h
            · split at h
              · rename_i q hq
                simp only [Option.map_eq_some_iff] at h
                obtain ⟨cs, h1, rfl⟩ := h
                obtain ⟨p, qs⟩ := mapCE_ok ihA h1
                obtain ⟨k1, k2, k3, k4⟩ := bltT_ok (X := X) (ca := ca) hq
                exact tru_pt (e_callTy k2 (ft.gl _ hg) (ft.blt _ hblt) k1 p k3 k4 (star_cons (qs _ List.mem_cons_self)) (by rw [back_any]; exact star_any fun e he => qs e (List.mem_cons_of_mem _ he))) rfl
              · split at h
                · rename_i hcalm
                  split at h
                  · rename_i q hq
                    simp only [Option.map_eq_some_iff] at h
                    obtain ⟨cs, h1, rfl⟩ := h
                    obtain ⟨p, qs⟩ := mapCE_ok ihA h1
                    obtain ⟨k1, k2, k3, k4⟩ := bltB_ok (X := X) (ca := ca) (by rw [ft.calm]; exact hcalm) hq
                    exact tru_pt (e_callB k2 (ft.gl _ hg) (ft.blt _ hblt) k1 p k3 k4 (star_cons (qs _ List.mem_cons_self)) (by rw [back_any]; exact star_any fun e he => qs e (List.mem_cons_of_mem _ he))) rfl
                  · split at h
                    · rename_i hx
                      split at h
                      · split at h
                        · rename_i ht
                          split at h
                          · rename_i t c1 h1 h2
                            simp only [Option.some.injEq] at h
                            subst h
                            obtain ⟨k1, k2, k3⟩ := tyOfN_ok h1
                            exact tru_pt (e_isi (ft.gl _ hg) (ft.blt _ hblt) hx (ft.gl _ ht.1) (ft.blt _ ht.2) k1 (ihE _ _ h2) k2 k3 (star_cons (shape h2).1)) rfl
                          · cases h
                        · cases h
                      · cases h
                    · cases h
                · cases h
          · cases h
    · -- method
      split at h
      · rename_i hq
        split at h
        · rename_i q c1 d1 h1 h2 h3
          simp only [Option.some.injEq] at h
          subst h
          obtain ⟨k1, k2, k3, k4⟩ := methS_ok (X := X) (ca := ca) h1
          have hs := (shape h3).1
          exact tru_pt (e_meth k1 k2 k3 k4 (ihE _ _ h2) (a_cons (ihE _ _ h3) a_nil (star_cons hs)) (base_ok hq.1) (few_ok hs) hq.2 (star_cons hs) rfl) rfl
        · cases h
      · cases h
    · -- upper
      split at h
      · rename_i hq
        obtain ⟨q1, q2, rfl⟩ := hq
        simp only [Option.map_eq_some_iff] at h
        obtain ⟨c1, h1, rfl⟩ := h
        exact tru_pt (e_meth0 (t := .str) F.plainAttrs_str F.slot_str_upper (by kernel_rfl) mt_upperD (ihE _ _ h1) (base_ok q1) q2) rfl
      · cases h
    · -- e.f
      split at h
      · rename_i y hy
        split at h
        · rename_i hxy
          simp only [Option.some.injEq] at h
          subst h
          subst hxy
          exact tru_pt (ft.exv _ hy _ _ _) rfl
        · cases h
      · cases h
    · -- comprehension
      rename_i elt tg iter ifs scope pos
      split at h
      · rename_i hq
        obtain ⟨q1, q2, q3⟩ := hq
        split at h
        · rename_i t ci cs ce h1 h2 h3 h4
          split at h
          · rename_i hs
            simp only [Bool.and_eq_true, decide_eq_true_eq] at hs
            obtain ⟨s1, s2, s3⟩ := hs
            simp only [Option.some.injEq] at h
            subst h
            have bk := ft.blkOk q2
            refine tru_pt (e_comp (ft.ex0 q1) (by rw [ft.calm]; exact q1) ft.nd (compI_ok ft ihE h2) bk (fun s H Cc cl fp => compT_ok (ft.blk q1 bk.kind s H Cc cl fp) h1) (fun s H Cc cl fp => ?_) (fun s H Cc cl fp => (snd_e n _ _ _ h4 (ft.blk q1 bk.kind s H Cc cl fp)).1) (folded_not q3) (subS_ok s1)) rfl
            have fb := ft.blk q1 bk.kind s H Cc cl fp
            have it : ∀ e c, compE n (C.inBlk scope) e = some c → tOk e = true → PT _ e (upT _ ca WF0 fun env ah => toB (evE G cx c env ah)) := fun e c h ht => (snd_e n _ _ _ h fb).2 ht
            match ifs, h3, s2, s3 with
            | [], h3, _, _ =>
              simp only [mapCE, Option.some.injEq] at h3
              subst h3
              exact ts_nil
            | [e1], h3, _, s3 =>
              simp only [mapCE] at h3
              split at h3
              · rename_i c1 cs1 g1 g2
                simp only [Option.some.injEq] at h3 g2
                subst h3 g2
                simp only [List.all_cons, List.all_nil, Bool.and_true] at s3
                exact ts_one (it _ _ g1 s3)
              · cases h3
            | _ :: _ :: _, _, s2, _ => simp at s2
          · cases h
        · cases h
      · cases h
    · cases h
end
end M
end

section
set_option Elab.async false
set_option linter.all false
set_option maxRecDepth 100000
set_option maxHeartbeats 4000000
/-! The machine, 17: except; the compile function for statements, sound. -/
namespace M
open PySem PySem.Spec PyProof.Rows L2
structure FitS (X : Cx) (ca : CA) (W : WX) (G : Cfg) (cx : Option Ex) (k : Nat) (C : Ct) : Prop where
  e : Fit X ca W G cx k C
  st : X.stack = X.env :: X.outer
  fr : X.env.frame = some X.env.locals
  own : PassesOwn (model X.prog X.w) X.A X.env X.xe
  ctc : ∀ x cs, (x, cs) ∈ C.ctc → C.kd x = some .globalImplicit → ∃ c, Names X x c ∧ ∀ j, j < G.nx → PySem.W.exmOne X.K (.ref (ca.f (j % 1000))) c = some (decide (j ∈ cs))
  xfc : ∀ j, j < G.nx → XfC X.K (ca.f (j % 1000)) ∧ ∀ f ∈ G.xf j, PySem.W.findIn X.K (.ref (ca.f (j % 1000))) f = some none
section
variable {X : Cx} {ca : CA} {W : WX} {G : Cfg} {cx : Option Ex} {k : Nat} {C : Ct}
/-- what the suite of 'except X as n' begins with -/
def tsS (K : PySem.W.Frag) (ca : CA) (G : Cfg) (i : Nat) (s : CSs) (a : Addr) (cls : Value) (d : Option Addr) : TS := fun D σ H =>
  ∃ (e : Ex) (F rho : List Addr) (env : Env1) (ah : AH), HR K ca F rho ah H ∧ ER K ca F rho H env σ ∧ (∃ σ0 : L2.St, σ = σ0.set i (some (.ref a))) ∧ RelX K ca F rho H e cls d ∧ e.c < G.nx ∧ e.ns = G.xf e.c ∧ OutS K ca F rho H WF0 D (match evSs G (some e) s env ah with
      | .exc _ _ _ => .bad
      | r => r)
def caE (ca : CA) (x : ExI) : CA := ⟨ca.f, some x⟩
theorem rd_up {F rho : List Addr} {H : Hp} {x : ExI} {d : D} {v : V} (h : RelD X.K ca F rho H d v) : RelD X.K (caE ca x) F rho H d v := RelD.cv (ca := ca) (ca' := caE ca x) rfl d v h
theorem rd_dn {F rho : List Addr} {H : Hp} {x : ExI} {d : D} {v : V} (h : RelD X.K (caE ca x) F rho H d v) : RelD X.K ca F rho H d v := RelD.cv (ca := caE ca x) (ca' := ca) rfl d v h
theorem rds_up {F rho : List Addr} {H : Hp} {x : ExI} {d : List D} {v : List V} (h : RelDs X.K ca F rho H d v) : RelDs X.K (caE ca x) F rho H d v := RelDs.cv (ca := ca) (ca' := caE ca x) rfl d v h
theorem hr_up {F rho : List Addr} {H : Hp} {x : ExI} {ah : AH} (h : HR X.K ca F rho ah H) : HR X.K (caE ca x) F rho ah H := HR.cv (ca := ca) (ca' := caE ca x) rfl h
theorem hr_dn {F rho : List Addr} {H : Hp} {x : ExI} {ah : AH} (h : HR X.K (caE ca x) F rho ah H) : HR X.K ca F rho ah H := HR.cv (ca := caE ca x) (ca' := ca) rfl h
theorem ER.cvE {F rho : List Addr} {H : Hp} {env : Env1} {σ : L2.St} {x : ExI} (er : ER X.K ca F rho H env σ) (h1 : σ[x.slot]? = some (some (.ref x.a))) (h2 : x.ns ≠ [] → H x.dd = some (.xd (x.ns.zip x.vs)) ∧ RelDs X.K ca F rho H x.xs x.vs) :
    ER X.K (caE ca x) F rho H env σ := ⟨er.1, fun i d hd => let ⟨v, a, b⟩ := er.2.1 i d hd; ⟨v, a, rd_up b⟩, fun e he => by
      cases he
      exact ⟨h1, fun hn => ⟨(h2 hn).1, rds_up (h2 hn).2⟩⟩⟩
theorem ER.cvN {F rho : List Addr} {H : Hp} {env : Env1} {σ : L2.St} {x : ExI} (h0 : ca.ex = none) (er : ER X.K (caE ca x) F rho H env σ) : ER X.K ca F rho H env σ :=
  ⟨er.1, fun i d hd => let ⟨v, a, b⟩ := er.2.1 i d hd; ⟨v, a, rd_dn b⟩, fun e he => by rw [h0] at he; cases he⟩
theorem OutS.cvE {F rho : List Addr} {H : Hp} {D : Ends} {r : RS} {x : ExI} (h0 : ca.ex = none) (h : OutS X.K ca F rho H WF0 D (match r with
      | .exc _ _ _ => .bad
      | r => r)) : OutS X.K (caE ca x) F rho H WF0 D r := by
  cases r with
  | nx env ah => exact fun F' rho' H' s e R y => h F' rho' H' s e (hr_dn R) (y.cvN h0)
  | ret d ah => exact fun F' rho' H' v e R y => h F' rho' H' v e (hr_dn R) (rd_dn y)
  | exc e env ah => exact (show False from h).elim
  | bad => exact h
/-- the static context of such a suite -/
def Ct.suite (C : Ct) (n : Str) : Ct := { C with calm := false, fns := [], exs := [], exv := some n, ctc := [] }
theorem Fit.suite (ft : Fit X ca W G cx k C) (hcalm : C.calm = true) (xf : ∀ j, j < G.nx → XfC X.K (ca.f (j % 1000)) ∧ ∀ f ∈ G.xf j, PySem.W.findIn X.K (.ref (ca.f (j % 1000))) f = some none)
    {a : Addr} {oe : Obj} {cls : Value} {d : Option Addr} {pn : List (Addr × Obj)} {n : Str} {i : Nat} (hi : C.N[i]? = some n) (hkd : C.kd n = some .local) (hb : badN n = false)
    (hz : Zc cls d oe) (hf : ∃ vs, oe.data = .fields vs) {e : Ex} (hc : e.c < G.nx) (hns : e.ns = G.xf e.c) {x : ExI} (hs : x.slot = i) (hxa : x.a = a) (hx1 : x.ns = e.ns) (hx2 : x.xs = e.xs) (hcls : cls = .ref (ca.f (e.c % 1000))) (hlen : e.ns.length = e.xs.length)
    (hd : e.ns ≠ [] → d = some x.dd) : Fit (X.suite a ((a, oe) :: pn)) (caE ca x) WF0 G (some e) k (C.suite n) where
  N := ft.N
  nd := ft.nd
  vis := ft.vis
  gl := ft.gl
  loc := ft.loc
  cel := ft.cel
  fr := ft.fr
  kind := ft.kind
  calm := rfl
  un := ft.un
  room := fun z => by cases z
  blt := ft.blt
  fns := fun x i h => by cases h
  glb := fun x g h => let ⟨v, u, h1, h2, h3⟩ := ft.glb x g h; ⟨v, u, h1, h2, fun F rho H => rd_up (h3 F rho H)⟩
  exs := fun x c h => by cases h
  exv := fun y hy f p1 p2 => by
    have hy : n = y := Option.some.inj hy
    subst hy
    obtain ⟨b1, b2, _⟩ := badN_ok hb
    refine ⟨fun pins s σ H Q I ⟨F, rho, env, ah, R0, er, h⟩ => ?_⟩
    simp only [evE] at h
    split at h
    · rename_i v q
      have hfm : f ∈ e.ns := by
        have := PySem.mem_of_lookup q
        exact (List.of_mem_zip this).1
      have hne : e.ns ≠ [] := fun z => by rw [z] at hfm; cases hfm
      obtain ⟨T, hno⟩ := xf e.c hc
      obtain ⟨h1, h2⟩ := er.2.2 x rfl
      obtain ⟨h2, h3⟩ := h2 (by rw [hx1]; exact hne)
      rw [hx2] at h3
      rw [hx1] at h2
      have hl := h3.length
      -- the field's value
      have key : ∀ (ns : List Str) (ds : List D) (vs : List V), RelDs X.K (caE ca x) F rho H ds vs → (ns.zip ds).lookup f = some v → ∃ z, (ns.zip vs).lookup f = some z ∧ RelD X.K (caE ca x) F rho H v z := by
        intro ns
        induction ns with
        | nil => intro ds vs _ q; cases q
        | cons m ns ih =>
          intro ds vs r q
          cases ds with
          | nil => cases q
          | cons d0 ds =>
            simp only [RelDs] at r
            obtain ⟨v0, r0, rfl, k1, k2⟩ := r
            simp only [List.zip_cons_cons, List.lookup] at q ⊢
            split at q
            · cases q
              exact ⟨v0, rfl, k1⟩
            · exact ih ds r0 k2 q
      obtain ⟨z, hz1, hz2⟩ := key _ _ _ h3 q
      refine (pe_xf T (hno f (by rw [← hns]; exact hfm)) hz hf (pe_var (X := X.suite a ((a, oe) :: pn)) (i := i) (by show X.N[i]? = _; rw [ft.N]; exact hi) (ft.vis _ (.inl hkd)) b1 b2) rfl).run pins s σ H Q I ?_
      refine ⟨.ref a, by rw [← hs, ← hxa]; exact h1, rfl, hcls, x.dd, _, z, hd hne, h2, hz1, ?_⟩
      exact h _ _ _ _ (Ext.refl _ _ _) R0 hz2
    · exact (show False from h).elim
  fc := fun z => by rcases z with z | z <;> exact absurd rfl z
  tk := fun u s' ⟨a, B, sI, pins, σ, H, cls, d, e, I, nb, up, sky, na, os, ag, w⟩ => w.elim
  ex0 := fun z => by cases z
  ex1 := fun y j hy hne z hz => by
    cases hz
    intro hj
    refine hne ?_
    have hy2 : C.N[j]? = some y := hy
    rw [hj, hs, hi] at hy2
    rw [Option.some.inj hy2]
    rfl
theorem Fit.tr (ft : Fit X ca W G cx k C) (hv : C.exv = none) {W' : WX} {pn : List (Addr × Obj)} {xe : Value → Shared → Prop} (tk : Takes (X.tr pn xe) W') : Fit (X.tr pn xe) ca W' G cx k C :=
  ⟨ft.N, ft.nd, ft.vis, ft.gl, ft.loc, ft.cel, ft.fr, ft.kind, ft.calm, ft.un, ft.room, ft.blt, ft.fns, ft.glb, ft.exs, (fun x h => by rw [hv] at h; cases h), ft.fc, tk, ft.ex0, ft.ex1⟩
theorem FitS.tr (ft : FitS X ca W G cx k C) (hv : C.exv = none) {W' : WX} {pn : List (Addr × Obj)} {xe : Value → Shared → Prop} (tk : Takes (X.tr pn xe) W') (ow : PassesOwn (model X.prog X.w) X.A X.env xe) : FitS (X.tr pn xe) ca W' G cx k C :=
  ⟨ft.e.tr hv tk, ft.st, ft.fr, ow, ft.ctc, ft.xfc⟩
/-- try: body, except X as n: suite -/
theorem s_tryAs {x n : Str} {i : Nat} {body suite : List Stmt} {b₀ : Stmt} {np pos pos' : Pos} {b s : CSs} {cs : List Nat} (ft : FitS X ca W G cx k C) (hcalm : C.calm = true) (hv : C.exv = none) (hm : (x, cs) ∈ C.ctc) (hgk : C.kd x = some .globalImplicit) (hi : C.N[i]? = some n) (hkd : C.kd n = some .local) (hb : badN n = false)
    (hbody : ∀ {X' : Cx} {W' : WX}, FitS X' ca W' G cx k C → X'.K = X.K → PSs X' body (upS X'.K ca W' (evSs G cx b)))
    (hsuite : ∀ {X' : Cx} {ca' : CA} {e : Ex}, FitS X' ca' WF0 G (some e) k (C.suite n) → PSs X' (b₀ :: suite) (upS X'.K ca' WF0 (evSs G (some e) s))) :
    PS X (.Try body [.ExceptHandler (some (.Name x np)) (some n) (b₀ :: suite) pos'] [] [] pos) (upS X.K ca W (evS G cx (.tryS b (.cons cs (some i) s .nil)))) := by
  obtain ⟨cv, hN, hex⟩ := ft.ctc x cs hm hgk
  have h0 := ft.e.ex0 hcalm
  have hi' : X.N[i]? = some n := by rw [ft.e.N]; exact hi
  have hln : X.env.kindOf n = some .local := ft.e.loc n hkd
  refine imS (ps_try_as (ts := tsS X.K ca G i s) (tb := fun W' => upS X.K ca W' (evSs G cx b)) (Wout := W) ft.st ft.fr ft.e.nd hi' hln hN ft.e.tk (fun W' pn xe tk ow => hbody (ft.tr hv tk ow) rfl) (fun a oe cls d pn hz hf => ?_)) fun D σ H ⟨F, rho, env, ah, R0, er, h⟩ => ?_
  · refine ⟨fun pins st σ H D I ⟨e, F, rho, env, ah, R0, er, ⟨σ0, e0⟩, ⟨rx1, rx2, rx3⟩, hc, hns, h⟩ => ?_⟩
    have hσ : σ[i]? = some (some (.ref a)) := by
      have hl := I.len
      rw [e0, List.length_set] at hl
      rw [e0, List.getElem?_set_self (by rw [hl]; exact (List.getElem?_eq_some_iff.mp hi').1)]
    -- the exception's data
    obtain ⟨dd, vs, hdd⟩ : ∃ (dd : Addr) (vs : List V), e.ns ≠ [] → d = some dd ∧ H dd = some (.xd (e.ns.zip vs)) ∧ RelDs X.K ca F rho H e.xs vs := by
      by_cases hn : e.ns = []
      · exact ⟨0, [], fun z => absurd hn z⟩
      · obtain ⟨dd, vs, h1, h2, h3⟩ := rx3 hn
        exact ⟨dd, vs, fun _ => ⟨h1, h2, h3⟩⟩
    let xi : ExI := ⟨i, a, dd, e.ns, vs, e.xs⟩
    have er' : ER X.K (caE ca xi) F rho H env σ := er.cvE hσ fun hn => ⟨(hdd hn).2.1, (hdd hn).2.2⟩
    have fs := ft.e.suite (pn := pn) hcalm ft.xfc hi hkd hb hz hf hc hns (x := xi) rfl rfl rfl rfl rx1 rx2 fun hn => (hdd hn).1
    exact (hsuite (X' := X.suite a ((a, oe) :: pn)) (ca' := caE ca xi) ⟨fs, ft.st, ft.fr, PassesOwn.never, (fun x cs h => by cases h), ft.xfc⟩).run pins st σ H D I ⟨F, rho, env, ah, hr_up R0, er', OutS.cvE h0 h⟩
  · simp only [evS] at h
    refine ⟨F, rho, env, ah, R0, er, ?_⟩
    cases q : evSs G cx b env ah with
    | nx env1 ah1 => rw [q] at h; exact h
    | ret d ah1 => rw [q] at h; exact h
    | bad => rw [q] at h; exact h
    | exc e env1 ah1 =>
      rw [q] at h
      intro F' rho' H' σ' cls dx e1 R1 er1 rx
      dsimp only at h
      unfold evH at h
      split at h
      · rename_i hc
        obtain ⟨hc, hns⟩ := hc
        refine ⟨decide (e.c ∈ cs), by rw [rx.1]; exact hex e.c hc, fun hb' a ha => ?_, fun hb' => ?_⟩
        · rw [if_pos (of_decide_eq_true hb')] at h
          dsimp only at h
          refine ⟨e, F', rho', env1.set i none, ah1, R1, er1.setN (notEx_of h0 i), ⟨σ', rfl⟩, rx, hc, hns, ?_⟩
          cases q2 : evSs G (some e) s (env1.set i none) ah1 with
          | nx env2 ah2 =>
            rw [q2] at h
            exact fun F2 rho2 H2 s2 e2 R2 er2 => h F2 rho2 H2 _ (e1.trans e2 R0.sub) R2 (er2.setN (notEx_of h0 i))
          | ret d ah2 =>
            rw [q2] at h
            exact fun F2 rho2 H2 v e2 R2 r2 => h F2 rho2 H2 v (e1.trans e2 R0.sub) R2 r2
          | exc _ _ _ => rw [q2] at h; exact h
          | bad => rw [q2] at h; exact h
        · have hn : ¬ e.c ∈ cs := of_decide_eq_false hb'
          rw [if_neg hn] at h
          unfold evH at h
          exact h F' rho' H' σ' cls dx e1 R1 er1 rx
      · exact (show False from h).elim
end
end M
end

section
set_option Elab.async false
set_option linter.all false
set_option maxRecDepth 100000
set_option maxHeartbeats 4000000
/-! The machine, 18: the compile function for statements, sound. -/
namespace M
open PySem PySem.Spec PyProof.Rows L2
def mapS (f : Stmt → Option CS) : List Stmt → Option CSs
  | [] => some .nil
  | s :: ss => match f s, mapS f ss with
    | some c, some cs => some (.cons c cs)
    | _, _ => none
/-- may name = e be compiled: no comprehension, or one on one line that is stored at once, or a name that is a cell -/
def asgOk (C : Ct) (y : Str) (py : Pos) : Expr → Bool
  | .ListComp _ _ scope pos => decide (C.kd y = some .cell) || (decide (C.kd y = some .local) && ((py.line == pos.line) && !(scope.names.any fun (n, k) => n == y && (k == .local || k == .cell))))
  | .SetComp .. | .DictComp .. => false
  | _ => true
def compS : Nat → Ct → Stmt → Option CS
  | 0, _, _ => none
  | n + 1, C, st => match st with
    | .Expr (.Constant (.str _) _ _) _ => some .pass
    | .Expr e _ => if isComp e = false then (compE n C e).map CS.ex else none
    | .Return none _ => some (.ret (.con .non))
    | .Return (some e) _ => (compE n C e).map CS.ret
    | .Pass _ => some .pass
    | .Assign [.Name y py] e _ => if asgOk C y py e = true then (match tgNm C y, compE n C e with
      | some i, some c => some (.asg (.name i) c)
      | _, _ => none) else none
    | .Assign [.Tuple es kk p2] e _ => if isComp e = false ∧ isTupE e = false then (match compT C (.Tuple es kk p2), compE n C e with
      | some t, some c => some (.asg t c)
      | _, _ => none) else none
    | .Assign [.Subscript o i _] e _ => if isComp e = false then (match compE n C o, compE n C i, compE n C e with
      | some x, some y, some z => some (.setI x y z)
      | _, _, _ => none) else none
    | .If c a b _ => if tOk c = true then (match compE n C c, mapS (compS n C) a, mapS (compS n C) b with
      | some x, some y, some z => some (.ite x y z)
      | _, _, _ => none) else none
    | .For tg iter body [] _ => if C.calm = true ∧ isSet iter = false then (match compT C tg, compI C (compE n C) (isTupE tg) iter, mapS (compS n C) body with
      | some x, some y, some z => some (.forS x y z)
      | _, _, _ => none) else none
    | .While c body [] _ => if tOk c = true then (match compE n C c, mapS (compS n C) body with
      | some x, some y => some (.whileS x y)
      | _, _ => none) else none
    | .Raise (some (.Call (.Name x _) (e :: es) [] _)) none _ => if badN x = true ∨ C.kd x ≠ some .globalImplicit then none else match C.exs.lookup x, mapCE (compE n C) (e :: es) with
      | some c, some cs => some (.raise c cs)
      | _, _ => none
    | .Try body [.ExceptHandler (some (.Name x _)) (some m) (b₀ :: suite) _] [] [] _ => if C.calm = true ∧ C.exv = none ∧ C.kd m = some .local ∧ badN m = false ∧ C.kd x = some .globalImplicit then (match C.ctc.lookup x, slotOf C.N m, mapS (compS n C) body, mapS (compS n (C.suite m)) (b₀ :: suite) with
      | some cs, some i, some b, some s => some (.tryS b (.cons cs (some i) s .nil))
      | _, _, _, _ => none) else none
    | _ => none
theorem asub_ok {o i : Expr} {p : Pos} {env : Env} (h : ixOk i = true) (v : Value) : PySem.assign (.Subscript o i p) env v = (do
      let ov ← holding [v] (eval o env)
      let iv ← holding [v, ov] (eval i env)
      standAt p
      holding [v, ov, iv] (setItem ov iv v)
      release [v, ov, iv] []) := by
  cases i <;> first | rfl | cases h
section
variable {G : Cfg} {k : Nat}
theorem mapS_ok {X : Cx} {ca : CA} {W : WX} {cx : Option Ex} {f : Stmt → Option CS} (hf : ∀ e c, f e = some c → PS X e (upS X.K ca W (evS G cx c))) : ∀ {es : List Stmt} {cs : CSs}, mapS f es = some cs → PSs X es (upS X.K ca W (evSs G cx cs))
  | [], cs, h => by
    simp only [mapS, Option.some.injEq] at h
    subst h
    exact ss_nil
  | e :: es, cs, h => by
    simp only [mapS] at h
    split at h
    · rename_i c cs2 h1 h2
      simp only [Option.some.injEq] at h
      subst h
      exact ss_cons (hf e c h1) (mapS_ok hf h2)
    · cases h
theorem swap_cell {elt : Expr} {gs : List Comprehension} {scope : Scope} {pos py : Pos} {y : Str} {l : Nat} {env : Env} (hy : env.scope.names.lookup y = some .cell) : swapsWith (.ListComp elt gs scope pos) (some (.Name y py)) l env = pure false := by
  have ky : env.kindOf y = some .cell := hy
  unfold swapsWith
  simp only [ky]
  cases env.blockKind <;> rfl
theorem snd_lc {n : Nat} {C : Ct} {elt : Expr} {gs : List Comprehension} {scope : Scope} {pos : Pos} {c : CE} (h : compE (n + 1) C (.ListComp elt gs scope pos) = some c) {X : Cx} {ca : CA} {W : WX} {cx : Option Ex} (ft : Fit X ca W G cx k C)
    {i : Nat} {y : Str} {py spos : Pos} (hy : X.N[i]? = some y) (hyl : X.env.scope.names.lookup y = some .local) (hsw : swapsWith (.ListComp elt gs scope pos) (some (.Name y py)) spos.line X.env = pure true) :
    PS X (.Assign [.Name y py] (.ListComp elt gs scope pos) spos) (upS X.K ca W (evS G cx (.asg (.name i) c))) := by
  have ihE : ∀ e c, compE n C e = some c → PE X e (upE X.K ca W (evE G cx c)) := fun e c h => (snd_e n C e c h ft).1
  unfold compE at h
  split at h
  any_goals (rename_i he; cases he; done)
  · rename_i elt' tg iter ifs scope' pos' he
    cases he
    split at h
    · rename_i hq
      obtain ⟨q1, q2, q3⟩ := hq
      split at h
      · rename_i t ci cs ce h1 h2 h3 h4
        split at h
        · rename_i hs
          simp only [Bool.and_eq_true, decide_eq_true_eq] at hs
          obtain ⟨s1, s2, s3⟩ := hs
          simp only [Option.some.injEq] at h
          subst h
          have bk := ft.blkOk q2
          refine s_setLc (ft.ex0 q1) (by rw [ft.calm]; exact q1) ft.nd hy hyl hsw (compI_ok ft ihE h2) bk (fun s H Cc cl fp => compT_ok (ft.blk q1 bk.kind s H Cc cl fp) h1) (fun s H Cc cl fp => ?_) (fun s H Cc cl fp => (snd_e n _ _ _ h4 (ft.blk q1 bk.kind s H Cc cl fp)).1) (folded_not q3) (subS_ok s1)
          have fb := ft.blk q1 bk.kind s H Cc cl fp
          have it : ∀ e c, compE n (C.inBlk scope) e = some c → tOk e = true → PT _ e (upT _ ca WF0 fun env ah => toB (evE G cx c env ah)) := fun e c h ht => (snd_e n _ _ _ h fb).2 ht
          match ifs, h3, s2, s3 with
          | [], h3, _, _ =>
            simp only [mapCE, Option.some.injEq] at h3
            subst h3
            exact ts_nil
          | [e1], h3, _, s3 =>
            simp only [mapCE] at h3
            split at h3
            · rename_i c1 cs1 g1 g2
              simp only [Option.some.injEq] at h3 g2
              subst h3 g2
              simp only [List.all_cons, List.all_nil, Bool.and_true] at s3
              exact ts_one (it _ _ g1 s3)
            · cases h3
          | _ :: _ :: _, _, s2, _ => simp at s2
        · cases h
      · cases h
    · cases h
  · cases h
theorem snd_s : ∀ (n : Nat) (C : Ct) (st : Stmt) (s : CS), compS n C st = some s → ∀ {X : Cx} {ca : CA} {W : WX} {cx : Option Ex}, FitS X ca W G cx k C → PS X st (upS X.K ca W (evS G cx s))
  | 0, C, st, s, h, _, _, _, _, _ => by simp [compS] at h
  | n + 1, C, st, s, h, X, ca, W, cx, ft => by
    have ihE : ∀ e c, compE n C e = some c → PE X e (upE X.K ca W (evE G cx c)) := fun e c h => (snd_e n C e c h ft.e).1
    have ihT : ∀ e c, compE n C e = some c → tOk e = true → PT X e (upT X.K ca W fun env ah => toB (evE G cx c env ah)) := fun e c h ht => (snd_e n C e c h ft.e).2 ht
    have ihA : ∀ e c, compE n C e = some c → PE X e (upE X.K ca W (evE G cx c)) ∧ notStar e = true := fun e c h => ⟨ihE e c h, (shape h).1⟩
    have ihS : ∀ s c, compS n C s = some c → PS X s (upS X.K ca W (evS G cx c)) := fun s c h => snd_s n C s c h ft
    unfold compS at h
    split at h
    · simp only [Option.some.injEq] at h
      subst h
      exact s_doc
    · split at h
      · rename_i hq
        simp only [Option.map_eq_some_iff] at h
        obtain ⟨c, h1, rfl⟩ := h
        exact s_ex (ihE _ _ h1) (swaps_not hq)
      · cases h
    · simp only [Option.some.injEq] at h
      subst h
      exact s_retN
    · simp only [Option.map_eq_some_iff] at h
      obtain ⟨c, h1, rfl⟩ := h
      exact s_ret (ihE _ _ h1)
    · simp only [Option.some.injEq] at h
      subst h
      exact s_pass
    · -- name = e
      rename_i y py e pos
      split at h
      · rename_i hq
        split at h
        · rename_i i c h1 h2
          simp only [Option.some.injEq] at h
          subst h
          obtain ⟨k0, k1, k2, k3⟩ := tgNm_ok ft.e h1
          have plain : swapsWith e (some (.Name y py)) pos.line X.env = pure false → PS X (.Assign [.Name y py] e pos) (upS X.K ca W (evS G cx (.asg (.name i) c))) := fun hs => s_set k0 ft.e.nd k1 k2 (ihE _ _ h2) hs k3
          cases e with
          | ListComp elt gs scope epos =>
            simp only [asgOk, Bool.or_eq_true, Bool.and_eq_true, decide_eq_true_eq, Bool.not_eq_true'] at hq
            rcases hq with hq | ⟨q1, q2, q3⟩
            · exact plain (swap_cell (ft.e.cel y hq).1)
            · cases n with
              | zero => simp [compE] at h2
              | succ n =>
                have hl := ft.e.loc y q1
                exact snd_lc h2 ft.e k1 hl (sw_true ft.e.kind hl q2 q3)
          | SetComp _ _ _ _ => cases hq
          | DictComp _ _ _ _ _ => cases hq
          | _ => exact plain (swaps_not rfl)
        · cases h
      · cases h
    · -- (a, b) = e
      split at h
      · rename_i hq
        split at h
        · rename_i t c h1 h2
          simp only [Option.some.injEq] at h
          subst h
          exact s_asg (ihE _ _ h2) (compT_ok ft.e h1) (by unfold swapsWithSole; exact swaps_not hq.1) (swapped_not hq.2) rfl
        · cases h
      · cases h
    · -- o[i] = e
      split at h
      · rename_i hq
        split at h
        · rename_i x y z h1 h2 h3
          simp only [Option.some.injEq] at h
          subst h
          exact s_setI (ihE _ _ h1) (ihE _ _ h2) (ihE _ _ h3) (asub_ok (shape h2).2.2) (by unfold swapsWithSole; exact swaps_not hq) rfl rfl
        · cases h
      · cases h
    · -- if
      split at h
      · rename_i hq
        split at h
        · rename_i x y z h1 h2 h3
          simp only [Option.some.injEq] at h
          subst h
          exact s_if (ihT _ _ h1 hq) (mapS_ok ihS h2) (mapS_ok ihS h3)
        · cases h
      · cases h
    · -- for
      split at h
      · rename_i hq
        split at h
        · rename_i x y z h1 h2 h3
          simp only [Option.some.injEq] at h
          subst h
          exact s_for ft.own (by rw [ft.e.calm]; exact hq.1) (compI_ok ft.e ihE h2) (compT_ok ft.e h1) (mapS_ok ihS h3) (folded_not hq.2)
        · cases h
      · cases h
    · -- while
      split at h
      · rename_i hq
        split at h
        · rename_i x y h1 h2
          simp only [Option.some.injEq] at h
          subst h
          exact s_while ft.own (ihT _ _ h1 hq) (mapS_ok ihS h2)
        · cases h
      · cases h
    · -- raise
      split at h
      · cases h
      · rename_i hq
        simp only [not_or, ne_eq, Decidable.not_not] at hq
        obtain ⟨hb, hg⟩ := hq
        obtain ⟨b1, b2, b3⟩ := badN_ok (by simpa using hb)
        split at h
        · rename_i c cs h1 h2
          simp only [Option.some.injEq] at h
          subst h
          obtain ⟨hx, hn⟩ := ft.e.exs _ _ (mem_lk h1)
          have hc : C.calm = true := ft.e.fc (.inr (fun q => by rw [q] at h1; cases h1))
          obtain ⟨p, q⟩ := mapCE_ok ihA h2
          exact s_raise (by rw [ft.e.calm]; exact hc) ft.e.tk ((ft.e.room hc).mono (by omega)) hx (ft.e.gl _ hg) p b1 (star_cons (q _ List.mem_cons_self)) (by rw [back_any]; exact star_any fun e he => q e (List.mem_cons_of_mem _ he)) hn
        · cases h
    · -- try
      split at h
      · rename_i hq
        obtain ⟨q1, q2, q3, q4, q5⟩ := hq
        split at h
        · rename_i cs i b s2 h1 h2 h3 h4
          simp only [Option.some.injEq] at h
          subst h
          exact s_tryAs ft q1 q2 (PySem.mem_of_lookup h1) q5 (slot_ok h2) q3 q4 (fun {X' W'} f hK => mapS_ok (fun s c h => snd_s n C s c h f) h3) (fun {X' ca' e} f => mapS_ok (fun s c h => snd_s n _ s c h f) h4)
        · cases h
      · cases h
    · cases h
end
end M
end

section
set_option Elab.async false
set_option linter.all false
set_option maxRecDepth 100000
set_option maxHeartbeats 4000000
/-! The machine, 19: the levels of calls. -/
namespace M
open PySem PySem.Spec PyProof.Rows L2
mutual
theorem frz_nl (g : Nat → Option D) : ∀ d : D, d.noLoc = true → d.frz g = some d
  | .non, _ => by simp only [D.frz]
  | .bl _, _ => by simp only [D.frz]
  | .int _, _ => by simp only [D.frz]
  | .str _, _ => by simp only [D.frz]
  | .scr _, _ => by simp only [D.frz]
  | .loc _, h => by simp [D.noLoc] at h
  | .tup xs, h => by simp only [D.noLoc] at h; simp only [D.frz, frzs_nl g xs h]
  | .lst xs, h => by simp only [D.noLoc] at h; simp only [D.frz, frzs_nl g xs h]
  | .ob c ns xs, h => by simp only [D.noLoc] at h; simp only [D.frz, frzs_nl g xs h]
  | .dct ks xs, h => by simp only [D.noLoc] at h; simp only [D.frz, frzs_nl g xs h]
theorem frzs_nl (g : Nat → Option D) : ∀ ds : List D, D.noLocs ds = true → D.frzs g ds = some ds
  | [], _ => by simp only [D.frzs]
  | d :: ds, h => by
    simp only [D.noLocs, Bool.and_eq_true] at h
    simp only [D.frzs, frz_nl g d h.1, frzs_nl g ds h.2]
end
section
variable {K : PySem.W.Frag} {ca : CA} {F rho F2 rho2 : List Addr} {H : Hp} {ah : AH}
mutual
theorem RelD.flat : ∀ (d : D) (v : V), d.flat = true → RelD K ca F rho H d v → RelD K ca F2 rho2 H d v
  | .non, v, _, h => by simp only [RelD] at h ⊢; exact h
  | .bl b, v, _, h => by simp only [RelD] at h ⊢; exact h
  | .int i, v, _, h => by simp only [RelD] at h ⊢; exact h
  | .str x, v, _, h => by simp only [RelD] at h ⊢; exact h
  | .tup xs, v, f, h => by
    simp only [D.flat] at f
    simp only [RelD] at h ⊢
    obtain ⟨hz, a, vs, e1, h1, h2⟩ := h
    exact ⟨hz, a, vs, e1, h1, RelDs.flat xs vs f h2⟩
  | .lst xs, v, f, h => by simp [D.flat] at f
  | .scr ns, v, f, h => by simp [D.flat] at f
  | .ob c ns xs, v, f, h => by simp [D.flat] at f
  | .dct ks xs, v, f, h => by simp [D.flat] at f
  | .loc n, v, f, h => by simp [D.flat] at f
theorem RelDs.flat : ∀ (ds : List D) (vs : List V), D.flats ds = true → RelDs K ca F rho H ds vs → RelDs K ca F2 rho2 H ds vs
  | [], vs, _, h => by simp only [RelDs] at h ⊢; exact h
  | x :: xs, vs, f, h => by
    simp only [D.flats, Bool.and_eq_true] at f
    simp only [RelDs] at h ⊢
    obtain ⟨v, r, e1, h1, h2⟩ := h
    exact ⟨v, r, e1, RelD.flat x v f.1 h1, RelDs.flat xs r f.2 h2⟩
end
theorem HR.noF (R : HR K ca F rho ah H) {a : Addr} (h : H a = none) : a ∉ F := fun z => by
  have m := R.mu a z
  rw [h] at m
  exact m
/-- behind a call that kept every object -/
theorem HR.kept {H1 : Hp} (R : HR K ca F rho ah H) (k : ∀ a o, H a = some o → H1 a = some o) : HR K ca F rho ah H1 ∧ Ext F rho H F rho H1 := by
  have e : Ext F rho H F rho H1 := ⟨⟨[], by simp⟩, fun _ h => h, fun a h n => absurd h n, fun a h n => absurd h n, fun a o h _ => k a o h⟩
  have som : ∀ a ∈ F, ∃ o, H a = some o := fun a h => by
    have m := R.mu a h
    cases q : H a with
    | none => rw [q] at m; exact m.elim
    | some o => exact ⟨o, rfl⟩
  refine ⟨⟨R.sub, R.nd, R.len, fun a h => ?_, fun i c a hc ha => ?_⟩, e⟩
  · obtain ⟨o, ho⟩ := som a h
    have m := R.mu a h
    rw [k a o ho, ← ho]
    exact m
  · obtain ⟨o, ho⟩ := som a (R.sub a (List.mem_of_getElem? ha))
    have c1 := R.cells i c a hc ha
    rw [k a o ho, ← ho]
    exact c1.keep R.sub R.mu e
theorem RelDs.noLocs_ok {ds : List D} {vs : List V} (h : D.noLocs ds = true) (r : RelDs K ca F rho H ds vs) : RelDs K ca F [] H ds vs :=
  RelDs.frz (F2 := F) (rho2 := []) (g := fun _ => none) (fun a z => z) (fun i d a e => by cases e) ds ds vs (frzs_nl _ ds h) r
theorem rho_up {d : D} {v : V} (R : HR K ca F rho ah H) (r : RelD K ca F [] H d v) : RelD K ca F rho H d v := RelD.keepW R.mu ⟨⟨rho, rfl⟩, fun a h n => absurd h n, fun a o h _ => h⟩ d v r
theorem rhos_up {ds : List D} {vs : List V} (R : HR K ca F rho ah H) (r : RelDs K ca F [] H ds vs) : RelDs K ca F rho H ds vs := RelDs.keepW R.mu ⟨⟨rho, rfl⟩, fun a h n => absurd h n, fun a o h _ => h⟩ ds vs r
/-- what a pure def hands back, to its caller -/
theorem out_lists {F1 rho1 : List Addr} {ah1 : AH} {H1 : Hp} (R : HR K ca F rho ah H) (e : Ext F [] H F1 rho1 H1) (R1 : HR K ca F1 rho1 ah1 H1) {ds es : List D} {vs : List V} (h : rds ah1 ds = some es) (r : RelDs K ca F1 rho1 H1 ds vs) : RelDs K ca F [] H1 es vs := by
  have nn : ∀ i a, rho1[i]? = some a → 0 ≤ i → a ∉ F := fun i a hi _ => R.noF (e.newr a (List.mem_of_getElem? hi) (by simp))
  have := RelDs.frz (F2 := F) (rho2 := rho1.take 0) (fun a z => e.sub a z) (fun i d a => deep_ok (F2 := F) (n := 0) R1 (fun a z => e.sub a z) nn (fun _ _ _ z => absurd z (Nat.not_lt_zero _)) 6 i d a) ds es vs h r
  simpa using this
theorem rds_one {d e : D} (h : rd ah d = some e) : rds ah [d] = some [e] := by
  unfold rds
  unfold rd at h
  simp only [D.frzs, h]
end
section
variable {K : PySem.W.Frag} {ca : CA} {F rho : List Addr} {H : Hp} {ah : AH} {Q : VK} {E : XK}
/-- keep: the body at the caller's cells -/
theorem fin_keep {r : RS} (h : OutG (RelD K ca) K ca F rho H Q E (finK r)) : OutS K ca F rho H (fun c d _ H' => E c d H') { nx := fun _ H' => Q .non H', rt := Q } r := by
  cases r with
  | nx env ah1 => exact fun F' rho' H' s e R x => h F' rho' H' .non e R (by simp only [RelD])
  | ret d ah1 => exact h
  | exc e env ah1 => exact fun F' rho' H' s c d e2 R x y => h F' rho' H' c d e2 R y
  | bad => exact h
/-- pure, no cell among the arguments -/
theorem fin_pure1 {r : RS} (R : HR K ca F rho ah H) (h : OutG (RelD K ca) K ca F rho H Q E (finP true ah r)) : OutS K ca F [] H (fun c d _ H' => E c d H') { nx := fun _ H' => Q .non H', rt := Q } r := by
  have kp : ∀ {F' rho' : List Addr} {H' : Hp}, Ext F [] H F' rho' H' → HR K ca F rho ah H' ∧ Ext F rho H F rho H' := fun e => R.kept fun a o q => e.keep a o q (by simp)
  cases r with
  | nx env ah1 => exact fun F' rho' H' s e R' x => h F rho H' .non (kp e).2 (kp e).1 (by simp only [RelD])
  | ret d ah1 =>
    intro F' rho' H' v e R' rv
    simp only [finP, outD] at h
    split at h
    · rename_i x q
      split at q
      · rename_i d' q2
        simp only [true_or, if_true, Option.some.injEq] at q
        subst q
        have := out_lists R e R' (rds_one q2) (RelDs.cons rv RelDs.nil)
        simp only [RelDs] at this
        obtain ⟨v', r', ev, h1, _⟩ := this
        cases ev
        exact h F rho H' v (kp e).2 (kp e).1 (rho_up (kp e).1 h1)
      · cases q
    · exact (show False from h).elim
  | exc e0 env ah1 =>
    intro F' rho' H' s c d e R' x y
    simp only [finP, outDs] at h
    split at h
    · rename_i xs q
      split at q
      · rename_i es q2
        simp only [true_or, if_true, Option.some.injEq] at q
        subst q
        obtain ⟨y1, y2, y3⟩ := y
        refine h F rho H' c d (kp e).2 (kp e).1 ⟨y1, ?_, fun hn => ?_⟩
        · by_cases hn : e0.ns = []
          · have hz : e0.xs = [] := by
              rw [hn] at y2
              exact List.length_eq_zero_iff.mp y2.symm
            rw [hz] at q2
            simp only [rds, D.frzs, Option.some.injEq] at q2
            show e0.ns.length = es.length
            rw [hn, ← q2]; rfl
          · obtain ⟨dd, vs, z1, z2, z3⟩ := y3 hn
            have := out_lists R e R' q2 z3
            show e0.ns.length = es.length
            rw [y2, z3.length, this.length]
        · obtain ⟨dd, vs, z1, z2, z3⟩ := y3 hn
          exact ⟨dd, vs, z1, z2, rhos_up (kp e).1 (out_lists R e R' q2 z3)⟩
      · cases q
    · exact (show False from h).elim
  | bad => exact h
/-- pure, cells among the arguments -/
theorem fin_pure2 {r : RS} (R : HR K ca F rho ah H) (h : OutG (RelD K ca) K ca F rho H Q E (finP false ah r)) : OutS K ca [] [] H (fun c d _ H' => E c d H') { nx := fun _ H' => Q .non H', rt := Q } r := by
  have kp : ∀ {F' rho' : List Addr} {H' : Hp}, Ext [] [] H F' rho' H' → HR K ca F rho ah H' ∧ Ext F rho H F rho H' := fun e => R.kept fun a o q => e.keep a o q (by simp)
  cases r with
  | nx env ah1 => exact fun F' rho' H' s e R' x => h F rho H' .non (kp e).2 (kp e).1 (by simp only [RelD])
  | ret d ah1 =>
    intro F' rho' H' v e R' rv
    simp only [finP, outD] at h
    split at h
    · rename_i x q
      split at q
      · rename_i d' q2
        split at q
        · rename_i q3
          simp only [Bool.false_eq_true, false_or] at q3
          simp only [Option.some.injEq] at q
          subst q
          exact h F rho H' v (kp e).2 (kp e).1 ((rd_ok R' q2 rv).flat _ _ q3)
        · cases q
      · cases q
    · exact (show False from h).elim
  | exc e0 env ah1 =>
    intro F' rho' H' s c d e R' x y
    simp only [finP, outDs] at h
    split at h
    · rename_i xs q
      split at q
      · rename_i es q2
        split at q
        · rename_i q3
          simp only [Bool.false_eq_true, false_or] at q3
          simp only [Option.some.injEq] at q
          subst q
          obtain ⟨y1, y2, y3⟩ := y
          refine h F rho H' c d (kp e).2 (kp e).1 ⟨y1, ?_, fun hn => ?_⟩
          · by_cases hn : e0.ns = []
            · have hz : e0.xs = [] := by
                rw [hn] at y2
                exact List.length_eq_zero_iff.mp y2.symm
              rw [hz] at q2
              simp only [rds, D.frzs, Option.some.injEq] at q2
              show e0.ns.length = es.length
              rw [hn, ← q2]; rfl
            · obtain ⟨dd, vs, z1, z2, z3⟩ := y3 hn
              have := rds_ok R' q2 z3
              show e0.ns.length = es.length
              rw [y2, z3.length, this.length]
          · obtain ⟨dd, vs, z1, z2, z3⟩ := y3 hn
            exact ⟨dd, vs, z1, z2, (rds_ok R' q2 z3).flat _ _ q3⟩
        · cases q
      · cases q
    · exact (show False from h).elim
  | bad => exact h
end

/-! ### the levels -/
/-- one def: its name, its text, its names, what it is compiled to -/
structure PFd where
  x : Str
  params : Arguments
  body : List Stmt
  scope : Scope
  N : List Str
  ps : List Str
  mu : List (Nat × Nat)
  fd : FnDef
/-- the tables -/
structure Tab where
  fns : List (Str × Nat)
  glb : List (Str × Nat)
  exs : List (Str × Nat)
  blt : List Str
  ctc : List (Str × List Nat)
def PFd.ct (d : PFd) (T : Tab) : Ct := ⟨d.N, d.scope, true, T.fns, T.glb, T.exs, T.blt, d.mu, none, T.ctc⟩
/-- what the texts say of it -/
structure PFd.Ok (d : PFd) (T : Tab) : Prop where
  S : FnScope d.N d.ps d.scope
  comp : mapS (compS 60 (d.ct T)) d.body = some d.fd.body
  slots : d.fd.slots = d.N.length
  par : d.fd.par = d.ps.length
  mode : d.fd.mode ≠ .cut
/-- what is known behind the top -/
structure Top1 (P : Program) (w : World) (K : PySem.W.Frag) (mg : Str → Option Value) (base : Heap) (ca : CA) (Pr : Prog1) (T : Tab) (defs : Nat → Option PFd) : Prop where
  ex0 : ca.ex = none
  fns : ∀ i fd, Pr.fns i = some fd → ∃ d, defs i = some d ∧ d.fd = fd
  ok : ∀ i d, defs i = some d → d.Ok T
  dfs : ∀ i d, defs i = some d → ∃ f fd, FunD K d.x d.x d.params d.body d.scope [] [] f fd ∧ mg d.x = some (.ref f) ∧ Binds K fd d.ps []
  nam : ∀ x i, (x, i) ∈ T.fns → ∃ d, defs i = some d ∧ d.x = x
  blt : ∀ x ∈ T.blt, mg x = none
  glb : ∀ x g, (x, g) ∈ T.glb → ∃ v u, mg x = some u ∧ RelV v u ∧ ∀ F rho H, RelD K ca F rho H (Pr.gl g) v
  exs : ∀ x c, (x, c) ∈ T.exs → ExAt P w K mg base ca 1 c (Pr.xf c) (Pr.xo c) x ∧ (Pr.xf c).length ≤ 1000
  ctc : ∀ x cs, (x, cs) ∈ T.ctc → ∃ c, (x == ("__debug__" : Str)) = false ∧ mg x = some c ∧ ∀ j, j < Pr.nx → PySem.W.exmOne K (.ref (ca.f (j % 1000))) c = some (decide (j ∈ cs))
  xfc : ∀ j, j < Pr.nx → XfC K (ca.f (j % 1000)) ∧ ∀ f ∈ Pr.xf j, PySem.W.findIn K (.ref (ca.f (j % 1000))) f = some none
section
variable {P : Program} {w : World} {K : PySem.W.Frag} {mg : Str → Option Value} {base : Heap} {ca : CA} {Pr : Prog1} {T : Tab} {defs : Nat → Option PFd}
theorem er_start {F rho : List Addr} {H : Hp} {ds : List D} {vs : List V} {N : List Str} (h0 : ca.ex = none) (r : RelDs K ca F rho H ds vs) (hl : ds.length ≤ N.length) : ER K ca F rho H (startE N.length ds) (L2.start N vs) := by
  have hlen := r.length
  refine ⟨?_, fun i d hd => ?_, fun e he => by rw [h0] at he; cases he⟩
  · unfold startE L2.start
    rw [List.length_append, List.length_append, List.length_map, List.length_map, List.length_replicate, List.length_replicate, hlen]
  · unfold startE at hd
    by_cases hi : i < ds.length
    · rw [List.getElem?_append_left (by simpa using hi), List.getElem?_map] at hd
      cases q : ds[i]? with
      | none => rw [q] at hd; cases hd
      | some d' =>
        rw [q] at hd
        cases hd
        obtain ⟨v, h1, h2⟩ := r.get q
        refine ⟨v, ?_, h2⟩
        unfold L2.start
        rw [List.getElem?_append_left (by rw [List.length_map, ← hlen]; exact hi), List.getElem?_map, h1]
        rfl
    · rw [List.getElem?_append_right (by simpa using hi), List.getElem?_replicate] at hd
      split at hd <;> cases hd
theorem fn_ok (T1 : Top1 P w K mg base ca Pr T defs) {j i : Nat} (ih : ∀ x i, (x, i) ∈ T.fns → FnAt P w K mg base ca (3 * j) (callF Pr j i) x) {d : PFd} (hd : defs i = some d) {f : Addr} {fd : FuncData} (F0 : FunD K d.x d.x d.params d.body d.scope [] [] f fd) :
    FnOk P w K mg base (L2.CX P w) (3 * (j + 1)) f fd d.ps (spF K ca (callF Pr (j + 1) i)) := by
  have ok := T1.ok i d hd
  refine FunD.ok (N := d.N) F0 ok.S (fun vs H Q E ⟨F, rho, ah, ds, R, rds, h⟩ => ?_) fun cdv A outer s H vs Q E hr ⟨F, rho, ah, ds, R, rds, h⟩ => ?_
  · simp only [callF] at h
    split at h
    · rename_i fd0 q
      obtain ⟨d', h1, h2⟩ := T1.fns i fd0 q
      rw [hd] at h1
      cases h1
      split at h
      · rename_i hl
        rw [← rds.length, hl, ← h2, ok.par]
      · exact (show False from h).elim
    · exact (show False from h).elim
  · have hfit : FitS (cxOf (L2.CX P w) P w K mg base d.N d.x d.scope f cdv A outer s H E) ca (fun c d _ H' => E c d H') (cfgK Pr j) none (3 * j) (d.ct T) := by
      refine ⟨⟨rfl, ok.S.nd, fun x h => h, fun x h => h, fun x h => h, fun x h => ⟨h, rfl⟩, fun x h => .inr h, ok.S.kind, rfl, (by have := hr.un; show (A.deeper _).units + 66 < cLine; omega), fun _ => hr, T1.blt, ih, T1.glb, T1.exs, (fun x h => by cases h), fun _ => rfl,
        takes_of rfl rfl rfl rfl, fun _ => T1.ex0, fun x i _ _ => notEx_of T1.ex0 i⟩, rfl, rfl, passes_of rfl, fun x cs h hk => ?_, T1.xfc⟩
      obtain ⟨c, h1, h2, h3⟩ := T1.ctc x cs h
      exact ⟨c, ⟨hk, h1, .inl h2⟩, h3⟩
    refine ⟨upS K ca (fun c d _ H' => E c d H') (evSs (cfgK Pr j) none d.fd.body), mapS_ok (fun e c h => snd_s 60 _ e c h hfit) ok.comp, ?_⟩
    simp only [callF] at h
    split at h
    · rename_i fd0 q
      obtain ⟨d', h1, h2⟩ := T1.fns i fd0 q
      rw [hd] at h1
      cases h1
      subst h2
      split at h
      · rename_i hl
        have hpl : d.ps.length ≤ d.N.length := by
          have := congrArg List.length ok.S.pre
          rw [List.length_take] at this
          omega
        have hle : ds.length ≤ d.N.length := by rw [hl, ok.par]; exact hpl
        unfold runF at h
        split at h
        · rename_i hm
          split at h
          · rename_i es q2
            cases hnl : D.noLocs ds with
            | true =>
              rw [hnl] at h
              have ee : es = ds := by
                have := frzs_nl (deepG ah 0 6) ds hnl
                unfold M.rds at q2
                rw [this] at q2
                exact (Option.some.inj q2).symm
              subst ee
              have R' : HR K ca F [] [] H := ⟨(fun a h => by cases h), List.nodup_nil, rfl, R.mu, (fun i c a h => by simp at h)⟩
              refine ⟨F, [], startE d.fd.slots es, [], R', ?_, fin_pure1 R h⟩
              rw [ok.slots]
              exact er_start T1.ex0 (RelDs.noLocs_ok hnl rds) hle
            | false =>
              rw [hnl] at h
              have R' : HR K ca [] [] [] H := ⟨(fun a h => by cases h), List.nodup_nil, rfl, (fun a h => by cases h), (fun i c a h => by simp at h)⟩
              have re := rds_ok R q2 rds
              refine ⟨[], [], startE d.fd.slots es, [], R', ?_, fin_pure2 R h⟩
              rw [ok.slots]
              exact er_start T1.ex0 re (by rw [re.length, ← rds.length]; exact hle)
          · exact (show False from h).elim
        · refine ⟨F, rho, startE d.fd.slots ds, ah, R, ?_, fin_keep h⟩
          rw [ok.slots]
          exact er_start T1.ex0 rds hle
        · rename_i hm
          exact absurd hm ok.mode
      · exact (show False from h).elim
    · exact (show False from h).elim
theorem level (T1 : Top1 P w K mg base ca Pr T defs) : ∀ (j : Nat) (x : Str) (i : Nat), (x, i) ∈ T.fns → FnAt P w K mg base ca (3 * j) (callF Pr j i) x
  | 0, x, i, h => by
    obtain ⟨d, hd, rfl⟩ := T1.nam x i h
    obtain ⟨f, fd, F0, hm, hb⟩ := T1.dfs i d hd
    refine ⟨f, fd, d.ps, hm, F0.kp, hb, fun vs H Q E ⟨F, rho, ah, ds, R, rds, h⟩ => (show False from h).elim, fun A outer s H args us vs Q E hr e0 hb2 hv ⟨F, rho, ah, ds, R, rds, h⟩ => (show False from h).elim⟩
  | j + 1, x, i, h => by
    obtain ⟨d, hd, rfl⟩ := T1.nam x i h
    obtain ⟨f, fd, F0, hm, hb⟩ := T1.dfs i d hd
    exact ⟨f, fd, d.ps, hm, F0.kp, hb, fn_ok T1 (level T1 j) hd F0⟩
end
end M
end

section
set_option Elab.async false
set_option linter.all false
set_option maxRecDepth 100000
set_option maxHeartbeats 4000000
/-! The machine, 20: the head's facts: defs, own errors. -/
namespace M
open PySem PySem.Spec PyProof.Rows L2
/-- an own error: its class, its __init__'s text, its fields -/
structure ExD where
  x : Str
  qual : Str
  params : Arguments
  body : List Stmt
  scope : Scope
  flds : List Str
  file : Str
abbrev FnS : Type := Option (Str × Arguments × FuncBody × Scope × Addr × List Str × Addr)
def ExD.f (K : PySem.W.Frag) (e : ExD) : Addr := He.ma K (He.ga K e.x) "__init__"
def ExD.obs (K : PySem.W.Frag) (e : ExD) : FnS := match K.lookup (e.f K) with
  | some ⟨_, _, .func fd, _⟩ => some (fd.qualname, fd.params, fd.body, fd.scope, fd.globals, fd.closure.map (·.1), fd.builtins)
  | _ => none
def ExD.val (e : ExD) : FnS := some (e.qual, e.params, .stmts e.body, e.scope, mainGlobals, ["__class__"], builtinsNs)
def oexB (K : PySem.W.Frag) (C : Addr) : Bool := match K.lookup C with
  | some ⟨.type T, _, .cls cd, sl⟩ => decide (T = "type") && (match cd.mro, sl.toList with
    | .ref C' :: bm, [_, _, _, _, some (.builtin n), _] => decide (C' = C) && (decide (n = "ValueError.__new__") && (!cd.hasDel && (cd.hasDict && PySem.HandSPX.refsVE bm)))
    | _, _ => false)
  | _ => false
def exc1 (K : PySem.W.Frag) (C : Addr) : Bool := oexB K C && (decide (PySem.W.findIn K (.ref C) "__setattr__" = some (some (.builtin "object.__setattr__"))) && (decide (PySem.W.subIn K (.ref C) (.type "BaseException") = some true) &&
  (decide (PySem.W.typeIn K (.ref C) = some (.type "type")) && (PySem.W.keepIn K (.ref C) && xfB K C))))
def ExD.chk (K : PySem.W.Frag) (e : ExD) : Bool := exc1 K (He.ga K e.x) && ((match K.lookup (e.f K) with
  | some ⟨_, _, .func fd, _⟩ => (match fd.defaults, fd.code, fd.closure with
    | .none, .ref cda, [(_, cc)] => PySem.W.codeIn K (.ref cda) e.qual && ((match K.lookup cda with
      | some ⟨_, _, .fields vf, _⟩ => (match (vf[2]? : Option Value) with
        | some (Value.str file _) => decide (file = e.file)
        | _ => false)
      | _ => false) && (match K.lookup cc with
      | some ⟨_, _, .cell (some (.ref C')), _⟩ => decide (C' = He.ga K e.x)
      | _ => false))
    | _, _, _ => false)
  | _ => false) && ((PySem.W.clsIn K (He.ga K e.x)).isSome && (decide (PySem.W.mroIn K (He.ga K e.x) (.ref (He.ga K e.x)) = some true) && (decide (PySem.W.ks_superIn K (He.ga K e.x) (He.ga K e.x) "__init__" = some (some (.builtin "ValueError.__init__"))) &&
  (decide (PySem.W.nsIn K PySem.cStatics "thirdparty.any" = some none) && (decide (PySem.W.subIn K (.ref (He.ga K e.x)) (.type "ValueError") = some true) && (decide (PySem.W.findIn K (.ref (He.ga K e.x)) "__init__" = some (some (.ref (e.f K)))) &&
  (decide (PySem.W.typeIn K (.ref (e.f K)) = some (.type "function")) && e.flds.all fun n => decide (PySem.W.findIn K (.ref (He.ga K e.x)) n = some none)))))))))
abbrev AlX : Type := He.AlD × (Bool × List FnS)
def obsX (fa : List He.Fa) (fn : List He.DefD) (ex : List ExD) (K : PySem.W.Frag) : AlX := (He.obsD fa fn K, (ex.all fun e => e.chk K, ex.map fun e => e.obs K))
def valX (fn : List He.DefD) (ex : List ExD) : AlX := (He.valD fn, (true, ex.map ExD.val))
def SaysX (fa : List He.Fa) (fn : List He.DefD) (ex : List ExD) (K : PySem.W.Frag) : Prop := obsX fa fn ex K = valX fn ex
def obsXG (n : Nat) (fa : List He.Fa) (fn : List He.DefD) (ex : List ExD) (g : Addr → Option Obj) : AlX := obsX fa fn ex (He.frG g (PySem.cStatics :: He.asD g n))
def hookX (n : Nat) (fa : List He.Fa) (fn : List He.DefD) (ex : List ExD) : PySem.W.Hook where
  α := AlX
  obs := fun s => obsXG n fa fn ex s.heap.get?
  val := fun _ => valX fn ex
  says := fun _ h => ∃ K : PySem.W.Frag, K.In h ∧ SaysX fa fn ex K
  of := fun _ _ e => ⟨_, He.frG_in, e⟩
  keeps := fun _ _ _ ⟨K, hK, c⟩ k => ⟨K, PySem.W.Frag.In.keeps hK k, c⟩
theorem obsXG_eq {n : Nat} {fa : List He.Fa} {fn : List He.DefD} {ex : List ExD} {g : Addr → Option Obj} {s : Shared} (h : ∀ a, g a = s.heap.get? a) : obsXG n fa fn ex g = (hookX n fa fn ex).obs s := by
  have e : g = s.heap.get? := funext h
  rw [e] <;> rfl
section
variable {fa : List He.Fa} {fn : List He.DefD} {ex : List ExD} {K : PySem.W.Frag}
theorem SaysX.d (c : SaysX fa fn ex K) : He.SaysD fa fn K := congrArg (fun z : AlX => z.1) c
theorem oex_of {C : Addr} (h : exc1 K C = true) : OexC K C ∧ XfC K C := by
  unfold exc1 at h
  simp only [Bool.and_eq_true, decide_eq_true_eq] at h
  obtain ⟨h1, h2, h3, h4, h5, h6⟩ := h
  refine ⟨⟨?_, h2, h3, h4, h5⟩, xfB_ok h6⟩
  unfold oexB at h1
  split at h1
  · rename_i T dd cd sl ho
    simp only [Bool.and_eq_true, decide_eq_true_eq] at h1
    obtain ⟨rfl, h1⟩ := h1
    split at h1
    · rename_i C' bm k0 k1 k2 k3 n k5 hm hs
      simp only [Bool.and_eq_true, decide_eq_true_eq, Bool.not_eq_true'] at h1
      obtain ⟨rfl, rfl, hdel, hdict, ht⟩ := h1
      obtain ⟨nm, bs, mro, ns, qn, hd, sn, sb, ab, col, del⟩ := cd
      dsimp only at hm hdel hdict
      subst hm hdel hdict
      have es : sl = #[k0, k1, k2, k3, some (.builtin "ValueError.__new__"), k5] := by
        obtain ⟨l⟩ := sl
        simp only at hs
        rw [hs]
      subst es
      exact ⟨nm, qn, ns, bs, bm, sn, sb, ab, col, dd, k0, k1, k2, k3, k5, ho, ht⟩
    · cases h1
  · cases h1
theorem SaysX.sup (c : SaysX fa fn ex K) (i : Nat) {e : ExD} (h : ex[i]? = some e) {P : Program} (hf : P.main.file = e.file) : SupD P K (He.ga K e.x) (e.f K) e.qual e.params e.body e.scope ∧ XfC K (He.ga K e.x) ∧ ∀ n ∈ e.flds, PySem.W.findIn K (.ref (He.ga K e.x)) n = some none := by
  have c1 : (ex.all fun e => e.chk K) = true := congrArg (fun z : AlX => z.2.1) c
  have c2 : ex.map (fun e => e.obs K) = ex.map ExD.val := congrArg (fun z : AlX => z.2.2) c
  have c3 : (ex.map fun e => e.obs K)[i]? = (ex.map ExD.val)[i]? := by rw [c2]
  rw [List.getElem?_map, List.getElem?_map, h] at c3
  have ob : e.obs K = e.val := Option.some.inj c3
  have ck := List.all_eq_true.mp c1 e (List.mem_of_getElem? h)
  unfold ExD.chk at ck
  simp only [Bool.and_eq_true, decide_eq_true_eq, List.all_eq_true] at ck
  obtain ⟨k1, k2, k3, k4, k5, k6, k7, k8, k9, k10⟩ := ck
  obtain ⟨o1, o2⟩ := oex_of k1
  refine ⟨⟨?_, o1, Option.isSome_iff_exists.mp k3, k4, k5, k6, k7, k8, k9⟩, o2, fun n hn => k10 n hn⟩
  unfold ExD.obs ExD.val at ob
  split at k2
  · rename_i oc od fd osl q
    rw [q] at ob
    obtain ⟨n1, n2, n3, n4, n5, n6, n7, n8, n9, n10, n11, n12, n13, n14, n15⟩ := fd
    simp only [Option.some.injEq, Prod.mk.injEq] at ob
    obtain ⟨h1, h2, h3, h4, h5, h6, h7⟩ := ob
    subst h1 h2 h3 h4 h5 h7
    dsimp only at k2
    split at k2
    · rename_i cda nm cc
      simp only [Bool.and_eq_true] at k2
      obtain ⟨m1, m2, m3⟩ := k2
      split at m2
      · rename_i ccl cdd vf ccs q2
        split at m2
        · rename_i file tf q3
          split at m3
          · rename_i cl cld C' csl q4
            have e1 := of_decide_eq_true m2
            have e2 := of_decide_eq_true m3
            subst e2
            simp only [List.map_cons, List.map_nil, List.cons.injEq, and_true] at h6
            subst h6
            exact ⟨_, _, _, _, _, _, _, _, cda, _, cc, _, _, _, _, vf, _, _, file, tf, q, m1, q2, q3, by rw [hf, e1]; simp, q4⟩
          · cases m3
        · cases m2
      · cases m2
    · cases k2
  · cases k2
end
theorem rel_strC {K : PySem.W.Frag} {ca : CA} {F rho : List Addr} {H : Hp} {l : List Nat} {z : Str} (h1 : sOkB l = true) (h2 : z = ⟨l.toArray⟩) : RelD K ca F rho H (.str l) (.str z) := by
  simp only [RelD]
  exact ⟨sOkB_ok h1, by rw [h2]⟩
/-- for a law: no exception comes out -/
theorem fn_nox {P : Program} {w : World} {K : PySem.W.Frag} {mg : Str → Option Value} {base : Heap} {k : Nat} {f : Addr} {fd : FuncData} {ps : List Str} {sp : Sp} (F : FnOk P w K mg base (L2.CX P w) k f fd ps sp) : FnOk P w K mg base L2.CX0 k f fd ps (fun vs H Q _ => sp vs H Q fun _ _ _ => False) :=
  ⟨fun vs H Q E h => F.len vs H Q _ h, fun A outer s H args us vs Q E hr e0 hb hv h => codeAny_mono (F.run A outer s H args us vs Q _ hr e0 hb hv h) fun r s' hq => by
    cases r with
    | error e =>
      obtain ⟨a, B, H', cls, d, e1, fl, hok, ub, na, os, ag, hE⟩ := hq
      exact hE.elim
    | ok f => cases f <;> exact hq⟩
end M
end

section
set_option Elab.async false
set_option linter.all false
set_option maxRecDepth 100000
set_option maxHeartbeats 0
namespace SW
open PySem PySem.Spec PyProof.Rows L2 M
def prog : Program := PySem.Challenge.pw_swappedhot_k53_deeds_as_texts
def top (i : Nat) : Stmt := prog.main.body.getD i (.Pass ⟨0, 0, 0, 0⟩)

def tab : Tab := ⟨[("is_name", 0), ("is_digit", 1), ("write_deeds", 2), ("read_deed", 3), ("read_deeds", 4), ("_law_pool", 5), ("_law_draw", 6), ("_law_pick", 7), ("_law_name", 8), ("_law_names", 9), ("_law_same", 10), ("_law_line", 11), ("_law_any_deed", 12), ("_law_wrong_line", 13), ("_law_read", 14), ("law", 15)], [("LETTERS", 0)], [("InvalidText", 0)], ["len", "abs", "all", "max", "int", "str", "tuple", "list", "bool", "isinstance", "range", "enumerate", "zip"], [("InvalidText", [0])]⟩
def st0 : Stmt := top 5
def N0 : List Str := ["value", "letter"]
def mu0 : List (Nat × Nat) := []
def st1 : Stmt := top 7
def N1 : List Str := ["part"]
def mu1 : List (Nat × Nat) := []
def st2 : Stmt := top 8
def N2 : List Str := ["deeds", "part", "deed"]
def mu2 : List (Nat × Nat) := []
def st3 : Stmt := top 9
def N3 : List Str := ["line", "parts"]
def mu3 : List (Nat × Nat) := []
def st4 : Stmt := top 10
def N4 : List Str := ["text", "deeds", "at", "line", "deed"]
def mu4 : List (Nat × Nat) := [(39, 14012)]
def st5 : Stmt := top 12
def N5 : List Str := ["_law_script", "_law_cells", "_law_great", "_law_small", "_law_cell"]
def mu5 : List (Nat × Nat) := [(51, 41011)]
def st6 : Stmt := top 13
def N6 : List Str := ["_law_pool_here", "_law_many", "_law_great", "_law_digit", "_law_seed", "_law_number"]
def mu6 : List (Nat × Nat) := []
def st7 : Stmt := top 14
def N7 : List Str := ["_law_pool_here", "_law_items"]
def mu7 : List (Nat × Nat) := []
def st8 : Stmt := top 15
def N8 : List Str := ["_law_pool_here", "_law_taken", "_law_letters", "_law_size", "_law_word", "_law_k"]
def mu8 : List (Nat × Nat) := []
def st9 : Stmt := top 16
def N9 : List Str := ["_law_pool_here", "_law_count", "_law_names_here", "_law_k"]
def mu9 : List (Nat × Nat) := [(81, 24022)]
def st10 : Stmt := top 17
def N10 : List Str := ["_law_a", "_law_b", "_law_x", "_law_y"]
def mu10 : List (Nat × Nat) := []
def st11 : Stmt := top 18
def N11 : List Str := ["_law_deed", "_law_part"]
def mu11 : List (Nat × Nat) := []
def st12 : Stmt := top 19
def N12 : List Str := ["_law_pool_here", "_law_names_here", "_law_most", "_law_kind"]
def mu12 : List (Nat × Nat) := []
def st13 : Stmt := top 20
def N13 : List Str := ["_law_pool_here", "_law_deed", "_law_line_here", "_law_kind", "_law_at"]
def mu13 : List (Nat × Nat) := []
def st14 : Stmt := top 21
def N14 : List Str := ["_law_text", "_law_told", "e"]
def mu14 : List (Nat × Nat) := []
def st15 : Stmt := top 22
def N15 : List Str := ["_law_script", "_law_pool_here", "_law_spoil", "_law_listed", "_law_names_here", "_law_wide", "_law_deeds", "_law_asked", "_law_text", "_law_lines", "_law_at", "_law_wrong", "_law_k", "_law_deed"]
def mu15 : List (Nat × Nat) := [(153, 87025), (155, 83025)]
def b0 : CSs := (.cons (.ite (.or (.not (.op (.isinst .str) (.cons (.var 0) .nil))) (.not (.chain .le .le (.con (.int 1)) (.op .len (.cons (.var 0) .nil)) (.con (.int 8))))) (.cons (.ret (.con (.bl false))) .nil) .nil) (.cons (.forS (.name 1) (.seq (.var 0)) (.cons (.ite (.op .notin (.cons (.var 1) (.cons (.glob 0) .nil))) (.cons (.ret (.con (.bl false))) .nil) .nil) .nil)) (.cons (.ret (.con (.bl true))) .nil)))
def d0 : PFd := ⟨"is_name", defArgs st0, defBody st0, defScope st0, N0, ["value"], mu0, ⟨2, 1, .pure, b0⟩⟩
def b1 : CSs := (.cons (.ret (.and (.op .eq (.cons (.op .len (.cons (.var 0) .nil)) (.cons (.con (.int 1)) .nil))) (.op .isin (.cons (.var 0) (.cons (.con (.str [48, 49, 50, 51, 52, 53, 54, 55, 56, 57])) .nil))))) .nil)
def d1 : PFd := ⟨"is_digit", defArgs st1, defBody st1, defScope st1, N1, ["part"], mu1, ⟨1, 1, .pure, b1⟩⟩
def b2 : CSs := (.cons (.ret (.meth .str .join (.con (.str [10])) (.cons (.comp false (.name 2) (.seq (.var 0)) .nil (.meth .str .join (.con (.str [32])) (.cons (.comp false (.name 1) (.seq (.var 2)) .nil (.op .str (.cons (.var 1) .nil)) [1]) .nil)) [2]) .nil))) .nil)
def d2 : PFd := ⟨"write_deeds", defArgs st2, defBody st2, defScope st2, N2, ["deeds"], mu2, ⟨3, 1, .pure, b2⟩⟩
def b3 : CSs := (.cons (.asg (.name 1) (.op .tuple (.cons (.meth .str (.split false) (.var 0) (.cons (.con (.str [32])) .nil)) .nil))) (.cons (.ite (.op .eq (.cons (.var 1) (.cons (.tup (.cons (.con (.str [114, 101, 108, 111, 97, 100])) .nil)) .nil))) (.cons (.ret (.var 1)) .nil) .nil) (.cons (.ite (.and (.op .eq (.cons (.op .len (.cons (.var 1) .nil)) (.cons (.con (.int 2)) .nil))) (.and (.op .eq (.cons (.op .idx (.cons (.var 1) (.cons (.con (.int 0)) .nil))) (.cons (.con (.str [102, 105, 114, 101])) .nil))) (.call 0 (.cons (.op .idx (.cons (.var 1) (.cons (.con (.int 1)) .nil))) .nil)))) (.cons (.ret (.var 1)) .nil) .nil) (.cons (.ite (.or (.op .ne (.cons (.op .len (.cons (.var 1) .nil)) (.cons (.con (.int 3)) .nil))) (.not (.call 0 (.cons (.op .idx (.cons (.var 1) (.cons (.con (.int 1)) .nil))) .nil)))) (.cons (.ret (.con .non)) .nil) .nil) (.cons (.ite (.and (.op .eq (.cons (.op .idx (.cons (.var 1) (.cons (.con (.int 0)) .nil))) (.cons (.con (.str [101, 100, 105, 116])) .nil))) (.call 1 (.cons (.op .idx (.cons (.var 1) (.cons (.con (.int 2)) .nil))) .nil))) (.cons (.ret (.tup (.cons (.con (.str [101, 100, 105, 116])) (.cons (.op .idx (.cons (.var 1) (.cons (.con (.int 1)) .nil))) (.cons (.op .int (.cons (.op .idx (.cons (.var 1) (.cons (.con (.int 2)) .nil))) .nil)) .nil))))) .nil) .nil) (.cons (.ite (.and (.op .eq (.cons (.op .idx (.cons (.var 1) (.cons (.con (.int 0)) .nil))) (.cons (.con (.str [115, 101, 116])) .nil))) (.call 0 (.cons (.op .idx (.cons (.var 1) (.cons (.con (.int 2)) .nil))) .nil))) (.cons (.ret (.var 1)) .nil) .nil) (.cons (.ret (.con .non)) .nil)))))))
def d3 : PFd := ⟨"read_deed", defArgs st3, defBody st3, defScope st3, N3, ["line"], mu3, ⟨2, 1, .pure, b3⟩⟩
def b4 : CSs := (.cons (.ite (.op .eq (.cons (.var 0) (.cons (.con (.str [])) .nil))) (.cons (.ret (.tup .nil)) .nil) .nil) (.cons (.asg (.name 1) (.lst true .nil)) (.cons (.forS (.tup (.cons (.name 2) (.cons (.name 3) .nil))) (.enum (.meth .str (.split false) (.var 0) (.cons (.con (.str [10])) .nil))) (.cons (.asg (.name 4) (.call 3 (.cons (.var 3) .nil))) (.cons (.ite (.op .isN (.cons (.var 4) .nil)) (.cons (.raise 0 (.cons (.op (.add false) (.cons (.var 2) (.cons (.con (.int 1)) .nil))) .nil)) .nil) .nil) (.cons (.ex (.meth .list .append (.var 1) (.cons (.var 4) .nil))) .nil)))) (.cons (.ret (.op .tuple (.cons (.var 1) .nil))) .nil))))
def d4 : PFd := ⟨"read_deeds", defArgs st4, defBody st4, defScope st4, N4, ["text"], mu4, ⟨5, 1, .pure, b4⟩⟩
def b5 : CSs := (.cons (.asg (.name 1) (.comp false (.name 4) (.seq (.slice false (.var 0) (.con .non) (.con (.int 63)))) .nil (.op .int (.cons (.var 4) .nil)) [4])) (.cons (.asg (.name 2) (.comp false (.name 4) (.seq (.var 1)) (.cons (.op .ge (.cons (.op .abs (.cons (.var 4) .nil)) (.cons (.op .pow (.cons (.con (.int 10)) (.cons (.con (.int 18)) .nil))) .nil))) .nil) (.op .abs (.cons (.var 4) .nil)) [4])) (.cons (.asg (.name 3) (.comp false (.name 4) (.seq (.var 1)) (.cons (.op .lt (.cons (.op .abs (.cons (.var 4) .nil)) (.cons (.op .pow (.cons (.con (.int 10)) (.cons (.con (.int 18)) .nil))) .nil))) .nil) (.op .mod (.cons (.op .int (.cons (.var 4) .nil)) (.cons (.con (.int 1000003)) .nil))) [4])) (.cons (.ret (.lst true (.cons (.var 2) (.cons (.var 3) (.cons (.con (.int 0)) (.cons (.con (.int 0)) .nil)))))) .nil))))
def d5 : PFd := ⟨"_law_pool", defArgs st5, defBody st5, defScope st5, N5, ["_law_script"], mu5, ⟨5, 1, .keep, b5⟩⟩
def b6 : CSs := (.cons (.ite (.and (.op .eq (.cons (.op .idx (.cons (.var 0) (.cons (.con (.int 2)) .nil))) (.cons (.con (.int 0)) .nil))) (.op .gt (.cons (.op .len (.cons (.op .idx (.cons (.var 0) (.cons (.con (.int 0)) .nil))) .nil)) (.cons (.con (.int 0)) .nil)))) (.cons (.asg (.name 2) (.op .idx (.cons (.var 0) (.cons (.con (.int 0)) .nil)))) (.cons (.setI (.var 0) (.con (.int 2)) (.op .idx (.cons (.var 2) (.cons (.con (.int 0)) .nil)))) (.cons (.setI (.var 0) (.con (.int 0)) (.slice false (.var 2) (.con (.int 1)) (.con .non))) .nil))) .nil) (.cons (.ite (.op .gt (.cons (.op .idx (.cons (.var 0) (.cons (.con (.int 2)) .nil))) (.cons (.con (.int 0)) .nil))) (.cons (.asg (.name 3) (.op .mod (.cons (.op .int (.cons (.op .idx (.cons (.var 0) (.cons (.con (.int 2)) .nil))) .nil)) (.cons (.var 1) .nil)))) (.cons (.setI (.var 0) (.con (.int 2)) (.op .fdiv (.cons (.op .idx (.cons (.var 0) (.cons (.con (.int 2)) .nil))) (.cons (.var 1) .nil)))) (.cons (.ret (.var 3)) .nil))) .nil) (.cons (.setI (.var 0) (.con (.int 3)) (.op (.add false) (.cons (.op .idx (.cons (.var 0) (.cons (.con (.int 3)) .nil))) (.cons (.con (.int 1)) .nil)))) (.cons (.asg (.name 4) (.con (.int 0))) (.cons (.ite (.op .gt (.cons (.op .len (.cons (.op .idx (.cons (.var 0) (.cons (.con (.int 1)) .nil))) .nil)) (.cons (.con (.int 0)) .nil))) (.cons (.asg (.name 4) (.op .idx (.cons (.op .idx (.cons (.var 0) (.cons (.con (.int 1)) .nil))) (.cons (.op .mod (.cons (.op .int (.cons (.op .idx (.cons (.var 0) (.cons (.con (.int 3)) .nil))) .nil)) (.cons (.op .len (.cons (.op .idx (.cons (.var 0) (.cons (.con (.int 1)) .nil))) .nil)) .nil))) .nil)))) .nil) .nil) (.cons (.asg (.name 5) (.op .mod (.cons (.op .int (.cons (.op .mul (.cons (.op (.add false) (.cons (.op (.add false) (.cons (.var 4) (.cons (.op .mul (.cons (.con (.int 7919)) (.cons (.op .idx (.cons (.var 0) (.cons (.con (.int 3)) .nil))) .nil))) .nil))) (.cons (.con (.int 1)) .nil))) (.cons (.con (.int 48271)) .nil))) .nil)) (.cons (.con (.int 2147483647)) .nil)))) (.cons (.asg (.name 5) (.op .mod (.cons (.op .int (.cons (.op .mul (.cons (.var 5) (.cons (.op (.add false) (.cons (.op .fdiv (.cons (.var 5) (.cons (.con (.int 1009)) .nil))) (.cons (.con (.int 69621)) .nil))) .nil))) .nil)) (.cons (.con (.int 2147483647)) .nil)))) (.cons (.asg (.name 5) (.op .mod (.cons (.op .int (.cons (.op .mul (.cons (.var 5) (.cons (.op (.add false) (.cons (.op .fdiv (.cons (.var 5) (.cons (.con (.int 2003)) .nil))) (.cons (.con (.int 40692)) .nil))) .nil))) .nil)) (.cons (.con (.int 2147483399)) .nil)))) (.cons (.ret (.op .mod (.cons (.op .int (.cons (.op .fdiv (.cons (.var 5) (.cons (.con (.int 16)) .nil))) .nil)) (.cons (.var 1) .nil)))) .nil)))))))))
def d6 : PFd := ⟨"_law_draw", defArgs st6, defBody st6, defScope st6, N6, ["_law_pool_here", "_law_many"], mu6, ⟨6, 2, .keep, b6⟩⟩
def b7 : CSs := (.cons (.ret (.op .idx (.cons (.var 1) (.cons (.call 6 (.cons (.var 0) (.cons (.op .len (.cons (.var 1) .nil)) .nil))) .nil)))) .nil)
def d7 : PFd := ⟨"_law_pick", defArgs st7, defBody st7, defScope st7, N7, ["_law_pool_here", "_law_items"], mu7, ⟨2, 2, .keep, b7⟩⟩
def b8 : CSs := (.cons (.asg (.name 2) (.con (.str [97, 98, 99, 100, 101, 102, 103, 104, 105, 106, 107, 108, 109, 110, 111, 112, 113, 114, 115, 116, 117, 118, 119, 120, 121, 122]))) (.cons (.asg (.name 3) (.op (.add false) (.cons (.con (.int 1)) (.cons (.call 6 (.cons (.var 0) (.cons (.con (.int 8)) .nil))) .nil)))) (.cons (.asg (.name 4) (.op .idx (.cons (.var 2) (.cons (.call 6 (.cons (.var 0) (.cons (.op .sub (.cons (.con (.int 26)) (.cons (.op .int (.cons (.op .eq (.cons (.var 3) (.cons (.con (.int 8)) .nil))) .nil)) .nil))) .nil))) .nil)))) (.cons (.forS (.name 5) (.range1 (.op .sub (.cons (.var 3) (.cons (.con (.int 1)) .nil)))) (.cons (.asg (.name 4) (.op (.add false) (.cons (.var 4) (.cons (.op .idx (.cons (.var 2) (.cons (.call 6 (.cons (.var 0) (.cons (.con (.int 26)) .nil))) .nil))) .nil)))) .nil)) (.cons (.ite (.or (.op .isin (.cons (.var 4) (.cons (.var 1) .nil))) (.op .eq (.cons (.var 4) (.cons (.con (.str [115, 101, 108, 102])) .nil)))) (.cons (.ret (.op (.add false) (.cons (.con (.str [122, 122, 122, 122, 122, 122, 122])) (.cons (.op .idx (.cons (.var 2) (.cons (.op .len (.cons (.var 1) .nil)) .nil))) .nil)))) .nil) .nil) (.cons (.ret (.var 4)) .nil))))))
def d8 : PFd := ⟨"_law_name", defArgs st8, defBody st8, defScope st8, N8, ["_law_pool_here", "_law_taken"], mu8, ⟨6, 2, .keep, b8⟩⟩
def b9 : CSs := (.cons (.asg (.name 2) (.lst true .nil)) (.cons (.forS (.name 3) (.range1 (.var 1)) (.cons (.ex (.meth .list .append (.var 2) (.cons (.call 8 (.cons (.var 0) (.cons (.var 2) .nil))) .nil))) .nil)) (.cons (.ret (.var 2)) .nil)))
def d9 : PFd := ⟨"_law_names", defArgs st9, defBody st9, defScope st9, N9, ["_law_pool_here", "_law_count"], mu9, ⟨4, 2, .keep, b9⟩⟩
def b10 : CSs := (.cons (.ite (.op (.isinst .tuple) (.cons (.var 1) .nil)) (.cons (.ite (.or (.not (.op (.isinst .tuple) (.cons (.var 0) .nil))) (.op .ne (.cons (.op .len (.cons (.var 0) .nil)) (.cons (.op .len (.cons (.var 1) .nil)) .nil)))) (.cons (.ret (.con (.bl false))) .nil) .nil) (.cons (.ret (.op .all (.cons (.comp false (.tup (.cons (.name 2) (.cons (.name 3) .nil))) (.zip (.var 0) (.var 1)) .nil (.call 10 (.cons (.var 2) (.cons (.var 3) .nil))) [2, 3]) .nil))) .nil)) .nil) (.cons (.ite (.op (.isinst .list) (.cons (.var 1) .nil)) (.cons (.ite (.or (.not (.op (.isinst .list) (.cons (.var 0) .nil))) (.op .ne (.cons (.op .len (.cons (.var 0) .nil)) (.cons (.op .len (.cons (.var 1) .nil)) .nil)))) (.cons (.ret (.con (.bl false))) .nil) .nil) (.cons (.ret (.op .all (.cons (.comp false (.tup (.cons (.name 2) (.cons (.name 3) .nil))) (.zip (.var 0) (.var 1)) .nil (.call 10 (.cons (.var 2) (.cons (.var 3) .nil))) [2, 3]) .nil))) .nil)) .nil) (.cons (.ite (.op .isN (.cons (.var 1) .nil)) (.cons (.ret (.op .isN (.cons (.var 0) .nil))) .nil) .nil) (.cons (.ite (.op (.isinst .bool) (.cons (.var 1) .nil)) (.cons (.ret (.and (.op (.isinst .bool) (.cons (.var 0) .nil)) (.op .eq (.cons (.var 0) (.cons (.var 1) .nil))))) .nil) .nil) (.cons (.ite (.op (.isinst .int) (.cons (.var 1) .nil)) (.cons (.ret (.and (.op (.isinst .int) (.cons (.var 0) .nil)) (.and (.not (.op (.isinst .bool) (.cons (.var 0) .nil))) (.op .eq (.cons (.var 0) (.cons (.var 1) .nil)))))) .nil) .nil) (.cons (.ret (.and (.op (.isinst .str) (.cons (.var 0) .nil)) (.op .eq (.cons (.var 0) (.cons (.var 1) .nil))))) .nil))))))
def d10 : PFd := ⟨"_law_same", defArgs st10, defBody st10, defScope st10, N10, ["_law_a", "_law_b"], mu10, ⟨4, 2, .pure, b10⟩⟩
def b11 : CSs := (.cons (.ret (.meth .str .join (.con (.str [32])) (.cons (.comp false (.name 1) (.seq (.var 0)) .nil (.op .str (.cons (.var 1) .nil)) [1]) .nil))) .nil)
def d11 : PFd := ⟨"_law_line", defArgs st11, defBody st11, defScope st11, N11, ["_law_deed"], mu11, ⟨2, 1, .pure, b11⟩⟩
def b12 : CSs := (.cons (.asg (.name 3) (.call 6 (.cons (.var 0) (.cons (.con (.int 4)) .nil)))) (.cons (.ite (.op .eq (.cons (.var 3) (.cons (.con (.int 0)) .nil))) (.cons (.ret (.tup (.cons (.con (.str [101, 100, 105, 116])) (.cons (.call 7 (.cons (.var 0) (.cons (.var 1) .nil))) (.cons (.call 6 (.cons (.var 0) (.cons (.var 2) .nil))) .nil))))) .nil) .nil) (.cons (.ite (.op .eq (.cons (.var 3) (.cons (.con (.int 1)) .nil))) (.cons (.ret (.tup (.cons (.con (.str [102, 105, 114, 101])) (.cons (.call 7 (.cons (.var 0) (.cons (.var 1) .nil))) .nil)))) .nil) .nil) (.cons (.ite (.op .eq (.cons (.var 3) (.cons (.con (.int 2)) .nil))) (.cons (.ret (.tup (.cons (.con (.str [115, 101, 116])) (.cons (.call 7 (.cons (.var 0) (.cons (.var 1) .nil))) (.cons (.call 7 (.cons (.var 0) (.cons (.var 1) .nil))) .nil))))) .nil) .nil) (.cons (.ret (.tup (.cons (.con (.str [114, 101, 108, 111, 97, 100])) .nil))) .nil)))))
def d12 : PFd := ⟨"_law_any_deed", defArgs st12, defBody st12, defScope st12, N12, ["_law_pool_here", "_law_names_here", "_law_most"], mu12, ⟨4, 3, .keep, b12⟩⟩
def b13 : CSs := (.cons (.asg (.name 2) (.call 11 (.cons (.var 1) .nil))) (.cons (.asg (.name 3) (.call 6 (.cons (.var 0) (.cons (.con (.int 4)) .nil)))) (.cons (.ite (.op .eq (.cons (.var 3) (.cons (.con (.int 0)) .nil))) (.cons (.asg (.name 4) (.call 7 (.cons (.var 0) (.cons (.lst false (.cons (.con (.int 0)) (.cons (.op .len (.cons (.var 2) .nil)) (.cons (.op (.add false) (.cons (.meth .str .find (.var 2) (.cons (.con (.str [32])) .nil)) (.cons (.con (.int 1)) .nil))) .nil)))) .nil)))) (.cons (.ret (.op (.add false) (.cons (.op (.add false) (.cons (.slice false (.var 2) (.con .non) (.var 4)) (.cons (.con (.str [32])) .nil))) (.cons (.slice false (.var 2) (.var 4) (.con .non)) .nil)))) .nil)) .nil) (.cons (.ite (.op .eq (.cons (.var 3) (.cons (.con (.int 1)) .nil))) (.cons (.ret (.op (.add false) (.cons (.op (.add false) (.cons (.var 2) (.cons (.con (.str [32])) .nil))) (.cons (.call 7 (.cons (.var 0) (.cons (.lst false (.cons (.con (.str [97])) (.cons (.con (.str [48])) (.cons (.con (.str [81])) (.cons (.con (.str [])) .nil))))) .nil))) .nil)))) .nil) .nil) (.cons (.ite (.op .eq (.cons (.var 3) (.cons (.con (.int 2)) .nil))) (.cons (.ret (.op (.add false) (.cons (.meth .str .upper (.slice false (.var 2) (.con .non) (.con (.int 1))) .nil) (.cons (.slice false (.var 2) (.con (.int 1)) (.con .non)) .nil)))) .nil) .nil) (.cons (.ret (.call 7 (.cons (.var 0) (.cons (.lst false (.cons (.con (.str [])) (.cons (.con (.str [101, 100, 105, 116, 32, 97])) (.cons (.con (.str [101, 100, 105, 116, 32, 97, 32, 49, 48])) (.cons (.con (.str [101, 100, 105, 116, 32, 97, 32, 45, 49])) (.cons (.con (.str [101, 100, 105, 116, 32, 97, 32, 98])) (.cons (.con (.str [101, 100, 105, 116, 32, 65, 32, 48])) (.cons (.con (.str [102, 105, 114, 101])) (.cons (.con (.str [102, 105, 114, 101, 32, 97, 49])) (.cons (.con (.str [102, 105, 114, 101, 32, 97, 98, 99, 100, 101, 102, 103, 104, 105])) (.cons (.con (.str [115, 101, 116, 32, 97])) (.cons (.con (.str [115, 101, 116, 32, 97, 32, 66])) (.cons (.con (.str [115, 101, 116, 32, 97, 32, 48])) (.cons (.con (.str [117, 110, 100, 111])) (.cons (.con (.str [115, 116, 97, 116, 101])) (.cons (.con (.str [114, 101, 108, 111, 97, 100, 32, 114, 101, 108, 111, 97, 100])) (.cons (.con (.str [102, 105, 114, 101, 32, 97, 32, 98])) (.cons (.con (.str [101, 100, 105, 116, 32, 32, 48])) (.cons (.con (.str [101, 100, 105, 116, 32, 97, 32, 48, 48])) .nil))))))))))))))))))) .nil)))) .nil))))))
def d13 : PFd := ⟨"_law_wrong_line", defArgs st13, defBody st13, defScope st13, N13, ["_law_pool_here", "_law_deed"], mu13, ⟨5, 2, .keep, b13⟩⟩
def b14 : CSs := (.cons (.tryS (.cons (.asg (.name 1) (.call 4 (.cons (.var 0) .nil))) .nil) (.cons [0] (some 2) (.cons (.ret (.tup (.cons (.con (.str [108, 105, 110, 101])) (.cons (.exf "line") .nil)))) .nil) .nil)) (.cons (.ret (.tup (.cons (.con (.str [100, 101, 101, 100, 115])) (.cons (.var 1) .nil)))) .nil))
def d14 : PFd := ⟨"_law_read", defArgs st14, defBody st14, defScope st14, N14, ["_law_text"], mu14, ⟨3, 1, .pure, b14⟩⟩
def b15 : CSs := (.cons (.asg (.name 1) (.call 5 (.cons (.var 0) .nil))) (.cons (.asg (.name 2) (.op .eq (.cons (.call 6 (.cons (.var 1) (.cons (.con (.int 2)) .nil))) (.cons (.con (.int 0)) .nil)))) (.cons (.asg (.name 3) (.op .eq (.cons (.call 6 (.cons (.var 1) (.cons (.con (.int 2)) .nil))) (.cons (.con (.int 0)) .nil)))) (.cons (.asg (.name 4) (.call 9 (.cons (.var 1) (.cons (.op (.add false) (.cons (.con (.int 1)) (.cons (.call 6 (.cons (.var 1) (.cons (.con (.int 6)) .nil))) .nil))) .nil)))) (.cons (.asg (.name 5) (.comp false (.name 12) (.range1 (.call 6 (.cons (.var 1) (.cons (.con (.int 21)) .nil)))) .nil (.call 12 (.cons (.var 1) (.cons (.var 4) (.cons (.con (.int 10)) .nil)))) [12])) (.cons (.asg (.name 6) (.comp false (.name 12) (.range1 (.call 6 (.cons (.var 1) (.cons (.con (.int 21)) .nil)))) .nil (.call 12 (.cons (.var 1) (.cons (.var 4) (.cons (.con (.int 3)) .nil)))) [12])) (.cons (.asg (.name 7) (.op .tuple (.cons (.var 6) .nil))) (.cons (.ite (.var 3) (.cons (.asg (.name 7) (.op (.list false) (.cons (.var 6) .nil))) .nil) .nil) (.cons (.asg (.name 8) (.meth .str .join (.con (.str [10])) (.cons (.comp false (.name 13) (.seq (.var 6)) .nil (.call 11 (.cons (.var 13) .nil)) [13]) .nil))) (.cons (.ite (.or (.not (.call 10 (.cons (.call 2 (.cons (.var 7) .nil)) (.cons (.var 8) .nil)))) (.op .ne (.cons (.op (.list false) (.cons (.var 7) .nil)) (.cons (.var 6) .nil)))) (.cons (.ret (.con (.bl false))) .nil) .nil) (.cons (.ite (.not (.call 10 (.cons (.call 14 (.cons (.var 8) .nil)) (.cons (.tup (.cons (.con (.str [100, 101, 101, 100, 115])) (.cons (.op .tuple (.cons (.var 6) .nil)) .nil))) .nil)))) (.cons (.ret (.con (.bl false))) .nil) .nil) (.cons (.asg (.name 9) (.comp false (.name 13) (.seq (.var 5)) .nil (.call 11 (.cons (.var 13) .nil)) [13])) (.cons (.ite (.not (.call 10 (.cons (.call 14 (.cons (.meth .str .join (.con (.str [10])) (.cons (.var 9) .nil)) .nil)) (.cons (.tup (.cons (.con (.str [100, 101, 101, 100, 115])) (.cons (.op .tuple (.cons (.var 5) .nil)) .nil))) .nil)))) (.cons (.ret (.con (.bl false))) .nil) .nil) (.cons (.ite (.and (.var 2) (.op .gt (.cons (.op .len (.cons (.var 9) .nil)) (.cons (.con (.int 0)) .nil)))) (.cons (.asg (.name 10) (.call 6 (.cons (.var 1) (.cons (.op .len (.cons (.var 9) .nil)) .nil)))) (.cons (.asg (.name 11) (.call 13 (.cons (.var 1) (.cons (.op .idx (.cons (.var 5) (.cons (.var 10) .nil))) .nil)))) (.cons (.ite (.and (.op .eq (.cons (.var 11) (.cons (.con (.str [])) .nil))) (.op .eq (.cons (.op .len (.cons (.var 9) .nil)) (.cons (.con (.int 1)) .nil)))) (.cons (.ret (.call 10 (.cons (.call 14 (.cons (.con (.str [10])) .nil)) (.cons (.tup (.cons (.con (.str [108, 105, 110, 101])) (.cons (.con (.int 1)) .nil))) .nil)))) .nil) .nil) (.cons (.ite (.op .eq (.cons (.call 6 (.cons (.var 1) (.cons (.con (.int 2)) .nil))) (.cons (.con (.int 0)) .nil))) (.cons (.asg (.name 9) (.op (.add true) (.cons (.op (.add false) (.cons (.slice false (.var 9) (.con .non) (.var 10)) (.cons (.lst false (.cons (.var 11) .nil)) .nil))) (.cons (.slice false (.var 9) (.op (.add false) (.cons (.var 10) (.cons (.con (.int 1)) .nil))) (.con .non)) .nil)))) .nil) (.cons (.asg (.name 9) (.op (.add true) (.cons (.op (.add false) (.cons (.slice false (.var 9) (.con .non) (.var 10)) (.cons (.lst false (.cons (.var 11) .nil)) .nil))) (.cons (.slice false (.var 9) (.var 10) (.con .non)) .nil)))) .nil)) (.cons (.ite (.op .eq (.cons (.call 6 (.cons (.var 1) (.cons (.con (.int 3)) .nil))) (.cons (.con (.int 0)) .nil))) (.cons (.ex (.meth .list .append (.var 9) (.cons (.con (.str [81])) .nil))) .nil) .nil) (.cons (.ret (.call 10 (.cons (.call 14 (.cons (.meth .str .join (.con (.str [10])) (.cons (.var 9) .nil)) .nil)) (.cons (.tup (.cons (.con (.str [108, 105, 110, 101])) (.cons (.op (.add false) (.cons (.var 10) (.cons (.con (.int 1)) .nil))) .nil))) .nil)))) .nil)))))) .nil) (.cons (.ret (.call 10 (.cons (.call 14 (.cons (.op (.add false) (.cons (.var 8) (.cons (.con (.str [10])) .nil))) .nil)) (.cons (.ite (.op .gt (.cons (.op .len (.cons (.var 6) .nil)) (.cons (.con (.int 0)) .nil))) (.tup (.cons (.con (.str [108, 105, 110, 101])) (.cons (.op .max2 (.cons (.con (.int 1)) (.cons (.op (.add false) (.cons (.op .len (.cons (.var 6) .nil)) (.cons (.con (.int 1)) .nil))) .nil))) .nil))) (.tup (.cons (.con (.str [108, 105, 110, 101])) (.cons (.con (.int 1)) .nil)))) .nil)))) .nil)))))))))))))))
def d15 : PFd := ⟨"law", defArgs st15, defBody st15, defScope st15, N15, ["_law_script"], mu15, ⟨14, 1, .keep, b15⟩⟩
def defsL : List PFd := [d0, d1, d2, d3, d4, d5, d6, d7, d8, d9, d10, d11, d12, d13, d14, d15]
def glF : Nat → D
  | 0 => (.str [97, 98, 99, 100, 101, 102, 103, 104, 105, 106, 107, 108, 109, 110, 111, 112, 113, 114, 115, 116, 117, 118, 119, 120, 121, 122])
  | _ => .non
def xfF : Nat → List Str
  | 0 => ["line"]
  | _ => []
def pr : Prog1 := ⟨fun i => (defsL[i]?).map PFd.fd, glF, xfF, fun _ _ => true, 1, 4000⟩
theorem ok0 : d0.Ok tab := ⟨C8.fnScope_by (by decide +kernel), by kernel_rfl, by kernel_rfl, by kernel_rfl, by intro h; cases h⟩
theorem ok1 : d1.Ok tab := ⟨C8.fnScope_by (by decide +kernel), by kernel_rfl, by kernel_rfl, by kernel_rfl, by intro h; cases h⟩
theorem ok2 : d2.Ok tab := ⟨C8.fnScope_by (by decide +kernel), by kernel_rfl, by kernel_rfl, by kernel_rfl, by intro h; cases h⟩
theorem ok3 : d3.Ok tab := ⟨C8.fnScope_by (by decide +kernel), by kernel_rfl, by kernel_rfl, by kernel_rfl, by intro h; cases h⟩
theorem ok4 : d4.Ok tab := ⟨C8.fnScope_by (by decide +kernel), by kernel_rfl, by kernel_rfl, by kernel_rfl, by intro h; cases h⟩
theorem ok5 : d5.Ok tab := ⟨C8.fnScope_by (by decide +kernel), by kernel_rfl, by kernel_rfl, by kernel_rfl, by intro h; cases h⟩
theorem ok6 : d6.Ok tab := ⟨C8.fnScope_by (by decide +kernel), by kernel_rfl, by kernel_rfl, by kernel_rfl, by intro h; cases h⟩
theorem ok7 : d7.Ok tab := ⟨C8.fnScope_by (by decide +kernel), by kernel_rfl, by kernel_rfl, by kernel_rfl, by intro h; cases h⟩
theorem ok8 : d8.Ok tab := ⟨C8.fnScope_by (by decide +kernel), by kernel_rfl, by kernel_rfl, by kernel_rfl, by intro h; cases h⟩
theorem ok9 : d9.Ok tab := ⟨C8.fnScope_by (by decide +kernel), by kernel_rfl, by kernel_rfl, by kernel_rfl, by intro h; cases h⟩
theorem ok10 : d10.Ok tab := ⟨C8.fnScope_by (by decide +kernel), by kernel_rfl, by kernel_rfl, by kernel_rfl, by intro h; cases h⟩
theorem ok11 : d11.Ok tab := ⟨C8.fnScope_by (by decide +kernel), by kernel_rfl, by kernel_rfl, by kernel_rfl, by intro h; cases h⟩
theorem ok12 : d12.Ok tab := ⟨C8.fnScope_by (by decide +kernel), by kernel_rfl, by kernel_rfl, by kernel_rfl, by intro h; cases h⟩
theorem ok13 : d13.Ok tab := ⟨C8.fnScope_by (by decide +kernel), by kernel_rfl, by kernel_rfl, by kernel_rfl, by intro h; cases h⟩
theorem ok14 : d14.Ok tab := ⟨C8.fnScope_by (by decide +kernel), by kernel_rfl, by kernel_rfl, by kernel_rfl, by intro h; cases h⟩
theorem ok15 : d15.Ok tab := ⟨C8.fnScope_by (by decide +kernel), by kernel_rfl, by kernel_rfl, by kernel_rfl, by intro h; cases h⟩
def ini0 : Stmt := (C8.clsBody (top 2)).getD 0 (.Pass ⟨0, 0, 0, 0⟩)
def ibody0 : List Stmt := [.Expr (supCall ⟨7, 8, 7, 13⟩ ⟨7, 8, 7, 15⟩ ⟨7, 8, 7, 24⟩ ⟨7, 8, 7, 55⟩ (.Constant (.str "a line of the text is wrong") 0 ⟨7, 25, 7, 54⟩)) ⟨7, 8, 7, 55⟩, .Assign [.Attribute (.Name "self" ⟨8, 8, 8, 12⟩) "line" ⟨8, 8, 8, 17⟩] (.Name "line" ⟨8, 20, 8, 24⟩) ⟨8, 8, 8, 24⟩]
theorem ib0 : defBody ini0 = ibody0 := by kernel_rfl
def ex0 : ExD := ⟨"InvalidText", "InvalidText.__init__", defArgs ini0, defBody ini0, defScope ini0, ["line"], prog.main.file⟩
def exL : List ExD := [ex0]
def fa : List He.Fa := [.glo "is_name", .glo "is_digit", .glo "write_deeds", .glo "read_deed", .glo "read_deeds", .glo "_law_pool", .glo "_law_draw", .glo "_law_pick", .glo "_law_name", .glo "_law_names", .glo "_law_same", .glo "_law_line", .glo "_law_any_deed", .glo "_law_wrong_line", .glo "_law_read", .glo "law", .free "len", .free "abs", .free "all", .free "max", .free "int", .free "str", .free "tuple", .free "list", .free "bool", .free "isinstance", .free "range", .free "enumerate", .free "zip", .free "super", .glo "InvalidText", .str "LETTERS" "abcdefghijklmnopqrstuvwxyz", .exm "InvalidText" "InvalidText" true]
def dfD (d : PFd) : He.DefD := ⟨(d.x, none), d.x, d.x, d.params, d.body, d.scope, [], []⟩
def fn : List He.DefD := defsL.map dfD
abbrev Rr : PySem.W.OpenRow := PySem.W.OpenLaw.row PySem.Challenge.rw_swappedhot_k53_deeds_as_texts
def nm0 : List Str := ["SwapError", "InvalidText", "LETTERS", "is_name", "is_digit", "write_deeds", "read_deed", "read_deeds", "_law_pool", "_law_draw", "_law_pick", "_law_name", "_law_names", "_law_same", "_law_line", "_law_any_deed", "_law_wrong_line", "_law_read"]
def names : List Str := nm0
abbrev hk : PySem.W.Hook := hookX 6 fa fn exL
def ob (s : PySem.W.SharedT) : AlX := obsXG 6 fa fn exL (HandSHeadRun.getT s)
theorem ob_eq (s : PySem.W.SharedT) : ob s = hk.obs s.abs := obsXG_eq (HandSHeadRun.getT_eq s)
theorem run (w : World) : HandSHeadRun.RunEq Rr (PySem.W.view Rr.prog [22]) hk ob 3000 names w := by
  intro os
  kernel_rfl
def caF (K : PySem.W.Frag) : CA := ⟨fun c => match c with
  | 0 => He.ga K "InvalidText"
  | _ => 0, none⟩
section
variable {w : World} {K : PySem.W.Frag} {h base : Heap} {mg : Str → Option Value}
def DfOk (K : PySem.W.Frag) (mg : Str → Option Value) (d : PFd) : Prop := ∃ f fd, FunD K d.x d.x d.params d.body d.scope [] [] f fd ∧ mg d.x = some (.ref f) ∧ Binds K fd d.ps []
theorem df0 (X : K.In h) (G : h.Ns mainGlobals mg) (c : SaysX fa fn exL K) : DfOk K mg d0 := by
  obtain ⟨fd, F⟩ := c.d.def_ 0 (d := dfD d0) rfl
  exact ⟨_, fd, F, He.glo_ok X G (c.d.fact 0 (f := .glo "is_name") rfl), FunD.bindsN F fun _ _ _ _ _ _ us hl => match us, hl with | [_], _ => rfl⟩
theorem df1 (X : K.In h) (G : h.Ns mainGlobals mg) (c : SaysX fa fn exL K) : DfOk K mg d1 := by
  obtain ⟨fd, F⟩ := c.d.def_ 1 (d := dfD d1) rfl
  exact ⟨_, fd, F, He.glo_ok X G (c.d.fact 1 (f := .glo "is_digit") rfl), FunD.bindsN F fun _ _ _ _ _ _ us hl => match us, hl with | [_], _ => rfl⟩
theorem df2 (X : K.In h) (G : h.Ns mainGlobals mg) (c : SaysX fa fn exL K) : DfOk K mg d2 := by
  obtain ⟨fd, F⟩ := c.d.def_ 2 (d := dfD d2) rfl
  exact ⟨_, fd, F, He.glo_ok X G (c.d.fact 2 (f := .glo "write_deeds") rfl), FunD.bindsN F fun _ _ _ _ _ _ us hl => match us, hl with | [_], _ => rfl⟩
theorem df3 (X : K.In h) (G : h.Ns mainGlobals mg) (c : SaysX fa fn exL K) : DfOk K mg d3 := by
  obtain ⟨fd, F⟩ := c.d.def_ 3 (d := dfD d3) rfl
  exact ⟨_, fd, F, He.glo_ok X G (c.d.fact 3 (f := .glo "read_deed") rfl), FunD.bindsN F fun _ _ _ _ _ _ us hl => match us, hl with | [_], _ => rfl⟩
theorem df4 (X : K.In h) (G : h.Ns mainGlobals mg) (c : SaysX fa fn exL K) : DfOk K mg d4 := by
  obtain ⟨fd, F⟩ := c.d.def_ 4 (d := dfD d4) rfl
  exact ⟨_, fd, F, He.glo_ok X G (c.d.fact 4 (f := .glo "read_deeds") rfl), FunD.bindsN F fun _ _ _ _ _ _ us hl => match us, hl with | [_], _ => rfl⟩
theorem df5 (X : K.In h) (G : h.Ns mainGlobals mg) (c : SaysX fa fn exL K) : DfOk K mg d5 := by
  obtain ⟨fd, F⟩ := c.d.def_ 5 (d := dfD d5) rfl
  exact ⟨_, fd, F, He.glo_ok X G (c.d.fact 5 (f := .glo "_law_pool") rfl), FunD.bindsN F fun _ _ _ _ _ _ us hl => match us, hl with | [_], _ => rfl⟩
theorem df6 (X : K.In h) (G : h.Ns mainGlobals mg) (c : SaysX fa fn exL K) : DfOk K mg d6 := by
  obtain ⟨fd, F⟩ := c.d.def_ 6 (d := dfD d6) rfl
  exact ⟨_, fd, F, He.glo_ok X G (c.d.fact 6 (f := .glo "_law_draw") rfl), FunD.bindsN F fun _ _ _ _ _ _ us hl => match us, hl with | [_, _], _ => rfl⟩
theorem df7 (X : K.In h) (G : h.Ns mainGlobals mg) (c : SaysX fa fn exL K) : DfOk K mg d7 := by
  obtain ⟨fd, F⟩ := c.d.def_ 7 (d := dfD d7) rfl
  exact ⟨_, fd, F, He.glo_ok X G (c.d.fact 7 (f := .glo "_law_pick") rfl), FunD.bindsN F fun _ _ _ _ _ _ us hl => match us, hl with | [_, _], _ => rfl⟩
theorem df8 (X : K.In h) (G : h.Ns mainGlobals mg) (c : SaysX fa fn exL K) : DfOk K mg d8 := by
  obtain ⟨fd, F⟩ := c.d.def_ 8 (d := dfD d8) rfl
  exact ⟨_, fd, F, He.glo_ok X G (c.d.fact 8 (f := .glo "_law_name") rfl), FunD.bindsN F fun _ _ _ _ _ _ us hl => match us, hl with | [_, _], _ => rfl⟩
theorem df9 (X : K.In h) (G : h.Ns mainGlobals mg) (c : SaysX fa fn exL K) : DfOk K mg d9 := by
  obtain ⟨fd, F⟩ := c.d.def_ 9 (d := dfD d9) rfl
  exact ⟨_, fd, F, He.glo_ok X G (c.d.fact 9 (f := .glo "_law_names") rfl), FunD.bindsN F fun _ _ _ _ _ _ us hl => match us, hl with | [_, _], _ => rfl⟩
theorem df10 (X : K.In h) (G : h.Ns mainGlobals mg) (c : SaysX fa fn exL K) : DfOk K mg d10 := by
  obtain ⟨fd, F⟩ := c.d.def_ 10 (d := dfD d10) rfl
  exact ⟨_, fd, F, He.glo_ok X G (c.d.fact 10 (f := .glo "_law_same") rfl), FunD.bindsN F fun _ _ _ _ _ _ us hl => match us, hl with | [_, _], _ => rfl⟩
theorem df11 (X : K.In h) (G : h.Ns mainGlobals mg) (c : SaysX fa fn exL K) : DfOk K mg d11 := by
  obtain ⟨fd, F⟩ := c.d.def_ 11 (d := dfD d11) rfl
  exact ⟨_, fd, F, He.glo_ok X G (c.d.fact 11 (f := .glo "_law_line") rfl), FunD.bindsN F fun _ _ _ _ _ _ us hl => match us, hl with | [_], _ => rfl⟩
theorem df12 (X : K.In h) (G : h.Ns mainGlobals mg) (c : SaysX fa fn exL K) : DfOk K mg d12 := by
  obtain ⟨fd, F⟩ := c.d.def_ 12 (d := dfD d12) rfl
  exact ⟨_, fd, F, He.glo_ok X G (c.d.fact 12 (f := .glo "_law_any_deed") rfl), FunD.bindsN F fun _ _ _ _ _ _ us hl => match us, hl with | [_, _, _], _ => rfl⟩
theorem df13 (X : K.In h) (G : h.Ns mainGlobals mg) (c : SaysX fa fn exL K) : DfOk K mg d13 := by
  obtain ⟨fd, F⟩ := c.d.def_ 13 (d := dfD d13) rfl
  exact ⟨_, fd, F, He.glo_ok X G (c.d.fact 13 (f := .glo "_law_wrong_line") rfl), FunD.bindsN F fun _ _ _ _ _ _ us hl => match us, hl with | [_, _], _ => rfl⟩
theorem df14 (X : K.In h) (G : h.Ns mainGlobals mg) (c : SaysX fa fn exL K) : DfOk K mg d14 := by
  obtain ⟨fd, F⟩ := c.d.def_ 14 (d := dfD d14) rfl
  exact ⟨_, fd, F, He.glo_ok X G (c.d.fact 14 (f := .glo "_law_read") rfl), FunD.bindsN F fun _ _ _ _ _ _ us hl => match us, hl with | [_], _ => rfl⟩
theorem df15 (X : K.In h) (G : h.Ns mainGlobals mg) (c : SaysX fa fn exL K) : DfOk K mg d15 := by
  obtain ⟨fd, F⟩ := c.d.def_ 15 (d := dfD d15) rfl
  exact ⟨_, fd, F, He.glo_ok X G (c.d.fact 15 (f := .glo "law") rfl), FunD.bindsN F fun _ _ _ _ _ _ us hl => match us, hl with | [_], _ => rfl⟩
theorem oks : ∀ d ∈ defsL, d.Ok tab := (List.forall_mem_cons.mpr ⟨ok0, (List.forall_mem_cons.mpr ⟨ok1, (List.forall_mem_cons.mpr ⟨ok2, (List.forall_mem_cons.mpr ⟨ok3, (List.forall_mem_cons.mpr ⟨ok4, (List.forall_mem_cons.mpr ⟨ok5, (List.forall_mem_cons.mpr ⟨ok6, (List.forall_mem_cons.mpr ⟨ok7, (List.forall_mem_cons.mpr ⟨ok8, (List.forall_mem_cons.mpr ⟨ok9, (List.forall_mem_cons.mpr ⟨ok10, (List.forall_mem_cons.mpr ⟨ok11, (List.forall_mem_cons.mpr ⟨ok12, (List.forall_mem_cons.mpr ⟨ok13, (List.forall_mem_cons.mpr ⟨ok14, (List.forall_mem_cons.mpr ⟨ok15, (fun _ h => nomatch h)⟩)⟩)⟩)⟩)⟩)⟩)⟩)⟩)⟩)⟩)⟩)⟩)⟩)⟩)⟩)⟩)
theorem dfs (X : K.In h) (G : h.Ns mainGlobals mg) (c : SaysX fa fn exL K) : ∀ d ∈ defsL, DfOk K mg d := (List.forall_mem_cons.mpr ⟨df0 X G c, (List.forall_mem_cons.mpr ⟨df1 X G c, (List.forall_mem_cons.mpr ⟨df2 X G c, (List.forall_mem_cons.mpr ⟨df3 X G c, (List.forall_mem_cons.mpr ⟨df4 X G c, (List.forall_mem_cons.mpr ⟨df5 X G c, (List.forall_mem_cons.mpr ⟨df6 X G c, (List.forall_mem_cons.mpr ⟨df7 X G c, (List.forall_mem_cons.mpr ⟨df8 X G c, (List.forall_mem_cons.mpr ⟨df9 X G c, (List.forall_mem_cons.mpr ⟨df10 X G c, (List.forall_mem_cons.mpr ⟨df11 X G c, (List.forall_mem_cons.mpr ⟨df12 X G c, (List.forall_mem_cons.mpr ⟨df13 X G c, (List.forall_mem_cons.mpr ⟨df14 X G c, (List.forall_mem_cons.mpr ⟨df15 X G c, (fun _ h => nomatch h)⟩)⟩)⟩)⟩)⟩)⟩)⟩)⟩)⟩)⟩)⟩)⟩)⟩)⟩)⟩)⟩)
theorem nams : ∀ p ∈ tab.fns, ∃ d, defsL[p.2]? = some d ∧ d.x = p.1 := (List.forall_mem_cons.mpr ⟨⟨d0, rfl, rfl⟩, (List.forall_mem_cons.mpr ⟨⟨d1, rfl, rfl⟩, (List.forall_mem_cons.mpr ⟨⟨d2, rfl, rfl⟩, (List.forall_mem_cons.mpr ⟨⟨d3, rfl, rfl⟩, (List.forall_mem_cons.mpr ⟨⟨d4, rfl, rfl⟩, (List.forall_mem_cons.mpr ⟨⟨d5, rfl, rfl⟩, (List.forall_mem_cons.mpr ⟨⟨d6, rfl, rfl⟩, (List.forall_mem_cons.mpr ⟨⟨d7, rfl, rfl⟩, (List.forall_mem_cons.mpr ⟨⟨d8, rfl, rfl⟩, (List.forall_mem_cons.mpr ⟨⟨d9, rfl, rfl⟩, (List.forall_mem_cons.mpr ⟨⟨d10, rfl, rfl⟩, (List.forall_mem_cons.mpr ⟨⟨d11, rfl, rfl⟩, (List.forall_mem_cons.mpr ⟨⟨d12, rfl, rfl⟩, (List.forall_mem_cons.mpr ⟨⟨d13, rfl, rfl⟩, (List.forall_mem_cons.mpr ⟨⟨d14, rfl, rfl⟩, (List.forall_mem_cons.mpr ⟨⟨d15, rfl, rfl⟩, (fun _ h => nomatch h)⟩)⟩)⟩)⟩)⟩)⟩)⟩)⟩)⟩)⟩)⟩)⟩)⟩)⟩)⟩)⟩)
theorem blts (X : K.In h) (G : h.Ns mainGlobals mg) (c : SaysX fa fn exL K) : ∀ x ∈ tab.blt, mg x = none := (List.forall_mem_cons.mpr ⟨He.free_ok X G (c.d.fact 16 (f := .free "len") rfl), (List.forall_mem_cons.mpr ⟨He.free_ok X G (c.d.fact 17 (f := .free "abs") rfl), (List.forall_mem_cons.mpr ⟨He.free_ok X G (c.d.fact 18 (f := .free "all") rfl), (List.forall_mem_cons.mpr ⟨He.free_ok X G (c.d.fact 19 (f := .free "max") rfl), (List.forall_mem_cons.mpr ⟨He.free_ok X G (c.d.fact 20 (f := .free "int") rfl), (List.forall_mem_cons.mpr ⟨He.free_ok X G (c.d.fact 21 (f := .free "str") rfl), (List.forall_mem_cons.mpr ⟨He.free_ok X G (c.d.fact 22 (f := .free "tuple") rfl), (List.forall_mem_cons.mpr ⟨He.free_ok X G (c.d.fact 23 (f := .free "list") rfl), (List.forall_mem_cons.mpr ⟨He.free_ok X G (c.d.fact 24 (f := .free "bool") rfl), (List.forall_mem_cons.mpr ⟨He.free_ok X G (c.d.fact 25 (f := .free "isinstance") rfl), (List.forall_mem_cons.mpr ⟨He.free_ok X G (c.d.fact 26 (f := .free "range") rfl), (List.forall_mem_cons.mpr ⟨He.free_ok X G (c.d.fact 27 (f := .free "enumerate") rfl), (List.forall_mem_cons.mpr ⟨He.free_ok X G (c.d.fact 28 (f := .free "zip") rfl), (fun _ h => nomatch h)⟩)⟩)⟩)⟩)⟩)⟩)⟩)⟩)⟩)⟩)⟩)⟩)⟩)
theorem glbs (X : K.In h) (G : h.Ns mainGlobals mg) (c : SaysX fa fn exL K) : ∀ p ∈ tab.glb, ∃ v u, mg p.1 = some u ∧ RelV v u ∧ ∀ F rho H, RelD K (caF K) F rho H (pr.gl p.2) v := (List.forall_mem_cons.mpr ⟨(let ⟨t, e⟩ := He.str_ok X G (c.d.fact 31 (f := .str "LETTERS" "abcdefghijklmnopqrstuvwxyz") rfl); ⟨.str "abcdefghijklmnopqrstuvwxyz", _, e, ⟨t, rfl⟩, fun F rho H => rel_strC (by decide +kernel) (by kernel_rfl)⟩), (fun _ h => nomatch h)⟩)
theorem sup0 (c : SaysX fa fn exL K) : SupD prog K ((caF K).f (0 % 1000)) (ex0.f K) ex0.qual ex0.params ibody0 ex0.scope ∧ XfC K ((caF K).f (0 % 1000)) ∧ ∀ n ∈ ex0.flds, PySem.W.findIn K (.ref ((caF K).f (0 % 1000))) n = some none := by
  have q := c.sup 0 (e := ex0) rfl (P := prog) rfl
  have e : ex0.body = ibody0 := ib0
  rw [e] at q
  exact q
theorem ss0 : SScope ["self", "line"] ["self", "line"] ex0.scope := ⟨by kernel_rfl, by kernel_rfl, by kernel_rfl, by decide +kernel, rfl, by decide +kernel, by decide +kernel, by decide +kernel, by kernel_rfl, by kernel_rfl⟩
theorem xat0 (X : K.In h) (G : h.Ns mainGlobals mg) (c : SaysX fa fn exL K) : ExAt prog w K mg base (caF K) 1 0 (pr.xf 0) (pr.xo 0) "InvalidText" ∧ (pr.xf 0).length ≤ 1000 := by
  obtain ⟨s1, s2, s3⟩ := sup0 (K := K) c
  exact ⟨exAt1 (He.glo_ok X G (c.d.fact 30 (f := .glo "InvalidText") rfl)) s1 ss0 (by kernel_rfl) (He.free_ok X G (c.d.fact 29 (f := .free "super") rfl)) (by kernel_rfl) (fun env => rfl) (s3 _ (by decide +kernel)) (by decide +kernel) (by decide +kernel) (fun _ _ _ _ _ _ _ _ _ us hl => match us, hl with | [_, _], _ => rfl), by decide⟩
theorem exss (X : K.In h) (G : h.Ns mainGlobals mg) (c : SaysX fa fn exL K) : ∀ p ∈ tab.exs, ExAt prog w K mg base (caF K) 1 p.2 (pr.xf p.2) (pr.xo p.2) p.1 ∧ (pr.xf p.2).length ≤ 1000 := (List.forall_mem_cons.mpr ⟨xat0 X G c, (fun _ h => nomatch h)⟩)
theorem ctcs (X : K.In h) (G : h.Ns mainGlobals mg) (c : SaysX fa fn exL K) : ∀ p ∈ tab.ctc, ∃ v, (p.1 == ("__debug__" : Str)) = false ∧ mg p.1 = some v ∧ ∀ j, j < pr.nx → PySem.W.exmOne K (.ref ((caF K).f (j % 1000))) v = some (decide (j ∈ p.2)) := (List.forall_mem_cons.mpr ⟨⟨_, by decide +kernel, He.glo_ok X G (c.d.fact 30 (f := .glo "InvalidText") rfl), fun j hj => match j, hj with | 0, _ => He.exm_ok (c.d.fact 32 (f := .exm "InvalidText" "InvalidText" true) rfl) | (n + 1), hj => absurd hj (by show ¬ (n + 1 < 1); omega)⟩, (fun _ h => nomatch h)⟩)
theorem xfcs (c : SaysX fa fn exL K) : ∀ j, j < pr.nx → XfC K ((caF K).f (j % 1000)) ∧ ∀ f ∈ pr.xf j, PySem.W.findIn K (.ref ((caF K).f (j % 1000))) f = some none := fun j hj => match j, hj with | 0, _ => ⟨(sup0 c).2.1, fun f hf => (sup0 c).2.2 f (by first | exact hf | simpa [ex0, pr, xfF] using hf)⟩ | (n + 1), hj => absurd hj (by show ¬ (n + 1 < 1); omega)
theorem top1 (X : K.In h) (G : h.Ns mainGlobals mg) (c : SaysX fa fn exL K) : Top1 prog w K mg base (caF K) pr tab (fun i => defsL[i]?) where
  ex0 := rfl
  fns := fun i fd h => by
    obtain ⟨d, h1, h2⟩ := Option.map_eq_some_iff.mp h
    exact ⟨d, h1, h2⟩
  ok := fun i d h => oks d (List.mem_of_getElem? h)
  dfs := fun i d h => dfs X G c d (List.mem_of_getElem? h)
  nam := fun x i h => nams (x, i) h
  blt := blts X G c
  glb := fun x g h => glbs X G c (x, g) h
  exs := fun x i h => exss X G c (x, i) h
  ctc := fun x cs h => ctcs X G c (x, cs) h
  xfc := xfcs c
end
end SW
end

section
set_option Elab.async false
set_option linter.all false
set_option maxRecDepth 100000
set_option maxHeartbeats 400000
/-! plain rules of the evaluator -/
namespace M
section
variable {ah : AH} {m b : Bool} {i j : Int} {x y : List Nat} {d e : D} {xs ys : List D} {n : Nat}
theorem pr_addI : prim (.add m) [.int i, .int j] ah = .ok (.int (i + j)) ah := rfl
theorem pr_addS (h : x.length + y.length ≤ SZ) : prim (.add m) [.str x, .str y] ah = .ok (.str (x ++ y)) ah := by
  show (if x.length + y.length ≤ SZ then _ else _) = _
  rw [if_pos h]
theorem pr_sub : prim .sub [.int i, .int j] ah = .ok (.int (i - j)) ah := rfl
theorem pr_mul (h : (-(2 ^ 64) < i ∧ i < 2 ^ 64) ∨ (-(2 ^ 64) < j ∧ j < 2 ^ 64)) : prim .mul [.int i, .int j] ah = .ok (.int (i * j)) ah := by
  show (if _ then _ else _) = _
  rw [if_pos h]
theorem pr_fdiv (h : 0 < j ∧ j < 1073741824) : prim .fdiv [.int i, .int j] ah = .ok (.int (i / j)) ah := by
  show (if _ then _ else _) = _
  rw [if_pos h]
theorem pr_mod (h : 0 < j) : prim .mod [.int i, .int j] ah = .ok (.int (i % j)) ah := by
  show (if _ then _ else _) = _
  rw [if_pos h]
theorem pr_eqI : prim .eq [.int i, .int j] ah = .ok (.bl (decide (i = j))) ah := by
  show onData (fun d e => .bl (D.eqv d e)) (.int i) (.int j) ah = _
  unfold onData rd
  simp [D.frz, D.isData, D.depth, D.eqv]
theorem pr_neI : prim .ne [.int i, .int j] ah = .ok (.bl (!decide (i = j))) ah := by
  show onData (fun d e => .bl (!D.eqv d e)) (.int i) (.int j) ah = _
  unfold onData rd
  simp [D.frz, D.isData, D.depth, D.eqv]
theorem pr_eqS : prim .eq [.str x, .str y] ah = .ok (.bl (decide (x = y))) ah := by
  show onData (fun d e => .bl (D.eqv d e)) (.str x) (.str y) ah = _
  unfold onData rd
  simp [D.frz, D.isData, D.depth, D.eqv]
theorem pr_lt : prim .lt [.int i, .int j] ah = .ok (.bl (decide (i < j))) ah := rfl
theorem pr_le : prim .le [.int i, .int j] ah = .ok (.bl (decide (i ≤ j))) ah := rfl
theorem pr_gt : prim .gt [.int i, .int j] ah = .ok (.bl (decide (j < i))) ah := rfl
theorem pr_ge : prim .ge [.int i, .int j] ah = .ok (.bl (decide (j ≤ i))) ah := rfl
theorem pr_lenS : prim .len [.str x] ah = .ok (.int x.length) ah := rfl
theorem pr_lenT : prim .len [.tup xs] ah = .ok (.int xs.length) ah := rfl
theorem pr_lenL : prim .len [.lst xs] ah = .ok (.int xs.length) ah := rfl
theorem pr_lenC (h : ah[n]? = some (.lst xs)) : prim .len [.loc n] ah = .ok (.int xs.length) ah := by
  show (match seqOf ah (.loc n) with
    | some xs => okI xs.length ah
    | none => .bad) = _
  simp only [seqOf, h]
theorem pr_abs : prim .abs [.int i] ah = .ok (.int (if i < 0 then -i else i)) ah := rfl
theorem pr_int : prim .int [.int i] ah = .ok (.int i) ah := rfl
theorem pr_intB : prim .int [.bl b] ah = .ok (.int (if b then 1 else 0)) ah := rfl
theorem pr_pow (h : 0 ≤ j ∧ j ≤ 1000000 ∧ i.natAbs < 2 ^ 64) : prim .pow [.int i, .int j] ah = .ok (.int (i ^ j.toNat)) ah := by
  show (if _ then _ else _) = _
  rw [if_pos h]
theorem at_nat {α : Type} {l : List α} {k : Nat} {a : α} (h : l[k]? = some a) : atL l (k : Int) = some a := by
  have hk := (List.getElem?_eq_some_iff.mp h).1
  unfold atL L2.ixN
  rw [if_pos (by omega), if_pos (by omega), Option.bind_some, Int.toNat_natCast, h]
theorem at_int {α : Type} {l : List α} {i : Int} (h : 0 ≤ i) (h2 : i < l.length) : ∃ a, atL l i = some a ∧ a ∈ l := by
  obtain ⟨k, rfl⟩ : ∃ k : Nat, i = k := ⟨i.toNat, by omega⟩
  have hk : k < l.length := by omega
  exact ⟨l[k], at_nat (List.getElem?_eq_getElem hk), List.getElem_mem hk⟩
theorem at0 {α : Type} {a : α} {l : List α} : atL (a :: l) 0 = some a := at_nat (k := 0) rfl
theorem at1 {α : Type} {a b : α} {l : List α} : atL (a :: b :: l) 1 = some b := at_nat (k := 1) rfl
theorem at2 {α : Type} {a b c : α} {l : List α} : atL (a :: b :: c :: l) 2 = some c := at_nat (k := 2) rfl
theorem at3 {α : Type} {a b c e : α} {l : List α} : atL (a :: b :: c :: e :: l) 3 = some e := at_nat (k := 3) rfl
theorem pr_idxT (h2 : atL xs i = some d) : prim .idx [.tup xs, .int i] ah = .ok d ah := by
  show pIdx (.tup xs) (.int i) ah = _
  simp only [pIdx, seqOf, h2]
theorem pr_idxL (h2 : atL xs i = some d) : prim .idx [.lst xs, .int i] ah = .ok d ah := by
  show pIdx (.lst xs) (.int i) ah = _
  simp only [pIdx, seqOf, h2]
theorem pr_idxS {c : Nat} (h2 : atL x i = some c) : prim .idx [.str x, .int i] ah = .ok (.str [c]) ah := by
  show pIdx (.str x) (.int i) ah = _
  simp only [pIdx, h2]
theorem pr_idxC (h : ah[n]? = some (.lst xs)) (h2 : atL xs i = some d) : prim .idx [.loc n, .int i] ah = .ok d ah := by
  show pIdx (.loc n) (.int i) ah = _
  simp only [pIdx, seqOf, h, h2]
end
section
variable {G : Cfg} {cx : Option Ex} {ah ah1 ah2 : AH} {env env1 : Env1} {e e1 e2 c o : CE} {d d1 d2 : D} {s : CS} {ss a b : CSs} {n i j : Nat} {k : Int} {xs : List D}
theorem x_var (h : env[i]? = some (some d)) : evE G cx (.var i) env ah = .ok d ah := by simp only [evE, h]
theorem x_con : evE G cx (.con d) env ah = .ok d ah := by simp only [evE]
theorem x_op1 {p : Prim} (h1 : evE G cx e env ah = .ok d ah1) (h : prim p [d] ah1 = .ok d2 ah2) : evE G cx (.op p (.cons e .nil)) env ah = .ok d2 ah2 := by
  rw [ev_op1, h1, R.bind_ok, h, R.nox_ok]
theorem x_op2 {p : Prim} {ah3 : AH} {d3 : D} (h1 : evE G cx e env ah = .ok d ah1) (h2 : evE G cx e1 env ah1 = .ok d1 ah2) (h : prim p [d, d1] ah2 = .ok d3 ah3) : evE G cx (.op p (.cons e (.cons e1 .nil))) env ah = .ok d3 ah3 := by
  rw [ev_op2, h1, R.bind_ok, h2, R.bind_ok, h, R.nox_ok]
theorem x_asg {i : Nat} (h : evE G cx e env ah = .ok d ah1) : evS G cx (.asg (.name i) e) env ah = .nx (env.set i (some d)) ah1 := by
  simp only [evS, h, R.rs_ok, assign]
theorem x_ret (h : evE G cx e env ah = .ok d ah1) : evS G cx (.ret e) env ah = .ret d ah1 := by simp only [evS, h, R.rs_ok]
theorem x_ex (h : evE G cx e env ah = .ok d ah1) : evS G cx (.ex e) env ah = .nx env ah1 := by simp only [evS, h, R.rs_ok]
theorem x_setI (he : evE G cx e env ah = .ok d ah1) (ho : env[i]? = some (some (.loc n))) (hc : ah1[n]? = some (.lst xs)) (hj : L2.ixN xs.length k = some j) :
    evS G cx (.setI (.var i) (.con (.int k)) e) env ah = .nx env (ah1.set n (.lst (xs.set j d))) := by
  simp only [evS, he, R.rs_ok, evE, ho, hc, hj]
theorem x_iteT (h : evE G cx c env ah = .ok (.bl true) ah1) : evS G cx (.ite c a b) env ah = evSs G cx a env ah1 := by
  simp only [evS, h, toB, R.bind_ok, truth, R.rs_ok, if_true]
theorem x_iteF (h : evE G cx c env ah = .ok (.bl false) ah1) : evS G cx (.ite c a b) env ah = evSs G cx b env ah1 := by
  simp only [evS, h, toB, R.bind_ok, truth, R.rs_ok, Bool.false_eq_true, if_false]
theorem x_nil : evSs G cx .nil env ah = .nx env ah := by simp only [evSs]
theorem x_nx (h : evS G cx s env ah = .nx env1 ah1) : evSs G cx (.cons s ss) env ah = evSs G cx ss env1 ah1 := by simp only [evSs, h, RS.then_nx]
theorem x_rt (h : evS G cx s env ah = .ret d ah1) : evSs G cx (.cons s ss) env ah = .ret d ah1 := by simp only [evSs, h, RS.then_ret]
theorem x_xc {x : Ex} (h : evS G cx s env ah = .exc x env1 ah1) : evSs G cx (.cons s ss) env ah = .exc x env1 ah1 := by simp only [evSs, h, RS.then_exc]
theorem x_andT (h : evE G cx e env ah = .ok (.bl true) ah1) : evE G cx (.and e e1) env ah = evE G cx e1 env ah1 := by simp only [evE, h, R.bind_ok, andK]
theorem x_andF (h : evE G cx e env ah = .ok (.bl false) ah1) : evE G cx (.and e e1) env ah = .ok (.bl false) ah1 := by simp only [evE, h, R.bind_ok, andK]
theorem x_orT (h : evE G cx e env ah = .ok (.bl true) ah1) : evE G cx (.or e e1) env ah = .ok (.bl true) ah1 := by simp only [evE, h, R.bind_ok, orK]
theorem x_orF (h : evE G cx e env ah = .ok (.bl false) ah1) : evE G cx (.or e e1) env ah = evE G cx e1 env ah1 := by simp only [evE, h, R.bind_ok, orK]
theorem x_not {b : Bool} (h : evE G cx e env ah = .ok (.bl b) ah1) : evE G cx (.not e) env ah = .ok (.bl (!b)) ah1 := by simp only [evE, h, R.bind_ok, notK, truth]
theorem x_slice {m : Bool} {lo hi : CE} {l h : Option Int} {dl dh : D} (h1 : evE G cx e env ah = .ok d ah) (h2 : evE G cx lo env ah = .ok dl ah) (h3 : evE G cx hi env ah = .ok dh ah) (p1 : partOf dl = some l) (p2 : partOf dh = some h) {r : D} (hs : pSlice m l h ah d = .ok r ah1) :
    evE G cx (.slice m e lo hi) env ah = .ok r ah1 := by
  simp only [evE, h1, h2, h3, R.bind_ok, partK, p1, p2, hs, R.nox_ok]
theorem x_call1 {f : Nat} {r : R D} (h1 : evE G cx e env ah = .ok d ah1) (h : G.cf f [d] ah1 = r) : evE G cx (.call f (.cons e .nil)) env ah = r := by
  simp only [evE, evEs, h1, R.bind_ok, h]
theorem x_call2 {f : Nat} {r : R D} (h1 : evE G cx e env ah = .ok d ah1) (h2 : evE G cx e1 env ah1 = .ok d1 ah2) (h : G.cf f [d, d1] ah2 = r) : evE G cx (.call f (.cons e (.cons e1 .nil))) env ah = r := by
  simp only [evE, evEs, h1, h2, R.bind_ok, h]
theorem x_meth1 {t : MT} {p : Prim} {ah3 : AH} {d3 : D} (h1 : evE G cx e env ah = .ok d ah1) (ht : isMT ah1 t d = true) (h2 : evE G cx e1 env ah1 = .ok d1 ah2) (h : prim p [d, d1] ah2 = .ok d3 ah3) : evE G cx (.meth t p e (.cons e1 .nil)) env ah = .ok d3 ah3 := by
  simp only [evE, evEs, h1, h2, R.bind_ok, h, R.nox_ok, if_pos ht]
theorem sl_tail {d : D} {g : List D} {m : Bool} : pSlice m (some 1) none ah (.lst (d :: g)) = mkL m g ah := by
  show mkL m (cutL (d :: g) (some 1) none) ah = _
  have : cutL (d :: g) (some 1) none = g := by
    unfold cutL
    have e1 : HT.sIx (d :: g).length 0 (some 1) = 1 := by
      unfold HT.sIx
      simp
    have e2 : HT.sIx (d :: g).length (d :: g).length none = g.length + 1 := by
      unfold HT.sIx
      simp
    rw [e1, e2]
    simp
  rw [this]
theorem x_test {b : Bool} (h : evE G cx c env ah = .ok (.bl b) ah1) : evC G cx (.cons c .nil) env ah = .ok b ah1 := by simp only [evC, toB, h, R.bind_ok, truth]
theorem x_lst {m : Bool} {es : CEs} {ds : List D} (h : evEs G cx es env ah = .ok ds ah1) (hz : ds.length ≤ SZ) : evE G cx (.lst m es) env ah = mkL m ds ah1 := by
  simp only [evE, h, R.bind_ok, if_pos hz]
theorem x_tup {es : CEs} {ds : List D} (h : evEs G cx es env ah = .ok ds ah1) (hz : ds.length ≤ SZ) : evE G cx (.tup es) env ah = .ok (.tup ds) ah1 := by
  simp only [evE, h, R.bind_ok, if_pos hz]
theorem x_es0 : evEs G cx .nil env ah = .ok [] ah := by simp only [evEs]
theorem x_es {es : CEs} {ds : List D} (h : evE G cx e env ah = .ok d ah1) (h2 : evEs G cx es env ah1 = .ok ds ah2) : evEs G cx (.cons e es) env ah = .ok (d :: ds) ah2 := by
  simp only [evEs, h, h2, R.bind_ok]
theorem x_chainT {p q : Prim} {x y z : D} {b : Bool} (h1 : evE G cx e env ah = .ok x ah) (h2 : evE G cx e1 env ah = .ok y ah) (hp : prim p [x, y] ah = .ok (.bl true) ah) (h3 : evE G cx e2 env ah = .ok z ah) (hq : prim q [y, z] ah = .ok (.bl b) ah) :
    evE G cx (.chain p q e e1 e2) env ah = .ok (.bl b) ah := by
  simp only [evE, h1, h2, hp, h3, hq, R.bind_ok, R.nox_ok, andK]
theorem x_chainF {p q : Prim} {x y : D} (h1 : evE G cx e env ah = .ok x ah) (h2 : evE G cx e1 env ah = .ok y ah) (hp : prim p [x, y] ah = .ok (.bl false) ah) :
    evE G cx (.chain p q e e1 e2) env ah = .ok (.bl false) ah := by
  simp only [evE, h1, h2, hp, R.bind_ok, R.nox_ok, andK]
theorem x_for {t : Tg} {ci : CI} {g : Gd} {ds : List D} (h : evI G cx ci env ah = .ok (ds, g) ah1) : evS G cx (.forS t ci a) env ah = forL g t (fun e h => evSs G cx a e h) ds env ah1 := by
  simp only [evS, h, R.rs_ok]
end
end M
end

section
set_option Elab.async false
set_option linter.all false
set_option maxRecDepth 100000
set_option maxHeartbeats 1000000
/-! plain: the pool and the drawing of numbers -/
namespace M
def drawB : CSs := (.cons (.ite (.and (.op .eq (.cons (.op .idx (.cons (.var 0) (.cons (.con (.int 2)) .nil))) (.cons (.con (.int 0)) .nil))) (.op .gt (.cons (.op .len (.cons (.op .idx (.cons (.var 0) (.cons (.con (.int 0)) .nil))) .nil)) (.cons (.con (.int 0)) .nil)))) (.cons (.asg (.name 2) (.op .idx (.cons (.var 0) (.cons (.con (.int 0)) .nil)))) (.cons (.setI (.var 0) (.con (.int 2)) (.op .idx (.cons (.var 2) (.cons (.con (.int 0)) .nil)))) (.cons (.setI (.var 0) (.con (.int 0)) (.slice false (.var 2) (.con (.int 1)) (.con .non))) .nil))) .nil) (.cons (.ite (.op .gt (.cons (.op .idx (.cons (.var 0) (.cons (.con (.int 2)) .nil))) (.cons (.con (.int 0)) .nil))) (.cons (.asg (.name 3) (.op .mod (.cons (.op .int (.cons (.op .idx (.cons (.var 0) (.cons (.con (.int 2)) .nil))) .nil)) (.cons (.var 1) .nil)))) (.cons (.setI (.var 0) (.con (.int 2)) (.op .fdiv (.cons (.op .idx (.cons (.var 0) (.cons (.con (.int 2)) .nil))) (.cons (.var 1) .nil)))) (.cons (.ret (.var 3)) .nil))) .nil) (.cons (.setI (.var 0) (.con (.int 3)) (.op (.add false) (.cons (.op .idx (.cons (.var 0) (.cons (.con (.int 3)) .nil))) (.cons (.con (.int 1)) .nil)))) (.cons (.asg (.name 4) (.con (.int 0))) (.cons (.ite (.op .gt (.cons (.op .len (.cons (.op .idx (.cons (.var 0) (.cons (.con (.int 1)) .nil))) .nil)) (.cons (.con (.int 0)) .nil))) (.cons (.asg (.name 4) (.op .idx (.cons (.op .idx (.cons (.var 0) (.cons (.con (.int 1)) .nil))) (.cons (.op .mod (.cons (.op .int (.cons (.op .idx (.cons (.var 0) (.cons (.con (.int 3)) .nil))) .nil)) (.cons (.op .len (.cons (.op .idx (.cons (.var 0) (.cons (.con (.int 1)) .nil))) .nil)) .nil))) .nil)))) .nil) .nil) (.cons (.asg (.name 5) (.op .mod (.cons (.op .int (.cons (.op .mul (.cons (.op (.add false) (.cons (.op (.add false) (.cons (.var 4) (.cons (.op .mul (.cons (.con (.int 7919)) (.cons (.op .idx (.cons (.var 0) (.cons (.con (.int 3)) .nil))) .nil))) .nil))) (.cons (.con (.int 1)) .nil))) (.cons (.con (.int 48271)) .nil))) .nil)) (.cons (.con (.int 2147483647)) .nil)))) (.cons (.asg (.name 5) (.op .mod (.cons (.op .int (.cons (.op .mul (.cons (.var 5) (.cons (.op (.add false) (.cons (.op .fdiv (.cons (.var 5) (.cons (.con (.int 1009)) .nil))) (.cons (.con (.int 69621)) .nil))) .nil))) .nil)) (.cons (.con (.int 2147483647)) .nil)))) (.cons (.asg (.name 5) (.op .mod (.cons (.op .int (.cons (.op .mul (.cons (.var 5) (.cons (.op (.add false) (.cons (.op .fdiv (.cons (.var 5) (.cons (.con (.int 2003)) .nil))) (.cons (.con (.int 40692)) .nil))) .nil))) .nil)) (.cons (.con (.int 2147483399)) .nil)))) (.cons (.ret (.op .mod (.cons (.op .int (.cons (.op .fdiv (.cons (.var 5) (.cons (.con (.int 16)) .nil))) .nil)) (.cons (.var 1) .nil)))) .nil)))))))))
def AllI (l : List D) : Prop := ∀ d ∈ l, ∃ i, d = .int i
def poolC (g s : List D) (c k : Int) : Cell := .lst [.lst g, .lst s, .int c, .int k]
def cs1 : CSs → CS
  | .cons s _ => s
  | _ => .pass
def csR : CSs → CSs
  | .cons _ r => r
  | _ => .nil
section
variable {G : Cfg} {cx : Option Ex} {ah : AH} {n : Nat} {g s : List D} {c k m : Int}
theorem cell_set {a b : Cell} (h : ah[n]? = some a) : (ah.set n b)[n]? = some b := List.getElem?_set_self (List.getElem?_eq_some_iff.mp h).1
theorem set_same {a : Cell} (h : ah[n]? = some a) : ah.set n a = ah := by
  obtain ⟨hn, e⟩ := List.getElem?_eq_some_iff.mp h
  rw [← e, List.set_getElem_self]
theorem set_set2 {a b : Cell} : (ah.set n a).set n b = ah.set n b := List.set_set ..
theorem draw1 (h : ah[n]? = some (poolC g s c k)) (hg : AllI g) : ∃ o g1 c1, evS G cx (cs1 drawB) [some (.loc n), some (.int m), none, none, none, none] ah = .nx [some (.loc n), some (.int m), o, none, none, none] (ah.set n (poolC g1 s c1 k)) ∧ AllI g1 := by
  have h' : ah[n]? = some (.lst [.lst g, .lst s, .int c, .int k]) := h
  have i2 : prim .idx [.loc n, .int 2] ah = .ok (.int c) ah := pr_idxC h at2
  have i0 : prim .idx [.loc n, .int 0] ah = .ok (.lst g) ah := pr_idxC h at0
  by_cases hc : c = 0
  · subst hc
    cases g with
    | nil =>
      refine ⟨none, [], 0, ?_, hg⟩
      rw [set_same h]
      simp only [cs1, drawB, evSs, evS, evE, evEs, evC, evI, startE, List.map_cons, List.map_nil, List.length_cons, List.length_nil, List.replicate, List.nil_append, List.cons_append, List.getElem?_cons_zero, List.getElem?_cons_succ, R.bind_ok, R.nox_ok, R.rs_ok, RS.then_nx, RS.then_ret, RS.then_exc, toB, truth, notK, andK, orK, M.assign, M.assigns, List.set_cons_zero, List.set_cons_succ, Nat.reduceAdd, Nat.reduceSub, partK, partOf, if_true, decide_true, decide_false, Bool.false_eq_true, if_false, reduceIte, okB, okI, i2, i0, pr_eqI, pr_lenL, pr_gt]
      simp [evSs, evS, evE, evEs, evC, evI, startE, List.map_cons, List.map_nil, List.length_cons, List.length_nil, List.replicate, List.nil_append, List.cons_append, List.getElem?_cons_zero, List.getElem?_cons_succ, R.bind_ok, R.nox_ok, R.rs_ok, RS.then_nx, RS.then_ret, RS.then_exc, toB, truth, notK, andK, orK, M.assign, M.assigns, List.set_cons_zero, List.set_cons_succ, Nat.reduceAdd, Nat.reduceSub, partK, partOf, if_true, decide_true, decide_false, Bool.false_eq_true, if_false, reduceIte, okB, okI]
    | cons a g =>
      obtain ⟨i, rfl⟩ := hg a List.mem_cons_self
      refine ⟨some (.lst (.int i :: g)), g, i, ?_, fun d hd => hg d (List.mem_cons_of_mem _ hd)⟩
      have hl : (0 : Int) < (((D.int i :: g).length : Nat) : Int) := by simp only [List.length_cons]; omega
      show evS G cx (.ite _ _ _) _ _ = _
      rw [x_iteT (ah1 := ah) (by
        rw [x_andT (ah1 := ah) (x_op2 (x_op2 (x_var rfl) x_con i2) x_con (by rw [pr_eqI]; rfl))]
        exact x_op2 (x_op1 (x_op2 (x_var rfl) x_con i0) pr_lenL) x_con (by rw [pr_gt, decide_eq_true hl]))]
      rw [x_nx (x_asg (x_op2 (x_var rfl) x_con i0))]
      rw [x_nx (x_setI (x_op2 (x_var rfl) x_con (pr_idxL at0)) rfl h' rfl)]
      have h2 := cell_set (b := .lst ([D.lst (D.int i :: g), D.lst s, D.int 0, D.int k].set 2 (D.int i))) h
      rw [x_nx (x_setI (x_slice (x_var rfl) x_con x_con rfl rfl sl_tail) rfl h2 rfl), x_nil, set_set2]
      rfl
  · refine ⟨none, g, c, ?_, hg⟩
    rw [set_same h]
    simp only [cs1, drawB, evSs, evS, evE, evEs, evC, evI, startE, List.map_cons, List.map_nil, List.length_cons, List.length_nil, List.replicate, List.nil_append, List.cons_append, List.getElem?_cons_zero, List.getElem?_cons_succ, R.bind_ok, R.nox_ok, R.rs_ok, RS.then_nx, RS.then_ret, RS.then_exc, toB, truth, notK, andK, orK, M.assign, M.assigns, List.set_cons_zero, List.set_cons_succ, Nat.reduceAdd, Nat.reduceSub, partK, partOf, if_true, decide_true, decide_false, Bool.false_eq_true, if_false, reduceIte, okB, okI, i2, i0, pr_eqI, pr_lenL, pr_gt]
    simp [evSs, evS, evE, evEs, evC, evI, startE, List.map_cons, List.map_nil, List.length_cons, List.length_nil, List.replicate, List.nil_append, List.cons_append, List.getElem?_cons_zero, List.getElem?_cons_succ, R.bind_ok, R.nox_ok, R.rs_ok, RS.then_nx, RS.then_ret, RS.then_exc, toB, truth, notK, andK, orK, M.assign, M.assigns, List.set_cons_zero, List.set_cons_succ, Nat.reduceAdd, Nat.reduceSub, partK, partOf, if_true, decide_true, decide_false, Bool.false_eq_true, if_false, reduceIte, okB, okI, hc]
/-- the numbers after the seed -/
theorem draw3 {v : Int} {o d3 d5 : Option D} (h : ah[n]? = some (poolC g s c k)) (hm : 0 < m) : ∃ r, evSs G cx (csR (csR (csR (csR (csR drawB))))) [some (.loc n), some (.int m), o, d3, some (.int v), d5] ah = .ret (.int r) ah ∧ 0 ≤ r ∧ r < m := by
  have i3 : prim .idx [.loc n, .int 3] ah = .ok (.int k) ah := pr_idxC h at3
  obtain ⟨N1, hN⟩ : ∃ N1, ((v + 7919 * k + 1) * 48271) % 2147483647 = N1 := ⟨_, rfl⟩
  have b1 : 0 ≤ N1 ∧ N1 < 2147483647 := by omega
  obtain ⟨N2, hN2⟩ : ∃ N2, (N1 * (N1 / 1009 + 69621)) % 2147483647 = N2 := ⟨_, rfl⟩
  have b2 : 0 ≤ N2 ∧ N2 < 2147483647 := by
    rw [← hN2]
    exact ⟨Int.emod_nonneg _ (by decide), Int.emod_lt_of_pos _ (by decide)⟩
  obtain ⟨N3, hN3⟩ : ∃ N3, (N2 * (N2 / 2003 + 40692)) % 2147483399 = N3 := ⟨_, rfl⟩
  refine ⟨N3 / 16 % m, ?_, Int.emod_nonneg _ (by omega), Int.emod_lt_of_pos _ hm⟩
  show evSs G cx (.cons _ (.cons _ (.cons _ (.cons _ .nil)))) _ _ = _
  rw [x_nx (x_asg (x_op2 (x_op1 (x_op2 (x_op2 (x_op2 (x_var rfl) (x_op2 x_con (x_op2 (x_var rfl) x_con i3) (pr_mul (.inl (by decide)))) pr_addI) x_con pr_addI) x_con (pr_mul (.inr (by decide)))) pr_int) x_con (pr_mod (by decide)))), hN]
  rw [x_nx (x_asg (x_op2 (x_op1 (x_op2 (x_var rfl) (x_op2 (x_op2 (x_var rfl) x_con (pr_fdiv (by decide))) x_con pr_addI) (pr_mul (.inl (by omega)))) pr_int) x_con (pr_mod (by decide)))), hN2]
  rw [x_nx (x_asg (x_op2 (x_op1 (x_op2 (x_var rfl) (x_op2 (x_op2 (x_var rfl) x_con (pr_fdiv (by decide))) x_con pr_addI) (pr_mul (.inl (by omega)))) pr_int) x_con (pr_mod (by decide)))), hN3]
  rw [x_rt (x_ret (x_op2 (x_op1 (x_op2 (x_var rfl) x_con (pr_fdiv (by decide))) pr_int) (x_var rfl) (pr_mod hm)))]
theorem draw_ev (h : ah[n]? = some (poolC g s c k)) (hg : AllI g) (hs : AllI s) (hm : 0 < m) (hm2 : m < 1000) :
    ∃ r g' c' k', evSs G cx drawB [some (.loc n), some (.int m), none, none, none, none] ah = .ret (.int r) (ah.set n (poolC g' s c' k')) ∧ 0 ≤ r ∧ r < m ∧ AllI g' := by
  obtain ⟨o, g1, c1, e1, hg1⟩ := draw1 (G := G) (cx := cx) (m := m) h hg
  have h1 : (ah.set n (poolC g1 s c1 k))[n]? = some (poolC g1 s c1 k) := cell_set h
  have i2 : prim .idx [.loc n, .int 2] (ah.set n (poolC g1 s c1 k)) = .ok (.int c1) _ := pr_idxC h1 at2
  by_cases hc : 0 < c1
  · refine ⟨c1 % m, g1, c1 / m, k, ?_, Int.emod_nonneg _ (by omega), Int.emod_lt_of_pos _ hm, hg1⟩
    show evSs G cx (.cons (cs1 drawB) (.cons _ _)) _ _ = _
    rw [x_nx e1]
    have e2 : evS G cx (cs1 (csR drawB)) [some (.loc n), some (.int m), o, none, none, none] (ah.set n (poolC g1 s c1 k)) = .ret (.int (c1 % m)) (ah.set n (poolC g1 s (c1 / m) k)) := by
      show evS G cx (.ite _ _ _) _ _ = _
      rw [x_iteT (x_op2 (x_op2 (x_var rfl) x_con i2) x_con (by rw [pr_gt, decide_eq_true hc]))]
      rw [x_nx (x_asg (x_op2 (x_op1 (x_op2 (x_var rfl) x_con i2) pr_int) (x_var rfl) (pr_mod hm)))]
      rw [x_nx (x_setI (x_op2 (x_op2 (x_var rfl) x_con i2) (x_var rfl) (pr_fdiv (by omega))) rfl h1 rfl), set_set2]
      rw [x_rt (x_ret (x_var rfl))]
      rfl
    exact x_rt e2
  · have e2 : evS G cx (cs1 (csR drawB)) [some (.loc n), some (.int m), o, none, none, none] (ah.set n (poolC g1 s c1 k)) = .nx [some (.loc n), some (.int m), o, none, none, none] (ah.set n (poolC g1 s c1 k)) := by
      show evS G cx (.ite _ _ _) _ _ = _
      rw [x_iteF (x_op2 (x_op2 (x_var rfl) x_con i2) x_con (by rw [pr_gt, decide_eq_false hc])), x_nil]
    have i3 : prim .idx [.loc n, .int 3] (ah.set n (poolC g1 s c1 k)) = .ok (.int k) _ := pr_idxC h1 at3
    have e3 : evS G cx (cs1 (csR (csR drawB))) [some (.loc n), some (.int m), o, none, none, none] (ah.set n (poolC g1 s c1 k)) = .nx [some (.loc n), some (.int m), o, none, none, none] (ah.set n (poolC g1 s c1 (k + 1))) := by
      show evS G cx (.setI _ _ _) _ _ = _
      rw [x_setI (x_op2 (x_op2 (x_var rfl) x_con i3) x_con pr_addI) rfl h1 rfl, set_set2]
      rfl
    have h2 : (ah.set n (poolC g1 s c1 (k + 1)))[n]? = some (poolC g1 s c1 (k + 1)) := cell_set h
    have j1 : prim .idx [.loc n, .int 1] (ah.set n (poolC g1 s c1 (k + 1))) = .ok (.lst s) _ := pr_idxC h2 at1
    have j3 : prim .idx [.loc n, .int 3] (ah.set n (poolC g1 s c1 (k + 1))) = .ok (.int (k + 1)) _ := pr_idxC h2 at3
    have e5 : ∃ v, evS G cx (cs1 (csR (csR (csR (csR drawB))))) [some (.loc n), some (.int m), o, none, some (.int 0), none] (ah.set n (poolC g1 s c1 (k + 1))) = .nx [some (.loc n), some (.int m), o, none, some (.int v), none] (ah.set n (poolC g1 s c1 (k + 1))) := by
      cases s with
      | nil =>
        refine ⟨0, ?_⟩
        show evS G cx (.ite _ _ _) _ _ = _
        rw [x_iteF (x_op2 (x_op1 (x_op2 (x_var rfl) x_con j1) pr_lenL) x_con pr_gt), x_nil]
      | cons a s =>
        have hl : (0 : Int) < (((a :: s).length : Nat) : Int) := by simp only [List.length_cons]; omega
        obtain ⟨b, hb, hbm⟩ := at_int (l := a :: s) (i := (k + 1) % (((a :: s).length : Nat) : Int)) (Int.emod_nonneg _ (by omega)) (Int.emod_lt_of_pos _ hl)
        obtain ⟨v, rfl⟩ := hs b hbm
        refine ⟨v, ?_⟩
        show evS G cx (.ite _ _ _) _ _ = _
        rw [x_iteT (x_op2 (x_op1 (x_op2 (x_var rfl) x_con j1) pr_lenL) x_con (by rw [pr_gt, decide_eq_true hl]))]
        rw [x_nx (x_asg (x_op2 (x_op2 (x_var rfl) x_con j1) (x_op2 (x_op1 (x_op2 (x_var rfl) x_con j3) pr_int) (x_op1 (x_op2 (x_var rfl) x_con j1) pr_lenL) (pr_mod hl)) (pr_idxL hb))), x_nil]
        rfl
    obtain ⟨v, e5⟩ := e5
    obtain ⟨r, e6, r1, r2⟩ := draw3 (G := G) (cx := cx) (v := v) (o := o) (d3 := none) (d5 := none) h2 hm
    refine ⟨r, g1, c1, k + 1, ?_, r1, r2, hg1⟩
    show evSs G cx (.cons (cs1 drawB) (.cons (cs1 (csR drawB)) (.cons (cs1 (csR (csR drawB))) (.cons (.asg (.name 4) (.con (.int 0))) (.cons (cs1 (csR (csR (csR (csR drawB))))) (csR (csR (csR (csR (csR drawB)))))))))) _ _ = _
    rw [x_nx e1, x_nx e2, x_nx e3, x_nx (x_asg x_con)]
    show evSs G cx (.cons _ _) [some (.loc n), some (.int m), o, none, some (.int 0), none] _ = _
    rw [x_nx e5, e6]
end
end M
end

section
set_option Elab.async false
set_option linter.all false
set_option maxRecDepth 100000
set_option maxHeartbeats 1000000
/-! plain: calls, comprehensions, the pool, pick -/
namespace M
theorem callF_keep {P : Prog1} {j f sl pa : Nat} {b : CSs} {ds : List D} {ah : AH} (h : P.fns f = some ⟨sl, pa, .keep, b⟩) (hl : ds.length = pa) : callF P (j + 1) f ds ah = finK (evSs (cfgK P j) none b (startE sl ds) ah) := by
  simp only [callF, h, if_pos hl]
  rfl
theorem callF_pure {P : Prog1} {j f sl pa : Nat} {b : CSs} {ds es : List D} {ah : AH} (h : P.fns f = some ⟨sl, pa, .pure, b⟩) (hl : ds.length = pa) (hr : rds ah ds = some es) : callF P (j + 1) f ds ah = finP (D.noLocs ds) ah (evSs (cfgK P j) none b (startE sl es) []) := by
  simp only [callF, h, if_pos hl, runF, hr]
  rfl
section
variable {G : Cfg} {cx : Option Ex} {ah : AH} {env : Env1} {i : Nat} {cond : Env1 → AH → R Bool} {el : Env1 → AH → R D} {p : D → Bool} {f : D → D}
theorem compL_eq : ∀ {ds : List D}, (∀ d ∈ ds, cond (env.set i (some d)) ah = .ok (p d) ah) → (∀ d ∈ ds, p d = true → el (env.set i (some d)) ah = .ok (f d) ah) → compL none (.name i) cond el env ds ah = .ok ((ds.filter p).map f) ah
  | [], _, _ => rfl
  | d :: ds, hc, he => by
    have ih := compL_eq (ds := ds) (fun x hx => hc x (List.mem_cons_of_mem _ hx)) fun x hx => he x (List.mem_cons_of_mem _ hx)
    have h1 := hc d List.mem_cons_self
    unfold compL
    simp only [gdOk, if_true, assign, h1, R.nox_ok, R.bind_ok]
    cases hp : p d with
    | false =>
      simp only [Bool.false_eq_true, if_false, ih]
      rw [List.filter_cons_of_neg (by simp [hp])]
    | true =>
      have h2 := he d List.mem_cons_self hp
      simp only [if_true, h2, R.nox_ok, R.bind_ok, ih]
      rw [List.filter_cons_of_pos hp, List.map_cons]
/-- elements that change the heap, an invariant -/
theorem compL_inv {I : AH → Prop} {Gd1 : D → Prop} : ∀ {ds : List D} {ah : AH}, I ah → (∀ d ∈ ds, ∀ ah, I ah → ∃ x ah', el (env.set i (some d)) ah = .ok x ah' ∧ I ah' ∧ Gd1 x) → ∃ xs ah', compL none (.name i) (fun e a => evC G cx .nil e a) el env ds ah = .ok xs ah' ∧ I ah' ∧ (∀ x ∈ xs, Gd1 x) ∧ xs.length = ds.length
  | [], ah, hI, _ => ⟨[], ah, rfl, hI, (fun x h => by cases h), rfl⟩
  | d :: ds, ah, hI, he => by
    obtain ⟨x, ah1, h1, h2, h3⟩ := he d List.mem_cons_self ah hI
    obtain ⟨xs, ah2, h4, h5, h6, h7⟩ := compL_inv (ds := ds) h2 fun x hx => he x (List.mem_cons_of_mem _ hx)
    refine ⟨x :: xs, ah2, ?_, h5, fun y hy => (List.mem_cons.mp hy).elim (fun q => by rw [q]; exact h3) (h6 y), by rw [List.length_cons, List.length_cons, h7]⟩
    simp only [evC] at h4
    unfold compL
    simp only [gdOk, if_true, assign, evC, R.nox_ok, R.bind_ok, h1, h4]
theorem x_comp {ci : CI} {cond : CEs} {elt : CE} {own : List Nat} {ds : List D} {ah1 : AH} (h1 : evI G cx ci env ah = .ok (ds, none) ah1) (hc : ∀ d ∈ ds, evC G cx cond ((wipeE env own).set i (some d)) ah1 = .ok (p d) ah1) (he : ∀ d ∈ ds, p d = true → evE G cx elt ((wipeE env own).set i (some d)) ah1 = .ok (f d) ah1) :
    evE G cx (.comp false (.name i) ci cond elt own) env ah = .ok (.lst ((ds.filter p).map f)) ah1 := by
  simp only [evE, h1, R.bind_ok]
  rw [compL_eq (p := p) (f := f) hc he, R.bind_ok]
  rfl
theorem x_compI {ci : CI} {elt : CE} {own : List Nat} {ds : List D} {ah1 : AH} {I : AH → Prop} {Gd1 : D → Prop} (h1 : evI G cx ci env ah = .ok (ds, none) ah1) (hI : I ah1) (he : ∀ d ∈ ds, ∀ ah, I ah → ∃ x ah', evE G cx elt ((wipeE env own).set i (some d)) ah = .ok x ah' ∧ I ah' ∧ Gd1 x) :
    ∃ xs ah', evE G cx (.comp false (.name i) ci .nil elt own) env ah = .ok (.lst xs) ah' ∧ I ah' ∧ (∀ x ∈ xs, Gd1 x) ∧ xs.length = ds.length := by
  obtain ⟨xs, ah2, h2, h3, h4, h5⟩ := compL_inv (G := G) (cx := cx) (el := fun e a => evE G cx elt e a) hI he
  refine ⟨xs, ah2, ?_, h3, h4, h5⟩
  simp only [evE, h1, R.bind_ok]
  rw [h2, R.bind_ok]
  rfl
theorem i_seqL {e : CE} {xs : List D} {ah1 : AH} (h : evE G cx e env ah = .ok (.lst xs) ah1) : evI G cx (.seq e) env ah = .ok (xs, none) ah1 := by
  simp only [evI, h, R.bind_ok]
theorem i_seqT {e : CE} {xs : List D} {ah1 : AH} (h : evE G cx e env ah = .ok (.tup xs) ah1) : evI G cx (.seq e) env ah = .ok (xs, none) ah1 := by
  simp only [evI, h, R.bind_ok]
theorem i_seqS {e : CE} {xs : List Nat} {ah1 : AH} (h : evE G cx e env ah = .ok (.str xs) ah1) : evI G cx (.seq e) env ah = .ok (xs.map (fun c => D.str [c]), none) ah1 := by
  simp only [evI, h, R.bind_ok]
theorem i_range {e : CE} {k : Int} {ah1 : AH} (h : evE G cx e env ah = .ok (.int k) ah1) (hk : k ≤ 1000) (hk2 : -1000 ≤ k) : evI G cx (.range1 e) env ah = .ok (rangeD 0 k.toNat, none) ah1 := by
  simp only [evI, h, R.bind_ok]
  rw [if_pos (by unfold SZ; omega)]
end
/-! ### the pool -/
def PoolAt (ah : AH) (n : Nat) : Prop := ∃ g s c k, ah[n]? = some (poolC g s c k) ∧ AllI g ∧ AllI s
/-- the pool at n changed, nothing else -/
def Drawn (n : Nat) (ah ah' : AH) : Prop := PoolAt ah' n ∧ ∃ c, ah' = ah.set n c
theorem Drawn.oth {n m : Nat} {ah ah' : AH} (h : Drawn n ah ah') (hne : n ≠ m) : ah'[m]? = ah[m]? := by
  obtain ⟨_, c, rfl⟩ := h
  rw [List.getElem?_set_ne hne]
theorem Drawn.len {n : Nat} {ah ah' : AH} (h : Drawn n ah ah') : ah'.length = ah.length := by
  obtain ⟨_, c, rfl⟩ := h
  rw [List.length_set]
theorem Drawn.trans {n : Nat} {a b c : AH} (h : Drawn n a b) (h2 : Drawn n b c) : Drawn n a c := by
  obtain ⟨_, x, rfl⟩ := h
  obtain ⟨p, y, rfl⟩ := h2
  exact ⟨p, y, by rw [set_set2]⟩
theorem Drawn.refl {n : Nat} {a : AH} (h : PoolAt a n) : Drawn n a a := ⟨h, let ⟨g, s, c, k, h1, _⟩ := h; ⟨_, (set_same h1).symm⟩⟩
theorem call_draw {P : Prog1} {f : Nat} (h : P.fns f = some ⟨6, 2, .keep, drawB⟩) {j n : Nat} {m : Int} {ah : AH} (hp : PoolAt ah n) (hm : 0 < m) (hm2 : m < 1000) :
    ∃ r ah', callF P (j + 1) f [.loc n, .int m] ah = .ok (.int r) ah' ∧ Drawn n ah ah' ∧ 0 ≤ r ∧ r < m := by
  obtain ⟨g, s, c, k, h1, h2, h3⟩ := hp
  obtain ⟨r, g', c', k', e, r1, r2, hg'⟩ := draw_ev (G := cfgK P j) (cx := none) h1 h2 h3 hm hm2
  refine ⟨r, _, ?_, ⟨⟨g', s, c', k', cell_set h1, hg', h3⟩, _, rfl⟩, r1, r2⟩
  rw [callF_keep h rfl]
  show finK (evSs (cfgK P j) none drawB [some (.loc n), some (.int m), none, none, none, none] ah) = _
  rw [e]
  rfl
end M
end

section
set_option Elab.async false
set_option linter.all false
set_option maxRecDepth 100000
set_option maxHeartbeats 1000000
/-! k53, plain: pool, pick -/
namespace SW
open M
theorem AllI.fm {l : List D} {p : D → Bool} {f : D → D} (h : AllI l) (hf : ∀ i, ∃ j, f (.int i) = .int j) : AllI ((l.filter p).map f) := by
  intro d hd
  obtain ⟨e, he, rfl⟩ := List.mem_map.mp hd
  obtain ⟨i, rfl⟩ := h e (List.mem_filter.mp he).1
  exact hf i
theorem AllI.cut {ns : List Int} {a b : Option Int} : AllI (cutL (ns.map D.int) a b) := by
  intro d hd
  unfold cutL at hd
  have h1 := List.mem_of_mem_drop (List.mem_of_mem_take hd)
  obtain ⟨i, _, rfl⟩ := List.mem_map.mp h1
  exact ⟨i, rfl⟩
def gP : D → Bool
  | .int i => decide ((10 : Int) ^ 18 ≤ if i < 0 then -i else i)
  | _ => false
def gF : D → D
  | .int i => .int (if i < 0 then -i else i)
  | d => d
def sP : D → Bool
  | .int i => decide ((if i < 0 then -i else i) < (10 : Int) ^ 18)
  | _ => false
def sF : D → D
  | .int i => .int (i % 1000003)
  | d => d
theorem call_pool {j : Nat} {ns : List Int} {ah : AH} : ∃ g s, callF pr (j + 1) 5 [.scr ns] ah = .ok (.loc ah.length) (ah ++ [poolC g s 0 0]) ∧ AllI g ∧ AllI s := by
  have a0 : AllI (cutL (ns.map D.int) none (some 63)) := AllI.cut
  generalize hL : cutL (ns.map D.int) none (some 63) = L0 at a0
  have a1 : AllI ((L0.filter fun _ => true).map fun d => d) := AllI.fm a0 fun i => ⟨i, rfl⟩
  generalize hL1 : ((L0.filter fun _ => true).map fun d => d) = L1 at a1
  refine ⟨(L1.filter gP).map gF, (L1.filter sP).map sF, ?_, AllI.fm a1 fun i => ⟨_, rfl⟩, AllI.fm a1 fun i => ⟨_, rfl⟩⟩
  rw [callF_keep (sl := 5) (pa := 1) (b := b5) rfl rfl]
  show finK (evSs (cfgK pr j) none (.cons _ (.cons _ (.cons _ (.cons _ .nil)))) [some (.scr ns), none, none, none, none] ah) = _
  have sl : pSlice false none (some 63) ah (.scr ns) = .ok (.lst L0) ah := by
    show mkL false (cutL (ns.map D.int) none (some 63)) ah = _
    rw [hL]
    rfl
  have pw : ∀ env, evE (cfgK pr j) none (.op .pow (.cons (.con (.int 10)) (.cons (.con (.int 18)) .nil))) env ah = .ok (.int ((10 : Int) ^ 18)) ah := fun env => x_op2 x_con x_con (pr_pow (by decide))
  rw [x_nx (x_asg (x_comp (ah1 := ah) (p := fun _ => true) (f := fun d => d) (i_seqL (x_slice (x_var rfl) x_con x_con rfl rfl sl)) (fun d hd => by simp only [evC]) (fun d hd _ => by
    obtain ⟨i, rfl⟩ := a0 d hd
    exact x_op1 (x_var rfl) pr_int))), hL1]
  rw [x_nx (x_asg (x_comp (ah1 := ah) (p := gP) (f := gF) (i_seqL (x_var rfl)) (fun d hd => by
    obtain ⟨i, rfl⟩ := a1 d hd
    exact x_test (x_op2 (x_op1 (x_var rfl) pr_abs) (pw _) pr_ge)) (fun d hd _ => by
    obtain ⟨i, rfl⟩ := a1 d hd
    exact x_op1 (x_var rfl) pr_abs)))]
  rw [x_nx (x_asg (x_comp (ah1 := ah) (p := sP) (f := sF) (i_seqL (x_var rfl)) (fun d hd => by
    obtain ⟨i, rfl⟩ := a1 d hd
    exact x_test (x_op2 (x_op1 (x_var rfl) pr_abs) (pw _) pr_lt)) (fun d hd _ => by
    obtain ⟨i, rfl⟩ := a1 d hd
    exact x_op2 (x_op1 (x_var rfl) pr_int) x_con (pr_mod (by decide)))))]
  rw [x_rt (x_ret (x_lst (x_es (x_var rfl) (x_es (x_var rfl) (x_es x_con (x_es x_con x_es0)))) (by show 4 ≤ SZ; decide)))]
  rfl
/-- the items of a list, frozen or a cell -/
def ItemsAt (ah : AH) (d : D) (xs : List D) : Prop := d = .lst xs ∨ ∃ n, d = .loc n ∧ ah[n]? = some (.lst xs)
theorem call_pick {j n : Nat} {d : D} {xs : List D} {ah : AH} (hp : PoolAt ah n) (hd : ItemsAt ah d xs) (hn : ∀ m, d = .loc m → n ≠ m) (h0 : xs ≠ []) (h1 : xs.length < 1000) :
    ∃ x ah', callF pr (j + 2) 7 [.loc n, d] ah = .ok x ah' ∧ Drawn n ah ah' ∧ x ∈ xs := by
  have hl : 0 < xs.length := List.length_pos_iff.mpr h0
  obtain ⟨r, ah1, e, dr, r1, r2⟩ := call_draw (P := pr) (f := 6) rfl (j := j) (m := (xs.length : Int)) hp (by omega) (by omega)
  obtain ⟨x, hx, hm⟩ := at_int (l := xs) r1 r2
  refine ⟨x, ah1, ?_, dr, hm⟩
  rw [callF_keep (sl := 2) (pa := 2) (b := b7) rfl rfl]
  show finK (evSs (cfgK pr (j + 1)) none (.cons _ .nil) [some (.loc n), some d] ah) = _
  rcases hd with rfl | ⟨m, rfl, hm2⟩
  · rw [x_rt (x_ret (x_op2 (x_var rfl) (x_call2 (x_var rfl) (x_op1 (x_var rfl) pr_lenL) e) (pr_idxL hx)))]
    rfl
  · have hm3 : ah1[m]? = some (.lst xs) := by rw [dr.oth (hn m rfl)]; exact hm2
    rw [x_rt (x_ret (x_op2 (x_var rfl) (x_call2 (x_var rfl) (x_op1 (x_var rfl) (pr_lenC hm2)) e) (pr_idxC hm3 hx)))]
    rfl
end SW
end

section
set_option Elab.async false
set_option linter.all false
set_option maxRecDepth 100000
set_option maxHeartbeats 1000000
/-! k53, plain: names -/
namespace SW
open M
def L26 : List Nat := [97, 98, 99, 100, 101, 102, 103, 104, 105, 106, 107, 108, 109, 110, 111, 112, 113, 114, 115, 116, 117, 118, 119, 120, 121, 122]
theorem mem26 {c : Nat} : c ∈ L26 ↔ 97 ≤ c ∧ c ≤ 122 := by
  unfold L26
  simp only [List.mem_cons, List.not_mem_nil, or_false]
  omega
def nmB (x : List Nat) : Bool := decide (1 ≤ x.length) && (decide (x.length ≤ 8) && x.all fun c => decide (c ∈ L26))
theorem nm_loop {G : Cfg} (hg : G.gl = glF) {s1 : CSs} (hs : s1 = .cons (.ite (.op .notin (.cons (.var 1) (.cons (.glob 0) .nil))) (.cons (.ret (.con (.bl false))) .nil) .nil) .nil) {a : D} : ∀ {x : List Nat} {o : Option D},
    (x.all (fun c => decide (c ∈ L26)) = true → ∃ o', forL none (.name 1) (fun e a => evSs G none s1 e a) (x.map fun c => D.str [c]) [some a, o] [] = .nx [some a, o'] []) ∧
    (x.all (fun c => decide (c ∈ L26)) = false → forL none (.name 1) (fun e a => evSs G none s1 e a) (x.map fun c => D.str [c]) [some a, o] [] = .ret (.bl false) [])
  | [], o => ⟨fun _ => ⟨o, rfl⟩, fun h => by cases h⟩
  | c :: x, o => by
    have ih := nm_loop hg hs (a := a) (x := x) (o := some (.str [c]))
    have hgl : evE G none (.glob 0) [some a, some (.str [c])] [] = .ok (.str L26) [] := by
      simp only [evE, hg]
      rfl
    have hin : ∀ b, decide (c ∈ L26) = b → prim .notin [.str [c], .str L26] [] = .ok (.bl (true != b)) [] := fun b hb => by
      rw [← hb]
      rfl
    subst hs
    rw [List.all_cons]
    cases hb : decide (c ∈ L26) with
    | true =>
      have st : evSs G none (.cons (.ite (.op .notin (.cons (.var 1) (.cons (.glob 0) .nil))) (.cons (.ret (.con (.bl false))) .nil) .nil) .nil) [some a, some (.str [c])] [] = .nx [some a, some (.str [c])] [] := by
        rw [x_nx (by rw [x_iteF (x_op2 (x_var rfl) hgl (hin true hb)), x_nil]), x_nil]
      have un : forL none (.name 1) (fun e a => evSs G none (.cons (.ite (.op .notin (.cons (.var 1) (.cons (.glob 0) .nil))) (.cons (.ret (.con (.bl false))) .nil) .nil) .nil) e a) ((c :: x).map fun c => D.str [c]) [some a, o] [] =
          forL none (.name 1) (fun e a => evSs G none (.cons (.ite (.op .notin (.cons (.var 1) (.cons (.glob 0) .nil))) (.cons (.ret (.con (.bl false))) .nil) .nil) .nil) e a) (x.map fun c => D.str [c]) [some a, some (.str [c])] [] := by
        rw [List.map_cons]
        conv => lhs; unfold forL
        simp only [gdOk, if_true, M.assign, List.set_cons_succ, List.set_cons_zero]
        rw [st, RS.then_nx]
      rw [un, Bool.true_and]
      exact ih
    | false =>
      refine ⟨fun h => by simp at h, fun _ => ?_⟩
      rw [List.map_cons]
      unfold forL
      simp only [gdOk, if_true, M.assign, List.set_cons_succ, List.set_cons_zero]
      rw [x_rt (by rw [x_iteT (x_op2 (x_var rfl) hgl (hin false hb)), x_rt (x_ret x_con)]), RS.then_ret]
theorem call_isname {j : Nat} {x : List Nat} {ah : AH} : callF pr (j + 1) 0 [.str x] ah = .ok (.bl (nmB x)) ah := by
  rw [callF_pure (sl := 2) (pa := 1) (b := b0) (es := [.str x]) rfl rfl rfl]
  have key : evSs (cfgK pr j) none b0 (startE 2 [.str x]) [] = .ret (.bl (nmB x)) [] := by
    show evSs (cfgK pr j) none (.cons _ (.cons _ (.cons _ .nil))) [some (.str x), none] [] = _
    have c1 : evE (cfgK pr j) none (.op (.isinst .str) (.cons (.var 0) .nil)) [some (.str x), none] [] = .ok (.bl true) [] := x_op1 (x_var rfl) rfl
    have cl : evE (cfgK pr j) none (.op .len (.cons (.var 0) .nil)) [some (.str x), none] [] = .ok (.int x.length) [] := x_op1 (x_var rfl) pr_lenS
    have fl : ∀ {b}, evE (cfgK pr j) none (.chain .le .le (.con (.int 1)) (.op .len (.cons (.var 0) .nil)) (.con (.int 8))) [some (.str x), none] [] = .ok (.bl b) [] →
        evE (cfgK pr j) none (.or (.not (.op (.isinst .str) (.cons (.var 0) .nil))) (.not (.chain .le .le (.con (.int 1)) (.op .len (.cons (.var 0) .nil)) (.con (.int 8))))) [some (.str x), none] [] = .ok (.bl (!b)) [] := fun {b} hc => by
      rw [x_orF (x_not c1), x_not hc]
    by_cases h1 : 1 ≤ x.length
    · have g1 : decide ((1 : Int) ≤ (x.length : Int)) = true := decide_eq_true (by omega)
      by_cases h8 : x.length ≤ 8
      · have g8 : decide ((x.length : Int) ≤ 8) = true := decide_eq_true (by omega)
        rw [x_nx (by rw [x_iteF (fl (x_chainT x_con cl (by rw [pr_le, g1]) x_con (by rw [pr_le, g8]))), x_nil])]
        have lp := nm_loop (G := cfgK pr j) rfl rfl (a := .str x) (x := x) (o := none)
        have fr : evS (cfgK pr j) none (.forS (.name 1) (.seq (.var 0)) (.cons (.ite (.op .notin (.cons (.var 1) (.cons (.glob 0) .nil))) (.cons (.ret (.con (.bl false))) .nil) .nil) .nil)) [some (.str x), none] [] = forL none (.name 1) (fun e a => evSs (cfgK pr j) none (.cons (.ite (.op .notin (.cons (.var 1) (.cons (.glob 0) .nil))) (.cons (.ret (.con (.bl false))) .nil) .nil) .nil) e a) (x.map fun c => D.str [c]) [some (.str x), none] [] := x_for (i_seqS (x_var rfl))
        have hn : nmB x = x.all fun c => decide (c ∈ L26) := by
          unfold nmB
          rw [decide_eq_true h1, decide_eq_true h8, Bool.true_and, Bool.true_and]
        rw [hn]
        cases ha : x.all fun c => decide (c ∈ L26) with
        | true =>
          obtain ⟨o', e⟩ := lp.1 ha
          rw [x_nx (fr.trans e), x_rt (x_ret x_con)]
        | false => rw [x_rt (fr.trans (lp.2 ha))]
      · have g8 : decide ((x.length : Int) ≤ 8) = false := decide_eq_false (by omega)
        have hn : nmB x = false := by
          unfold nmB
          rw [decide_eq_false h8, Bool.false_and, Bool.and_false]
        rw [hn, x_rt (by rw [x_iteT (fl (x_chainT x_con cl (by rw [pr_le, g1]) x_con (by rw [pr_le, g8]))), x_rt (x_ret x_con)])]
    · have g1 : decide ((1 : Int) ≤ (x.length : Int)) = false := decide_eq_false (by omega)
      have hn : nmB x = false := by
        unfold nmB
        rw [decide_eq_false h1, Bool.false_and]
      rw [hn, x_rt (by rw [x_iteT (fl (x_chainF x_con cl (by rw [pr_le, g1]))), x_rt (x_ret x_con)])]
  rw [key]
  rfl
end SW
end

section
set_option Elab.async false
set_option linter.all false
set_option maxRecDepth 100000
set_option maxHeartbeats 1000000
/-! k53, plain: is_digit, drawn names -/
namespace SW
open M
def D10 : List Nat := [48, 49, 50, 51, 52, 53, 54, 55, 56, 57]
def digB : List Nat → Bool
  | [c] => decide (c ∈ D10)
  | _ => false
theorem call_isdigit {j : Nat} {x : List Nat} {ah : AH} : callF pr (j + 1) 1 [.str x] ah = .ok (.bl (digB x)) ah := by
  rw [callF_pure (sl := 1) (pa := 1) (b := b1) (es := [.str x]) rfl rfl rfl]
  have key : evSs (cfgK pr j) none b1 (startE 1 [.str x]) [] = .ret (.bl (digB x)) [] := by
    show evSs (cfgK pr j) none (.cons _ .nil) [some (.str x)] [] = _
    have cl : evE (cfgK pr j) none (.op .eq (.cons (.op .len (.cons (.var 0) .nil)) (.cons (.con (.int 1)) .nil))) [some (.str x)] [] = .ok (.bl (decide ((x.length : Int) = 1))) [] := x_op2 (x_op1 (x_var rfl) pr_lenS) x_con pr_eqI
    match x, cl with
    | [], cl => rw [x_rt (x_ret (x_andF cl))]; rfl
    | [c], cl => rw [x_rt (x_ret (by rw [x_andT cl]; exact x_op2 (x_var rfl) x_con (rfl : prim .isin [.str [c], .str D10] [] = .ok (.bl (false != decide (c ∈ D10))) [])))]; simp [digB]
    | a :: b :: r, cl =>
      have : decide (((a :: b :: r).length : Int) = 1) = false := decide_eq_false (by simp only [List.length_cons]; omega)
      rw [this] at cl
      rw [x_rt (x_ret (x_andF cl))]
      rfl
  rw [key]
  rfl
/-- texts -/
def AllS (l : List D) : Prop := ∀ d ∈ l, ∃ x, d = .str x ∧ nmB x = true
theorem AllS.nl : ∀ {l : List D}, AllS l → D.noLocs l = true ∧ D.areData l = true ∧ D.depths l = 0
  | [], _ => ⟨rfl, rfl, rfl⟩
  | d :: l, h => by
    obtain ⟨x, rfl, _⟩ := h d List.mem_cons_self
    obtain ⟨h1, h2, h3⟩ := AllS.nl fun e he => h e (List.mem_cons_of_mem _ he)
    refine ⟨?_, ?_, ?_⟩
    · simp only [D.noLocs, D.noLoc, h1, Bool.and_true]
    · simp only [D.areData, D.isData, h2, Bool.and_true]
    · simp only [D.depths, D.depth, h3]; rfl
theorem pr_inC {x : List Nat} {n : Nat} {l : List D} {ah : AH} (h : ah[n]? = some (.lst l)) (hl : AllS l) : ∃ b, prim .isin [.str x, .loc n] ah = .ok (.bl b) ah := by
  obtain ⟨h1, h2, h3⟩ := hl.nl
  have e : rd ah (.loc n) = some (.lst l) := by
    unfold rd
    simp only [D.frz, deepG, Nat.not_lt_zero, if_false, h, Cell.frz]
    rw [frzs_nl _ l h1]
  have e2 : rd ah (.str x) = some (.str x) := rfl
  refine ⟨false != l.any fun z => D.eqv z (.str x), ?_⟩
  · show pIsin false (.str x) (.loc n) ah = _
    have c : D.isData (.str x) = true ∧ D.areData l = true ∧ D.depth (.str x) ≤ 60 ∧ D.depths l ≤ 60 := ⟨rfl, h2, by show 0 ≤ 60; decide, by rw [h3]; decide⟩
    match x, e2, c with
    | [], e2, c => simp only [pIsin, e2, e]; exact if_pos c
    | [_], e2, c => simp only [pIsin, e2, e]; exact if_pos c
    | _ :: _ :: _, e2, c => simp only [pIsin, e2, e]; exact if_pos c
def All26 (w : List Nat) : Prop := ∀ c ∈ w, c ∈ L26
theorem nm_of {w : List Nat} (h : All26 w) (h1 : 1 ≤ w.length) (h8 : w.length ≤ 8) : nmB w = true := by
  unfold nmB
  rw [decide_eq_true h1, decide_eq_true h8, Bool.true_and, Bool.true_and, List.all_eq_true]
  exact fun c hc => decide_eq_true (h c hc)
theorem letter {j n : Nat} {m : Int} {ah : AH} (hp : PoolAt ah n) (hm : 0 < m) (hm2 : m ≤ 26) : ∃ c r ah', callF pr (j + 1) 6 [.loc n, .int m] ah = .ok (.int r) ah' ∧ Drawn n ah ah' ∧ c ∈ L26 ∧ prim .idx [.str L26, .int r] ah' = .ok (.str [c]) ah' := by
  obtain ⟨r, ah1, e, dr, r1, r2⟩ := call_draw (P := pr) (f := 6) rfl (j := j) (m := m) hp hm (by omega)
  obtain ⟨c, hc, hcm⟩ := at_int (l := L26) r1 (by show r < 26; omega)
  exact ⟨c, r, ah1, e, dr, hcm, pr_idxS hc⟩
theorem name_loop {j n : Nat} {tk sz : D} : ∀ {ds : List D} {w : List Nat} {o : Option D} {ah : AH}, PoolAt ah n → All26 w → w.length + ds.length ≤ 8 →
    ∃ w' o' ah', forL none (.name 5) (fun e a => evSs (cfgK pr (j + 1)) none (.cons (.asg (.name 4) (.op (.add false) (.cons (.var 4) (.cons (.op .idx (.cons (.var 2) (.cons (.call 6 (.cons (.var 0) (.cons (.con (.int 26)) .nil))) .nil))) .nil)))) .nil) e a) ds [some (.loc n), some tk, some (.str L26), some sz, some (.str w), o] ah =
      .nx [some (.loc n), some tk, some (.str L26), some sz, some (.str w'), o'] ah' ∧ Drawn n ah ah' ∧ w'.length = w.length + ds.length ∧ All26 w'
  | [], w, o, ah, hp, hw, hl => ⟨w, o, ah, rfl, Drawn.refl hp, rfl, hw⟩
  | d :: ds, w, o, ah, hp, hw, hl => by
    obtain ⟨c, r, ah1, e, dr, hc, ei⟩ := letter (j := j) hp (m := 26) (by omega) (by omega)
    rw [List.length_cons] at hl
    obtain ⟨w', o', ah2, e2, dr2, hl2, hw2⟩ := name_loop (j := j) (tk := tk) (sz := sz) (ds := ds) (w := w ++ [c]) (o := some d) dr.1 (fun z hz => (List.mem_append.mp hz).elim (hw z) fun q => by rw [List.mem_singleton.mp q]; exact hc) (by rw [List.length_append, List.length_singleton]; omega)
    refine ⟨w', o', ah2, ?_, dr.trans dr2, by rw [hl2, List.length_append, List.length_singleton, List.length_cons]; omega, hw2⟩
    unfold forL
    simp only [gdOk, if_true, M.assign, List.set_cons_succ, List.set_cons_zero]
    rw [x_nx (x_asg (x_op2 (x_var rfl) (x_op2 (x_var rfl) (x_call2 (x_var rfl) x_con e) ei) (pr_addS (by rw [List.length_singleton]; unfold SZ; omega)))), x_nil, RS.then_nx]
    exact e2
theorem call_name {j n m : Nat} {l : List D} {ah : AH} (hp : PoolAt ah n) (hne : n ≠ m) (hm : ah[m]? = some (.lst l)) (hl : AllS l) (h26 : l.length < 26) :
    ∃ w ah', callF pr (j + 2) 8 [.loc n, .loc m] ah = .ok (.str w) ah' ∧ Drawn n ah ah' ∧ nmB w = true := by
  obtain ⟨r0, ah1, e0, dr0, r1, r2⟩ := call_draw (P := pr) (f := 6) rfl (j := j) (m := 8) hp (by omega) (by omega)
  have hz : ∃ z : Int, prim .int [.bl (decide (1 + r0 = 8))] ah1 = .ok (.int z) ah1 ∧ 0 ≤ z ∧ z ≤ 1 := ⟨_, pr_intB, by split <;> omega, by split <;> omega⟩
  obtain ⟨z, ez, z1, z2⟩ := hz
  obtain ⟨c, r, ah2, e1, dr1, hc, ei⟩ := letter (j := j) dr0.1 (m := 26 - z) (by omega) (by omega)
  obtain ⟨w, o, ah3, e2, dr2, hlen, hw⟩ := name_loop (j := j) (tk := .loc m) (sz := .int (1 + r0)) (ds := rangeD 0 (1 + r0 - 1).toNat) (w := [c]) (o := none) dr1.1 (fun x hx => by rw [List.mem_singleton.mp hx]; exact hc) (by unfold rangeD; rw [List.length_map, List.length_range, List.length_singleton]; omega)
  have dr := (dr0.trans dr1).trans dr2
  have hm3 : ah3[m]? = some (.lst l) := by rw [dr.oth hne]; exact hm
  have hlen' : 1 ≤ w.length ∧ w.length ≤ 8 := by
    rw [hlen]
    unfold rangeD
    rw [List.length_map, List.length_range, List.length_singleton]
    omega
  obtain ⟨b, eb⟩ := pr_inC (x := w) hm3 hl
  obtain ⟨c2, hc2, hcm2⟩ := at_int (l := L26) (i := (l.length : Int)) (by omega) (by show (l.length : Int) < 26; omega)
  have bd : evSs (cfgK pr (j + 1)) none b8 (startE 6 [.loc n, .loc m]) ah = evSs (cfgK pr (j + 1)) none (csR (csR (csR (csR b8)))) [some (.loc n), some (.loc m), some (.str L26), some (.int (1 + r0)), some (.str w), o] ah3 := by
    show evSs (cfgK pr (j + 1)) none (.cons _ (.cons _ (.cons _ (.cons _ _)))) [some (.loc n), some (.loc m), none, none, none, none] ah = _
    rw [x_nx (x_asg x_con)]
    rw [x_nx (x_asg (x_op2 x_con (x_call2 (x_var rfl) x_con e0) pr_addI))]
    rw [x_nx (x_asg (x_op2 (x_var rfl) (x_call2 (x_var rfl) (x_op2 x_con (x_op1 (x_op2 (x_var rfl) x_con pr_eqI) ez) pr_sub) e1) ei))]
    show evSs (cfgK pr (j + 1)) none (.cons (.forS (.name 5) (.range1 (.op .sub (.cons (.var 3) (.cons (.con (.int 1)) .nil)))) _) _) [some (.loc n), some (.loc m), some (.str L26), some (.int (1 + r0)), some (.str [c]), none] ah2 = _
    rw [x_nx ((x_for (i_range (x_op2 (x_var rfl) x_con pr_sub) (by omega) (by omega))).trans e2)]
    rfl
  have nw : nmB w = true := nm_of hw hlen'.1 hlen'.2
  rw [callF_keep (sl := 6) (pa := 2) (b := b8) rfl rfl, bd]
  show ∃ w ah', finK (evSs (cfgK pr (j + 1)) none (.cons _ (.cons _ .nil)) _ ah3) = _ ∧ _
  have fin : ∃ q, evE (cfgK pr (j + 1)) none (.or (.op .isin (.cons (.var 4) (.cons (.var 1) .nil))) (.op .eq (.cons (.var 4) (.cons (.con (.str [115, 101, 108, 102])) .nil)))) [some (.loc n), some (.loc m), some (.str L26), some (.int (1 + r0)), some (.str w), o] ah3 = .ok (.bl q) ah3 := by
    cases b with
    | true => exact ⟨true, x_orT (x_op2 (x_var rfl) (x_var rfl) eb)⟩
    | false =>
      rw [x_orF (x_op2 (x_var rfl) (x_var rfl) eb)]
      exact ⟨_, x_op2 (x_var rfl) x_con pr_eqS⟩
  obtain ⟨q, eq⟩ := fin
  cases q with
  | true =>
    refine ⟨[122, 122, 122, 122, 122, 122, 122] ++ [c2], ah3, ?_, dr, nm_of (fun x hx => ?_) (by simp) (by simp)⟩
    · rw [x_rt (by rw [x_iteT eq, x_rt (x_ret (x_op2 x_con (x_op2 (x_var rfl) (x_op1 (x_var rfl) (pr_lenC hm3)) (pr_idxS hc2)) (pr_addS (by show 8 ≤ SZ; decide))))])]
      rfl
    · rcases List.mem_append.mp hx with h | h
      · have k : ∀ x ∈ [122, 122, 122, 122, 122, 122, 122], x ∈ L26 := by decide
        exact k x h
      · rw [List.mem_singleton.mp h]
        exact hcm2
  | false =>
    refine ⟨w, ah3, ?_, dr, nw⟩
    rw [x_nx (by rw [x_iteF eq, x_nil]), x_rt (x_ret (x_var rfl))]
    rfl
end SW
end

section
set_option Elab.async false
set_option linter.all false
set_option maxRecDepth 100000
set_option maxHeartbeats 1000000
/-! k53, plain: names, deeds -/
namespace SW
open M
/-- the heap: the pool, then these cells -/
def St1 (r : List Cell) (ah : AH) : Prop := ∃ g s c k, ah = poolC g s c k :: r ∧ AllI g ∧ AllI s
theorem St1.pool {r : List Cell} {ah : AH} (h : St1 r ah) : PoolAt ah 0 := by
  obtain ⟨g, s, c, k, rfl, h1, h2⟩ := h
  exact ⟨g, s, c, k, rfl, h1, h2⟩
theorem St1.drawn {r : List Cell} {ah ah' : AH} (h : St1 r ah) (d : Drawn 0 ah ah') : St1 r ah' := by
  obtain ⟨g, s, c, k, rfl, h1, h2⟩ := h
  obtain ⟨⟨g', s', c', k', h3, h4, h5⟩, x, rfl⟩ := d
  simp only [List.set_cons_zero, List.getElem?_cons_zero, Option.some.injEq] at h3
  subst h3
  exact ⟨g', s', c', k', rfl, h4, h5⟩
theorem St1.at1 {x : Cell} {r : List Cell} {ah : AH} (h : St1 (x :: r) ah) : ah[1]? = some x := by
  obtain ⟨g, s, c, k, rfl, h1, h2⟩ := h
  rfl
theorem names_loop {j : Nat} {cnt : D} : ∀ {ds : List D} {l : List D} {o : Option D} {ah : AH}, St1 [.lst l] ah → AllS l → l.length + ds.length < 26 →
    ∃ l' o' ah', forL none (.name 3) (fun e a => evSs (cfgK pr (j + 2)) none (.cons (.ex (.meth .list .append (.var 2) (.cons (.call 8 (.cons (.var 0) (.cons (.var 2) .nil))) .nil))) .nil) e a) ds [some (.loc 0), some cnt, some (.loc 1), o] ah =
      .nx [some (.loc 0), some cnt, some (.loc 1), o'] ah' ∧ St1 [.lst l'] ah' ∧ AllS l' ∧ l'.length = l.length + ds.length
  | [], l, o, ah, hs, hl, _ => ⟨l, o, ah, rfl, hs, hl, rfl⟩
  | d :: ds, l, o, ah, hs, hl, hz => by
    rw [List.length_cons] at hz
    obtain ⟨w, ah1, e, dr, nw⟩ := call_name (j := j) hs.pool (by decide) hs.at1 hl (by omega)
    have hs1 := hs.drawn dr
    have hap : ∃ ah2, prim .append [.loc 1, .str w] ah1 = .ok .non ah2 ∧ St1 [.lst (l ++ [.str w])] ah2 := by
      obtain ⟨g, s, c, k, rfl, h1, h2⟩ := hs1
      refine ⟨[poolC g s c k, .lst (l ++ [.str w])], ?_, g, s, c, k, rfl, h1, h2⟩
      show (if l.length < SZ then _ else _) = _
      rw [if_pos (by unfold SZ; omega)]
      rfl
    obtain ⟨ah2, ea, hs2⟩ := hap
    have hl2 : AllS (l ++ [.str w]) := fun x hx => (List.mem_append.mp hx).elim (hl x) fun q => by rw [List.mem_singleton.mp q]; exact ⟨w, rfl, nw⟩
    obtain ⟨l', o', ah3, e3, hs3, hl3, hz3⟩ := names_loop (j := j) (cnt := cnt) (ds := ds) (o := some d) hs2 hl2 (by rw [List.length_append, List.length_singleton]; omega)
    refine ⟨l', o', ah3, ?_, hs3, hl3, by rw [hz3, List.length_append, List.length_singleton, List.length_cons]; omega⟩
    unfold forL
    simp only [gdOk, if_true, M.assign, List.set_cons_succ, List.set_cons_zero]
    rw [x_nx (x_ex (x_meth1 (x_var rfl) (by simp only [isMT, hs.at1]) (x_call2 (x_var rfl) (x_var rfl) e) ea)), x_nil, RS.then_nx]
    exact e3
theorem call_names {j : Nat} {cnt : Int} {ah : AH} (hs : St1 [] ah) (h0 : 0 ≤ cnt) (h1 : cnt < 26) : ∃ l ah', callF pr (j + 3) 9 [.loc 0, .int cnt] ah = .ok (.loc 1) ah' ∧ St1 [.lst l] ah' ∧ AllS l ∧ (l.length : Int) = cnt := by
  obtain ⟨g, s, c, k, rfl, h2, h3⟩ := hs
  have hs1 : St1 [.lst []] [poolC g s c k, .lst []] := ⟨g, s, c, k, rfl, h2, h3⟩
  obtain ⟨l', o', ah3, e3, hs3, hl3, hz3⟩ := names_loop (j := j) (cnt := .int cnt) (ds := rangeD 0 cnt.toNat) (l := []) (o := none) hs1 (fun d hd => by cases hd) (by unfold rangeD; rw [List.length_map, List.length_range, List.length_nil]; omega)
  refine ⟨l', ah3, ?_, hs3, hl3, by rw [hz3]; unfold rangeD; rw [List.length_map, List.length_range, List.length_nil]; omega⟩
  rw [callF_keep (sl := 4) (pa := 2) (b := b9) rfl rfl]
  show finK (evSs (cfgK pr (j + 2)) none (.cons _ (.cons (.forS (.name 3) (.range1 (.var 1)) _) (.cons _ .nil))) [some (.loc 0), some (.int cnt), none, none] [poolC g s c k]) = _
  rw [x_nx (x_asg (x_lst x_es0 (by decide)))]
  show finK (evSs (cfgK pr (j + 2)) none (.cons (.forS (.name 3) (.range1 (.var 1)) _) (.cons _ .nil)) [some (.loc 0), some (.int cnt), some (.loc 1), none] [poolC g s c k, .lst []]) = _
  rw [x_nx ((x_for (i_range (x_var rfl) (by omega) (by omega))).trans e3), x_rt (x_ret (x_var rfl))]
  rfl
/-! ### deeds -/
inductive Deed where
  | edit (m : List Nat) (i : Nat) | fire (m : List Nat) | set (m w : List Nat) | reload
def sEdit : List Nat := [101, 100, 105, 116]
def sFire : List Nat := [102, 105, 114, 101]
def sSet : List Nat := [115, 101, 116]
def sReload : List Nat := [114, 101, 108, 111, 97, 100]
def Deed.d : Deed → D
  | .edit m i => .tup [.str sEdit, .str m, .int i]
  | .fire m => .tup [.str sFire, .str m]
  | .set m w => .tup [.str sSet, .str m, .str w]
  | .reload => .tup [.str sReload]
def Deed.Ok : Deed → Prop
  | .edit m i => nmB m = true ∧ i < 10
  | .fire m => nmB m = true
  | .set m w => nmB m = true ∧ nmB w = true
  | .reload => True
def GoodD (x : D) : Prop := ∃ e : Deed, x = e.d ∧ e.Ok
theorem call_deed {j : Nat} {m : Int} {l : List D} {ah : AH} (hs : St1 [.lst l] ah) (hl : AllS l) (h0 : l ≠ []) (h1 : l.length < 26) (hm : 0 < m) (hm2 : m ≤ 10) :
    ∃ x ah', callF pr (j + 3) 12 [.loc 0, .loc 1, .int m] ah = .ok x ah' ∧ St1 [.lst l] ah' ∧ GoodD x := by
  obtain ⟨r, ah1, e1, d1, r1, r2⟩ := call_draw (P := pr) (f := 6) rfl (j := j + 1) (m := 4) hs.pool (by omega) (by omega)
  have hs1 := hs.drawn d1
  obtain ⟨x2, ah2, e2, d2, x2m⟩ := call_pick (j := j) (d := .loc 1) hs1.pool (.inr ⟨1, rfl, hs1.at1⟩) (fun m h => by cases h; decide) h0 (by omega)
  obtain ⟨n2, rfl, k2⟩ := hl x2 x2m
  have hs2 := hs1.drawn d2
  rw [callF_keep (sl := 4) (pa := 3) (b := b12) rfl rfl]
  show ∃ x ah', finK (evSs (cfgK pr (j + 2)) none (.cons _ (.cons (.ite _ _ .nil) (.cons (.ite _ _ .nil) (.cons (.ite _ _ .nil) (.cons _ .nil))))) [some (.loc 0), some (.loc 1), some (.int m), none] ah) = _ ∧ _
  have st : ∀ ss, evSs (cfgK pr (j + 2)) none (.cons (.asg (.name 3) (.call 6 (.cons (.var 0) (.cons (.con (.int 4)) .nil)))) ss) [some (.loc 0), some (.loc 1), some (.int m), none] ah = evSs (cfgK pr (j + 2)) none ss [some (.loc 0), some (.loc 1), some (.int m), some (.int r)] ah1 := fun ss => by
    rw [x_nx (x_asg (x_call2 (x_var rfl) x_con e1))]
    rfl
  rw [st]
  have tst : ∀ i b, decide (r = i) = b → evE (cfgK pr (j + 2)) none (.op .eq (.cons (.var 3) (.cons (.con (.int i)) .nil))) [some (.loc 0), some (.loc 1), some (.int m), some (.int r)] ah1 = .ok (.bl b) ah1 := fun i b hb => by
    rw [← hb]
    exact x_op2 (x_var rfl) x_con pr_eqI
  by_cases c0 : r = 0
  · obtain ⟨r3, ah3, e3, d3, q1, q2⟩ := call_draw (P := pr) (f := 6) rfl (j := j + 1) (m := m) hs2.pool hm (by omega)
    refine ⟨.tup [.str sEdit, .str n2, .int r3], ah3, ?_, hs2.drawn d3, .edit n2 r3.toNat, ?_, k2, by omega⟩
    · rw [x_rt (by rw [x_iteT (tst 0 true (decide_eq_true c0)), x_rt (x_ret (x_tup (x_es x_con (x_es (x_call2 (x_var rfl) (x_var rfl) e2) (x_es (x_call2 (x_var rfl) (x_var rfl) e3) x_es0))) (by show 3 ≤ SZ; decide)))])]
      rfl
    · show D.tup [.str sEdit, .str n2, .int r3] = .tup [.str sEdit, .str n2, .int (r3.toNat : Int)]
      rw [Int.toNat_of_nonneg q1]
  · rw [x_nx (by rw [x_iteF (tst 0 false (decide_eq_false c0)), x_nil])]
    by_cases c1 : r = 1
    · refine ⟨.tup [.str sFire, .str n2], ah2, ?_, hs2, .fire n2, rfl, k2⟩
      rw [x_rt (by rw [x_iteT (tst 1 true (decide_eq_true c1)), x_rt (x_ret (x_tup (x_es x_con (x_es (x_call2 (x_var rfl) (x_var rfl) e2) x_es0)) (by show 2 ≤ SZ; decide)))])]
      rfl
    · rw [x_nx (by rw [x_iteF (tst 1 false (decide_eq_false c1)), x_nil])]
      by_cases c2 : r = 2
      · obtain ⟨x3, ah3, e3, d3, x3m⟩ := call_pick (j := j) (d := .loc 1) hs2.pool (.inr ⟨1, rfl, hs2.at1⟩) (fun m h => by cases h; decide) h0 (by omega)
        obtain ⟨n3, rfl, k3⟩ := hl x3 x3m
        refine ⟨.tup [.str sSet, .str n2, .str n3], ah3, ?_, hs2.drawn d3, .set n2 n3, rfl, k2, k3⟩
        rw [x_rt (by rw [x_iteT (tst 2 true (decide_eq_true c2)), x_rt (x_ret (x_tup (x_es x_con (x_es (x_call2 (x_var rfl) (x_var rfl) e2) (x_es (x_call2 (x_var rfl) (x_var rfl) e3) x_es0))) (by show 3 ≤ SZ; decide)))])]
        rfl
      · rw [x_nx (by rw [x_iteF (tst 2 false (decide_eq_false c2)), x_nil])]
        refine ⟨.tup [.str sReload], ah1, ?_, hs1, .reload, rfl, trivial⟩
        rw [x_rt (x_ret (x_tup (x_es x_con x_es0) (by show 1 ≤ SZ; decide)))]
        rfl
end SW
end

section
set_option Elab.async false
set_option linter.all false
set_option maxRecDepth 100000
set_option maxHeartbeats 1000000
/-! k53, plain: lines -/
namespace SW
open M
def toS : D → D
  | .int i => .str (intL i)
  | d => d
def Deed.ps : Deed → List (List Nat)
  | .edit m i => [sEdit, m, [48 + i]]
  | .fire m => [sFire, m]
  | .set m w => [sSet, m, w]
  | .reload => [sReload]
def Deed.ln (e : Deed) : List Nat := TL.joinL [32] e.ps
def Deed.xs : Deed → List D
  | .edit m i => [.str sEdit, .str m, .int i]
  | .fire m => [.str sFire, .str m]
  | .set m w => [.str sSet, .str m, .str w]
  | .reload => [.str sReload]
theorem Deed.d_xs (e : Deed) : e.d = .tup e.xs := by cases e <;> rfl
theorem intL10 : ∀ i : Nat, i < 10 → intL (i : Int) = [48 + i] := by
  intro i hi
  have : i = 0 ∨ i = 1 ∨ i = 2 ∨ i = 3 ∨ i = 4 ∨ i = 5 ∨ i = 6 ∨ i = 7 ∨ i = 8 ∨ i = 9 := by omega
  rcases this with h | h | h | h | h | h | h | h | h | h <;> (subst h; decide +kernel)
theorem Deed.toS (e : Deed) (h : e.Ok) : e.xs.map toS = e.ps.map D.str := by
  cases e with
  | edit m i =>
    show [D.str sEdit, D.str m, D.str (intL (i : Int))] = _
    rw [intL10 i h.2]
    rfl
  | _ => rfl
theorem strs_map (l : List (List Nat)) : strsOf (l.map D.str) = some l := by
  induction l with
  | nil => rfl
  | cons x l ih =>
    show (match strsOf (l.map D.str) with
      | some l => some (x :: l)
      | none => none) = _
    rw [ih]
theorem pr_join {s : List Nat} {l : List (List Nat)} {ah : AH} (h : (l.map List.length).sum + l.length * s.length ≤ SZ) : prim .join [.str s, .lst (l.map D.str)] ah = .ok (.str (TL.joinL s l)) ah := by
  show pJoin (.str s) (.lst (l.map D.str)) ah = _
  simp only [pJoin, seqOf, strs_map]
  exact if_pos h
theorem nm_len {x : List Nat} (h : nmB x = true) : x.length ≤ 8 ∧ 1 ≤ x.length ∧ All26 x := by
  unfold nmB at h
  simp only [Bool.and_eq_true, decide_eq_true_eq, List.all_eq_true] at h
  exact ⟨h.2.1, h.1, h.2.2⟩
theorem Deed.size (e : Deed) (h : e.Ok) : (e.ps.map List.length).sum + e.ps.length * 1 ≤ 30 := by
  cases e with
  | edit m i => have := (nm_len h.1).1; simp [Deed.ps, sEdit]; omega
  | fire m => have := (nm_len h).1; simp [Deed.ps, sFire]; omega
  | set m w => have := (nm_len h.1).1; have := (nm_len h.2).1; simp [Deed.ps, sSet]; omega
  | reload => decide
theorem Deed.lnlen (e : Deed) (h : e.Ok) : e.ln.length ≤ 30 := by
  have h1 := joinL_len [32] e.ps
  have h2 := e.size h
  unfold Deed.ln
  simp only [List.length_singleton] at h1
  omega
theorem nm_no {x : List Nat} {c : Nat} (h : nmB x = true) (hc : c ∉ L26) : c ∉ x := fun z => hc ((nm_len h).2.2 c z)
theorem Deed.no32 (e : Deed) (h : e.Ok) : ∀ p ∈ e.ps, 32 ∉ p := by
  have n32 : 32 ∉ L26 := by decide
  cases e with
  | edit m i =>
    intro p hp
    simp only [Deed.ps, List.mem_cons, List.not_mem_nil, or_false] at hp
    rcases hp with rfl | rfl | rfl
    · decide
    · exact nm_no h.1 n32
    · simp only [List.mem_singleton]; omega
  | fire m =>
    intro p hp
    simp only [Deed.ps, List.mem_cons, List.not_mem_nil, or_false] at hp
    rcases hp with rfl | rfl
    · decide
    · exact nm_no h n32
  | set m w =>
    intro p hp
    simp only [Deed.ps, List.mem_cons, List.not_mem_nil, or_false] at hp
    rcases hp with rfl | rfl | rfl
    · decide
    · exact nm_no h.1 n32
    · exact nm_no h.2 n32
  | reload =>
    intro p hp
    simp only [Deed.ps, List.mem_cons, List.not_mem_nil, or_false] at hp
    rcases hp with rfl
    decide
/-- the parts' texts, joined: in any context -/
theorem join_ev {G : Cfg} {cx : Option Ex} {env : Env1} {ah : AH} {v i : Nat} (e : Deed) (h : e.Ok) (hv : env[v]? = some (some e.d)) (hi : i < env.length) :
    evE G cx (.meth .str .join (.con (.str [32])) (.cons (.comp false (.name i) (.seq (.var v)) .nil (.op .str (.cons (.var i) .nil)) [i]) .nil)) env ah = .ok (.str e.ln) ah := by
  rw [e.d_xs] at hv
  have ev : ∀ d ∈ e.xs, prim .str [d] ah = .ok (SW.toS d) ah := by
    cases e with
    | edit m k =>
      intro d hd
      simp only [Deed.xs, List.mem_cons, List.not_mem_nil, or_false] at hd
      rcases hd with rfl | rfl | rfl
      · rfl
      · rfl
      · show (if ((k : Int)).natAbs < 2 ^ 64 then _ else _) = _
        have := h.2
        rw [if_pos (by omega)]
        rfl
    | fire m =>
      intro d hd
      simp only [Deed.xs, List.mem_cons, List.not_mem_nil, or_false] at hd
      rcases hd with rfl | rfl <;> rfl
    | set m w =>
      intro d hd
      simp only [Deed.xs, List.mem_cons, List.not_mem_nil, or_false] at hd
      rcases hd with rfl | rfl | rfl <;> rfl
    | reload =>
      intro d hd
      simp only [Deed.xs, List.mem_cons, List.not_mem_nil, or_false] at hd
      rcases hd with rfl
      rfl
  have cmp := x_comp (G := G) (cx := cx) (env := env) (ah := ah) (i := i) (ci := .seq (.var v)) (cond := .nil) (elt := .op .str (.cons (.var i) .nil)) (own := [i]) (ds := e.xs) (ah1 := ah) (p := fun _ => true) (f := SW.toS) (i_seqT (x_var hv)) (fun d hd => by simp only [evC]) fun d hd _ => by
    refine x_op1 (x_var ?_) (ev d hd)
    show (((wipeE env []).set i none).set i (some d))[i]? = _
    rw [List.set_set]
    exact List.getElem?_set_self hi
  have ef : (e.xs.filter fun _ => true) = e.xs := List.filter_eq_self.mpr fun _ _ => rfl
  rw [ef, e.toS h] at cmp
  have hz := e.size h
  exact x_meth1 x_con rfl cmp (pr_join (by rw [List.length_singleton]; unfold SZ; omega))
theorem call_line {j : Nat} {ah : AH} (e : Deed) (h : e.Ok) : callF pr (j + 1) 11 [e.d] ah = .ok (.str e.ln) ah := by
  have hr : rds ah [e.d] = some [e.d] := by
    unfold rds
    refine frzs_nl _ _ ?_
    cases e <;> rfl
  rw [callF_pure (sl := 2) (pa := 1) (b := b11) (es := [e.d]) rfl rfl hr]
  have key : evSs (cfgK pr j) none b11 (startE 2 [e.d]) [] = .ret (.str e.ln) [] := by
    show evSs (cfgK pr j) none (.cons _ .nil) [some e.d, none] [] = _
    rw [x_rt (x_ret (join_ev e h rfl (by simp)))]
  rw [key]
  cases e <;> rfl
end SW
end

section
set_option Elab.async false
set_option linter.all false
set_option maxRecDepth 100000
set_option maxHeartbeats 1000000
/-! k53, plain: a line is read -/
namespace SW
open M
theorem strs_nl (l : List (List Nat)) : D.noLocs (l.map D.str) = true ∧ D.areData (l.map D.str) = true ∧ D.depths (l.map D.str) = 0 := by
  induction l with
  | nil => exact ⟨rfl, rfl, rfl⟩
  | cons x l ih =>
    refine ⟨?_, ?_, ?_⟩
    · simp only [List.map_cons, D.noLocs, D.noLoc, ih.1, Bool.and_true]
    · simp only [List.map_cons, D.areData, D.isData, ih.2.1, Bool.and_true]
    · simp only [List.map_cons, D.depths, D.depth, ih.2.2]; rfl
theorem eqvs_strs : ∀ (l k : List (List Nat)), D.eqvs (l.map D.str) (k.map D.str) = decide (l = k)
  | [], [] => rfl
  | [], _ :: _ => rfl
  | _ :: _, [] => rfl
  | x :: l, y :: k => by
    simp only [List.map_cons, D.eqvs, D.eqv, eqvs_strs l k, List.cons.injEq, Bool.decide_and]
theorem pr_eqT {l k : List (List Nat)} {ah : AH} : prim .eq [.tup (l.map D.str), .tup (k.map D.str)] ah = .ok (.bl (decide (l = k))) ah := by
  show onData (fun d e => .bl (D.eqv d e)) (.tup (l.map D.str)) (.tup (k.map D.str)) ah = _
  obtain ⟨a1, a2, a3⟩ := strs_nl l
  obtain ⟨b1, b2, b3⟩ := strs_nl k
  unfold onData rd
  simp only [D.frz, frzs_nl _ _ a1, frzs_nl _ _ b1, D.isData, a2, b2, D.depth, a3, b3, D.eqv, eqvs_strs]
  rfl
def sI (p : List Nat) : Int := match p with
  | [c] => (c : Int) - 48
  | _ => 0
/-- what read_deed makes of a line's parts -/
def rdP (ps : List (List Nat)) : D := match ps with
  | [a] => if a = sReload then .tup [.str a] else .non
  | [a, b] => if a = sFire ∧ nmB b = true then .tup [.str a, .str b] else .non
  | [a, b, c] => if nmB b = true then (if a = sEdit ∧ digB c = true then .tup [.str sEdit, .str b, .int (sI c)] else if a = sSet ∧ nmB c = true then .tup [.str a, .str b, .str c] else .non) else .non
  | _ => .non
theorem atS {l : List (List Nat)} {k : Nat} {a : List Nat} (h : l[k]? = some a) : atL (l.map D.str) (k : Int) = some (.str a) := at_nat (by rw [List.getElem?_map, h]; rfl)
theorem pr_split {m : Bool} {x : List Nat} {c : Nat} {ah : AH} (h : x.length + 2 ≤ SZ) (hc : c < 256) : prim (.split m) [.str x, .str [c]] ah = mkL m ((TL.spl [c] 0 [] x).map D.str) ah := by
  show (if x.length + 2 ≤ SZ ∧ c < 256 then _ else _) = _
  rw [if_pos ⟨h, hc⟩]
theorem rd_body {j : Nat} {x : List Nat} {ps : List (List Nat)} (hp : TL.spl [32] 0 [] x = ps) (hz : x.length + 2 ≤ SZ) (hne : ps ≠ []) : evSs (cfgK pr (j + 1)) none b3 (startE 2 [.str x]) [] = .ret (rdP ps) [] := by
  show evSs (cfgK pr (j + 1)) none (.cons _ (.cons (.ite _ _ .nil) (.cons (.ite _ _ .nil) (.cons (.ite _ _ .nil) (.cons (.ite _ _ .nil) (.cons (.ite _ _ .nil) (.cons _ .nil))))))) [some (.str x), none] [] = _
  have sp : prim (.split false) [.str x, .str [32]] [] = .ok (.lst (ps.map D.str)) [] := by
    rw [pr_split hz (by decide), hp]
    rfl
  have s1 : ∀ ss, evSs (cfgK pr (j + 1)) none (.cons (.asg (.name 1) (.op .tuple (.cons (.meth .str (.split false) (.var 0) (.cons (.con (.str [32])) .nil)) .nil))) ss) [some (.str x), none] [] = evSs (cfgK pr (j + 1)) none ss [some (.str x), some (.tup (ps.map D.str))] [] := fun ss => by
    rw [x_nx (x_asg (x_op1 (x_meth1 (x_var rfl) rfl x_con sp) rfl))]
    rfl
  rw [s1]
  have ln : ∀ {i : Int} {b}, decide ((ps.length : Int) = i) = b → evE (cfgK pr (j + 1)) none (.op .eq (.cons (.op .len (.cons (.var 1) .nil)) (.cons (.con (.int i)) .nil))) [some (.str x), some (.tup (ps.map D.str))] [] = .ok (.bl b) [] := fun {i b} hb => by
    rw [← hb]
    have := x_op2 (G := cfgK pr (j + 1)) (cx := none) (env := [some (.str x), some (.tup (ps.map D.str))]) (ah := []) (x_op1 (x_var (i := 1) rfl) (pr_lenT (ah := []))) (x_con (d := .int i)) pr_eqI
    rw [List.length_map] at this
    exact this
  have ln3 : ∀ {b}, decide ((ps.length : Int) = 3) = b → evE (cfgK pr (j + 1)) none (.op .ne (.cons (.op .len (.cons (.var 1) .nil)) (.cons (.con (.int 3)) .nil))) [some (.str x), some (.tup (ps.map D.str))] [] = .ok (.bl (!b)) [] := fun {b} hb => by
    rw [← hb]
    have := x_op2 (G := cfgK pr (j + 1)) (cx := none) (env := [some (.str x), some (.tup (ps.map D.str))]) (ah := []) (x_op1 (x_var (i := 1) rfl) (pr_lenT (ah := []))) (x_con (d := .int 3)) pr_neI
    rw [List.length_map] at this
    exact this
  have ix : ∀ {k : Nat} {a : List Nat}, ps[k]? = some a → evE (cfgK pr (j + 1)) none (.op .idx (.cons (.var 1) (.cons (.con (.int (k : Int))) .nil))) [some (.str x), some (.tup (ps.map D.str))] [] = .ok (.str a) [] := fun {k a} h => x_op2 (x_var rfl) x_con (pr_idxT (atS h))
  have re : ∀ {b}, decide (ps = [sReload]) = b → evE (cfgK pr (j + 1)) none (.op .eq (.cons (.var 1) (.cons (.tup (.cons (.con (.str [114, 101, 108, 111, 97, 100])) .nil)) .nil))) [some (.str x), some (.tup (ps.map D.str))] [] = .ok (.bl b) [] := fun {b} hb => by
    rw [← hb]
    exact x_op2 (x_var rfl) (x_tup (x_es x_con x_es0) (by show 1 ≤ SZ; decide)) (pr_eqT (k := [sReload]))
  have w0 : ∀ {k : Nat} {a w : List Nat} {b}, ps[k]? = some a → decide (a = w) = b → evE (cfgK pr (j + 1)) none (.op .eq (.cons (.op .idx (.cons (.var 1) (.cons (.con (.int (k : Int))) .nil))) (.cons (.con (.str w)) .nil))) [some (.str x), some (.tup (ps.map D.str))] [] = .ok (.bl b) [] := fun {k a w b} h hb => by
    rw [← hb]
    exact x_op2 (ix h) x_con pr_eqS
  have nm : ∀ {k : Nat} {a : List Nat}, ps[k]? = some a → evE (cfgK pr (j + 1)) none (.call 0 (.cons (.op .idx (.cons (.var 1) (.cons (.con (.int (k : Int))) .nil))) .nil)) [some (.str x), some (.tup (ps.map D.str))] [] = .ok (.bl (nmB a)) [] := fun {k a} h => x_call1 (ix h) call_isname
  have dg : ∀ {k : Nat} {a : List Nat}, ps[k]? = some a → evE (cfgK pr (j + 1)) none (.call 1 (.cons (.op .idx (.cons (.var 1) (.cons (.con (.int (k : Int))) .nil))) .nil)) [some (.str x), some (.tup (ps.map D.str))] [] = .ok (.bl (digB a)) [] := fun {k a} h => x_call1 (ix h) call_isdigit
  match ps, hne, @ln, @ln3, @ix, @re, @w0, @nm, @dg with
  | [a], _, ln, ln3, ix, re, w0, nm, dg =>
    by_cases h : a = sReload
    · subst h
      rw [x_rt (by rw [x_iteT (re (decide_eq_true rfl)), x_rt (x_ret (x_var rfl))])]
      rfl
    · rw [x_nx (by rw [x_iteF (re (decide_eq_false (by simpa using h))), x_nil])]
      rw [x_nx (by rw [x_iteF (x_andF (ln (by rfl))), x_nil])]
      rw [x_rt (by rw [x_iteT (x_orT (ln3 (by rfl))), x_rt (x_ret x_con)])]
      show _ = RS.ret (if a = sReload then _ else _) _
      rw [if_neg h]
  | [a, b], _, ln, ln3, ix, re, w0, nm, dg =>
    have f0 : ∀ {q}, decide (a = sFire) = q → evE (cfgK pr (j + 1)) none (.op .eq (.cons (.op .idx (.cons (.var 1) (.cons (.con (.int 0)) .nil))) (.cons (.con (.str [102, 105, 114, 101])) .nil))) [some (.str x), some (.tup ([a, b].map D.str))] [] = .ok (.bl q) [] := fun {q} hq => w0 (k := 0) rfl hq
    have n1 : evE (cfgK pr (j + 1)) none (.call 0 (.cons (.op .idx (.cons (.var 1) (.cons (.con (.int 1)) .nil))) .nil)) [some (.str x), some (.tup ([a, b].map D.str))] [] = .ok (.bl (nmB b)) [] := nm (k := 1) rfl
    rw [x_nx (by rw [x_iteF (re (decide_eq_false (by simp))), x_nil])]
    show _ = RS.ret (if a = sFire ∧ nmB b = true then _ else _) _
    have fin : evSs (cfgK pr (j + 1)) none (csR (csR (csR b3))) [some (.str x), some (.tup ([a, b].map D.str))] [] = .ret .non [] := by
      show evSs (cfgK pr (j + 1)) none (.cons (.ite _ _ .nil) _) _ _ = _
      rw [x_rt (by rw [x_iteT (x_orT (ln3 (by rfl))), x_rt (x_ret x_con)])]
    by_cases h : a = sFire
    · cases hb : nmB b with
      | true =>
        rw [if_pos ⟨h, rfl⟩, x_rt (by rw [x_iteT (by rw [x_andT (ln (by rfl)), x_andT (f0 (decide_eq_true h))]; exact n1.trans (by rw [hb])), x_rt (x_ret (x_var rfl))])]
        rfl
      | false =>
        rw [if_neg (fun z => by cases z.2), x_nx (by rw [x_iteF (by rw [x_andT (ln (by rfl)), x_andT (f0 (decide_eq_true h))]; exact n1.trans (by rw [hb])), x_nil])]
        exact fin
    · rw [if_neg (fun z => h z.1), x_nx (by rw [x_iteF (by rw [x_andT (ln (by rfl))]; exact x_andF (f0 (decide_eq_false h))), x_nil])]
      exact fin
  | [a, b, c], _, ln, ln3, ix, re, w0, nm, dg =>
    have e0 : ∀ {q}, decide (a = sEdit) = q → evE (cfgK pr (j + 1)) none (.op .eq (.cons (.op .idx (.cons (.var 1) (.cons (.con (.int 0)) .nil))) (.cons (.con (.str [101, 100, 105, 116])) .nil))) [some (.str x), some (.tup ([a, b, c].map D.str))] [] = .ok (.bl q) [] := fun {q} hq => w0 (k := 0) rfl hq
    have s0 : ∀ {q}, decide (a = sSet) = q → evE (cfgK pr (j + 1)) none (.op .eq (.cons (.op .idx (.cons (.var 1) (.cons (.con (.int 0)) .nil))) (.cons (.con (.str [115, 101, 116])) .nil))) [some (.str x), some (.tup ([a, b, c].map D.str))] [] = .ok (.bl q) [] := fun {q} hq => w0 (k := 0) rfl hq
    have n1 : evE (cfgK pr (j + 1)) none (.call 0 (.cons (.op .idx (.cons (.var 1) (.cons (.con (.int 1)) .nil))) .nil)) [some (.str x), some (.tup ([a, b, c].map D.str))] [] = .ok (.bl (nmB b)) [] := nm (k := 1) rfl
    have n2 : evE (cfgK pr (j + 1)) none (.call 0 (.cons (.op .idx (.cons (.var 1) (.cons (.con (.int 2)) .nil))) .nil)) [some (.str x), some (.tup ([a, b, c].map D.str))] [] = .ok (.bl (nmB c)) [] := nm (k := 2) rfl
    have g2 : evE (cfgK pr (j + 1)) none (.call 1 (.cons (.op .idx (.cons (.var 1) (.cons (.con (.int 2)) .nil))) .nil)) [some (.str x), some (.tup ([a, b, c].map D.str))] [] = .ok (.bl (digB c)) [] := dg (k := 2) rfl
    have i1 : evE (cfgK pr (j + 1)) none (.op .idx (.cons (.var 1) (.cons (.con (.int 1)) .nil))) [some (.str x), some (.tup ([a, b, c].map D.str))] [] = .ok (.str b) [] := ix (k := 1) rfl
    have i2 : evE (cfgK pr (j + 1)) none (.op .idx (.cons (.var 1) (.cons (.con (.int 2)) .nil))) [some (.str x), some (.tup ([a, b, c].map D.str))] [] = .ok (.str c) [] := ix (k := 2) rfl
    rw [x_nx (by rw [x_iteF (re (decide_eq_false (by simp))), x_nil])]
    rw [x_nx (by rw [x_iteF (x_andF (ln (by rfl))), x_nil])]
    show _ = RS.ret (if nmB b = true then _ else _) _
    cases hb : nmB b with
    | false =>
      rw [if_neg Bool.false_ne_true, x_rt (by rw [x_iteT (by rw [x_orF (ln3 (b := true) (by rfl))]; exact x_not (n1.trans (by rw [hb]))), x_rt (x_ret x_con)])]
    | true =>
      rw [if_pos rfl, x_nx (by rw [x_iteF (by rw [x_orF (ln3 (b := true) (by rfl))]; exact x_not (n1.trans (by rw [hb]))), x_nil])]
      have fin : a ≠ sEdit ∨ digB c = false → evSs (cfgK pr (j + 1)) none (csR (csR (csR (csR (csR b3))))) [some (.str x), some (.tup ([a, b, c].map D.str))] [] = .ret (if a = sSet ∧ nmB c = true then .tup [.str a, .str b, .str c] else .non) [] := fun _ => by
        show evSs (cfgK pr (j + 1)) none (.cons (.ite _ _ .nil) (.cons _ .nil)) _ _ = _
        by_cases h : a = sSet
        · cases hc : nmB c with
          | true =>
            rw [if_pos ⟨h, rfl⟩, x_rt (by rw [x_iteT (by rw [x_andT (s0 (decide_eq_true h))]; exact n2.trans (by rw [hc])), x_rt (x_ret (x_var rfl))])]
            rfl
          | false => rw [if_neg (fun z => by cases z.2), x_nx (by rw [x_iteF (by rw [x_andT (s0 (decide_eq_true h))]; exact n2.trans (by rw [hc])), x_nil]), x_rt (x_ret x_con)]
        · rw [if_neg (fun z => h z.1), x_nx (by rw [x_iteF (x_andF (s0 (decide_eq_false h))), x_nil]), x_rt (x_ret x_con)]
      by_cases h : a = sEdit
      · cases hc : digB c with
        | true =>
          rw [if_pos ⟨h, rfl⟩]
          obtain ⟨q, rfl, hq⟩ : ∃ q, c = [q] ∧ q ∈ D10 := by
            match c, hc with
            | [q], hc => exact ⟨q, rfl, of_decide_eq_true hc⟩
          have pi : prim .int [.str [q]] [] = .ok (.int (sI [q])) [] := by
            have k10 : ∀ q ∈ D10, 48 ≤ q ∧ q ≤ 57 := by decide
            have := k10 q hq
            show (if 48 ≤ q ∧ q ≤ 57 then _ else _) = _
            rw [if_pos this]
            rfl
          rw [x_rt (by rw [x_iteT (by rw [x_andT (e0 (decide_eq_true h))]; exact g2.trans (by rw [hc])), x_rt (x_ret (x_tup (x_es x_con (x_es i1 (x_es (x_op1 i2 pi) x_es0))) (by show 3 ≤ SZ; decide)))])]
          rfl
        | false =>
          rw [if_neg (fun z => by cases z.2), x_nx (by rw [x_iteF (by rw [x_andT (e0 (decide_eq_true h))]; exact g2.trans (by rw [hc])), x_nil])]
          exact fin (.inr hc)
      · rw [if_neg (fun z => h z.1), x_nx (by rw [x_iteF (x_andF (e0 (decide_eq_false h))), x_nil])]
        exact fin (.inl h)
  | a :: b :: c :: d :: r, _, ln, ln3, ix, re, w0, nm, dg =>
    have l2 : decide ((((a :: b :: c :: d :: r).length : Nat) : Int) = 2) = false := decide_eq_false (by simp only [List.length_cons]; omega)
    have l3 : decide ((((a :: b :: c :: d :: r).length : Nat) : Int) = 3) = false := decide_eq_false (by simp only [List.length_cons]; omega)
    rw [x_nx (by rw [x_iteF (re (decide_eq_false (by simp))), x_nil])]
    rw [x_nx (by rw [x_iteF (x_andF (ln l2)), x_nil])]
    rw [x_rt (by rw [x_iteT (x_orT (ln3 l3)), x_rt (x_ret x_con)])]
    rfl
theorem spl_ne {c : Nat} : ∀ (x acc : List Nat) (k : Nat), TL.spl [c] k acc x ≠ []
  | [], acc, k => by cases k <;> simp [TL.spl]
  | a :: x, acc, 0 => by
    unfold TL.spl
    split
    · simp
    · exact spl_ne x _ _
  | a :: x, acc, k + 1 => by
    unfold TL.spl
    exact spl_ne x _ _
theorem call_rd {j : Nat} {x : List Nat} {ah : AH} (hz : x.length + 2 ≤ SZ) : callF pr (j + 2) 3 [.str x] ah = .ok (rdP (TL.spl [32] 0 [] x)) ah := by
  rw [callF_pure (sl := 2) (pa := 1) (b := b3) (es := [.str x]) rfl rfl rfl, rd_body rfl hz (spl_ne x [] 0)]
  have fl : ∀ ps, D.noLoc (rdP ps) = true := fun ps => by
    unfold rdP
    split <;> (repeat' split) <;> rfl
  show finP true ah _ = _
  simp only [finP, outD, rd, frz_nl _ _ (fl _), true_or, if_true]
end SW
end

section
set_option Elab.async false
set_option linter.all false
set_option maxRecDepth 100000
set_option maxHeartbeats 1000000
/-! k53, plain: a text is read -/
namespace SW
open M
def rdl (l : List Nat) : D := rdP (TL.spl [32] 0 [] l)
theorem rdP_or (ps : List (List Nat)) : rdP ps = .non ∨ ∃ xs, rdP ps = .tup xs ∧ D.noLocs xs = true := by
  unfold rdP
  split <;> (repeat' split) <;> first | exact .inl rfl | exact .inr ⟨_, rfl, rfl⟩
/-- the first line that is no deed -/
def firstN : List (List Nat) → Option Nat
  | [] => none
  | l :: ls => match rdl l with
    | .non => some 0
    | _ => (firstN ls).map (· + 1)
def enF (i : Nat) (x : D) : D := D.tup [.int (i : Int), x]
theorem enum_range (xs : List D) : enumD xs = (List.range' 0 xs.length).zipWith enF xs := by
  unfold enumD
  rw [List.range_eq_range']
  rfl
theorem reads_loop {j : Nat} {t : D} : ∀ {ls : List (List Nat)} {k : Nat} {acc : List D} {o2 o3 o4 : Option D}, (∀ l ∈ ls, l.length + 2 ≤ SZ) → acc.length + ls.length ≤ 1000 →
    (firstN ls = none → ∃ o2' o3' o4', forL none (.tup (.cons (.name 2) (.cons (.name 3) .nil))) (fun e a => evSs (cfgK pr (j + 2)) none (.cons (.asg (.name 4) (.call 3 (.cons (.var 3) .nil))) (.cons (.ite (.op .isN (.cons (.var 4) .nil)) (.cons (.raise 0 (.cons (.op (.add false) (.cons (.var 2) (.cons (.con (.int 1)) .nil))) .nil)) .nil) .nil) (.cons (.ex (.meth .list .append (.var 1) (.cons (.var 4) .nil))) .nil))) e a) ((List.range' k ls.length).zipWith enF (ls.map D.str)) [some t, some (.loc 0), o2, o3, o4] [.lst acc] =
        .nx [some t, some (.loc 0), o2', o3', o4'] [.lst (acc ++ ls.map rdl)]) ∧
    (∀ i, firstN ls = some i → ∃ env h, forL none (.tup (.cons (.name 2) (.cons (.name 3) .nil))) (fun e a => evSs (cfgK pr (j + 2)) none (.cons (.asg (.name 4) (.call 3 (.cons (.var 3) .nil))) (.cons (.ite (.op .isN (.cons (.var 4) .nil)) (.cons (.raise 0 (.cons (.op (.add false) (.cons (.var 2) (.cons (.con (.int 1)) .nil))) .nil)) .nil) .nil) (.cons (.ex (.meth .list .append (.var 1) (.cons (.var 4) .nil))) .nil))) e a) ((List.range' k ls.length).zipWith enF (ls.map D.str)) [some t, some (.loc 0), o2, o3, o4] [.lst acc] =
        .exc ⟨0, ["line"], [.int ((k : Int) + i + 1)]⟩ env h)
  | [], k, acc, o2, o3, o4, _, _ => ⟨fun _ => ⟨o2, o3, o4, by show RS.nx _ [Cell.lst acc] = RS.nx _ [Cell.lst (acc ++ [])]; rw [List.append_nil]⟩, (fun i h => by cases h)⟩
  | l :: ls, k, acc, o2, o3, o4, hz, hn => by
    rw [List.length_cons] at hn
    have ec : callF pr (j + 2) 3 [.str l] [.lst acc] = .ok (rdl l) [.lst acc] := call_rd (hz l List.mem_cons_self)
    have as : M.assign (.tup (.cons (.name 2) (.cons (.name 3) .nil))) (enF k (.str l)) [some t, some (.loc 0), o2, o3, o4] = some [some t, some (.loc 0), some (.int k), some (.str l), o4] := rfl
    have zs : (List.range' k (l :: ls).length).zipWith enF ((l :: ls).map D.str) = enF k (.str l) :: (List.range' (k + 1) ls.length).zipWith enF (ls.map D.str) := by
      rw [List.length_cons, List.range'_succ, List.map_cons, List.zipWith_cons_cons]
    rw [zs]
    conv => enter [1, _, 1, o2', 1, o3', 1, o4', 1]; unfold forL
    conv => enter [2, i, _, 1, env, 1, h, 1]; unfold forL
    simp only [gdOk, if_true, as]
    rcases rdP_or (TL.spl [32] 0 [] l) with hr | ⟨xs, hr, _⟩
    · have hr : rdl l = .non := hr
      refine ⟨(fun h => by simp only [firstN, hr] at h; cases h), fun i h => ?_⟩
      simp only [firstN, hr, Option.some.injEq] at h
      subst h
      have ex : evS (cfgK pr (j + 2)) none (.raise 0 (.cons (.op (.add false) (.cons (.var 2) (.cons (.con (.int 1)) .nil))) .nil)) [some t, some (.loc 0), some (.int k), some (.str l), some .non] [.lst acc] = .exc ⟨0, ["line"], [.int ((k : Int) + 1)]⟩ [some t, some (.loc 0), some (.int k), some (.str l), some .non] [.lst acc] := by
        have ee : evEs (cfgK pr (j + 2)) none (.cons (.op (.add false) (.cons (.var 2) (.cons (.con (.int 1)) .nil))) .nil) [some t, some (.loc 0), some (.int k), some (.str l), some .non] [.lst acc] = .ok [.int ((k : Int) + 1)] [.lst acc] := x_es (x_op2 (x_var rfl) x_con pr_addI) x_es0
        simp only [evS, ee, R.rs_ok]
        rfl
      refine ⟨[some t, some (.loc 0), some (.int k), some (.str l), some .non], [.lst acc], ?_⟩
      · rw [x_nx (x_asg (x_call1 (x_var rfl) (ec.trans (by rw [hr]))))]
        show RS.then (evSs _ _ _ [some t, some (.loc 0), some (.int k), some (.str l), some .non] [.lst acc]) _ = _
        rw [x_xc (by rw [x_iteT (x_op1 (x_var rfl) rfl), x_xc ex]), RS.then_exc]
        rw [show ((k : Int) + ((0 : Nat) : Int) + 1) = (k : Int) + 1 by omega]
    · have hr : rdl l = .tup xs := hr
      have ih := reads_loop (j := j) (t := t) (ls := ls) (k := k + 1) (acc := acc ++ [rdl l]) (o2 := some (.int k)) (o3 := some (.str l)) (o4 := some (rdl l)) (fun z hz' => hz z (List.mem_cons_of_mem _ hz')) (by rw [List.length_append, List.length_singleton]; omega)
      have ap : prim .append [.loc 0, rdl l] [.lst acc] = .ok .non [.lst (acc ++ [rdl l])] := by
        show (if acc.length < SZ then _ else _) = _
        rw [if_pos (by unfold SZ; omega)]
        rfl
      have st : evSs (cfgK pr (j + 2)) none (.cons (.asg (.name 4) (.call 3 (.cons (.var 3) .nil))) (.cons (.ite (.op .isN (.cons (.var 4) .nil)) (.cons (.raise 0 (.cons (.op (.add false) (.cons (.var 2) (.cons (.con (.int 1)) .nil))) .nil)) .nil) .nil) (.cons (.ex (.meth .list .append (.var 1) (.cons (.var 4) .nil))) .nil))) [some t, some (.loc 0), some (.int k), some (.str l), o4] [.lst acc] =
          .nx [some t, some (.loc 0), some (.int k), some (.str l), some (rdl l)] [.lst (acc ++ [rdl l])] := by
        rw [x_nx (x_asg (x_call1 (x_var rfl) ec))]
        show evSs _ _ _ [some t, some (.loc 0), some (.int k), some (.str l), some (rdl l)] [.lst acc] = _
        rw [x_nx (by rw [x_iteF (x_op1 (x_var rfl) (by rw [hr]; rfl)), x_nil]), x_nx (x_ex (x_meth1 (x_var rfl) rfl (x_var rfl) ap)), x_nil]
      rw [st]
      simp only [RS.then_nx]
      refine ⟨fun h => ?_, fun i h => ?_⟩
      · simp only [firstN, hr, Option.map_eq_none_iff] at h
        obtain ⟨a, b, c, e⟩ := ih.1 h
        exact ⟨a, b, c, by rw [e, List.map_cons, List.append_assoc, List.singleton_append]⟩
      · simp only [firstN, hr, Option.map_eq_some_iff] at h
        obtain ⟨i', h', rfl⟩ := h
        obtain ⟨a, b, e⟩ := ih.2 i' h'
        exact ⟨a, b, by rw [e]; congr 3; simp only [List.cons.injEq, D.int.injEq, and_true]; omega⟩
theorem rdls_nl (ls : List (List Nat)) : D.noLocs (ls.map rdl) = true := by
  induction ls with
  | nil => rfl
  | cons l ls ih =>
    have : D.noLoc (rdl l) = true := by
      rcases rdP_or (TL.spl [32] 0 [] l) with h | ⟨xs, h, h2⟩
      · unfold rdl; rw [h]; rfl
      · unfold rdl; rw [h]; simp only [D.noLoc, h2]
    simp only [List.map_cons, D.noLocs, this, ih, Bool.and_true]
theorem call_reads {j : Nat} {t : List Nat} {ah : AH} {ls : List (List Nat)} (hls : TL.spl [10] 0 [] t = ls) (hne : t ≠ []) (hz : t.length + 2 ≤ SZ) (hl : ∀ l ∈ ls, l.length + 2 ≤ SZ) (hn : ls.length ≤ 1000) :
    callF pr (j + 3) 4 [.str t] ah = match firstN ls with
      | none => .ok (.tup (ls.map rdl)) ah
      | some i => .exc ⟨0, ["line"], [.int ((i : Int) + 1)]⟩ ah := by
  rw [callF_pure (sl := 5) (pa := 1) (b := b4) (es := [.str t]) rfl rfl rfl]
  have ie : evI (cfgK pr (j + 2)) none (.enum (.meth .str (.split false) (.var 0) (.cons (.con (.str [10])) .nil))) [some (.str t), some (.loc 0), none, none, none] [.lst []] = .ok ((List.range' 0 ls.length).zipWith enF (ls.map D.str), none) [.lst []] := by
    have e1 : evE (cfgK pr (j + 2)) none (.meth .str (.split false) (.var 0) (.cons (.con (.str [10])) .nil)) [some (.str t), some (.loc 0), none, none, none] [.lst []] = .ok (.lst (ls.map D.str)) [.lst []] := x_meth1 (x_var rfl) rfl x_con (by
      rw [pr_split hz (by decide), hls]
      rfl)
    simp only [evI, e1, R.bind_ok]
    rw [enum_range, List.length_map]
  have lp := reads_loop (j := j) (t := .str t) (ls := ls) (k := 0) (acc := []) (o2 := none) (o3 := none) (o4 := none) hl (by rw [List.length_nil]; omega)
  have s0 : ∀ ss, evSs (cfgK pr (j + 2)) none (.cons (.ite (.op .eq (.cons (.var 0) (.cons (.con (.str [])) .nil))) (.cons (.ret (.tup .nil)) .nil) .nil) (.cons (.asg (.name 1) (.lst true .nil)) ss)) [some (.str t), none, none, none, none] [] = evSs (cfgK pr (j + 2)) none ss [some (.str t), some (.loc 0), none, none, none] [.lst []] := fun ss => by
    rw [x_nx (by rw [x_iteF (x_op2 (x_var rfl) x_con (by rw [pr_eqS, decide_eq_false hne])), x_nil])]
    rw [x_nx (x_asg (x_lst x_es0 (by decide)))]
    rfl
  show finP true ah (evSs (cfgK pr (j + 2)) none (.cons _ (.cons _ (.cons (.forS _ _ _) (.cons _ .nil)))) [some (.str t), none, none, none, none] []) = _
  rw [s0]
  cases hf : firstN ls with
  | none =>
    obtain ⟨o2, o3, o4, e⟩ := lp.1 hf
    rw [x_nx ((x_for ie).trans e)]
    have tp : prim .tuple [.loc 0] [.lst ([] ++ ls.map rdl)] = .ok (.tup (ls.map rdl)) [.lst ([] ++ ls.map rdl)] := rfl
    rw [x_rt (x_ret (x_op1 (x_var rfl) tp))]
    have nl : D.noLoc (.tup (ls.map rdl)) = true := by simp only [D.noLoc, rdls_nl]
    simp only [finP, outD, rd, frz_nl _ _ nl, true_or, if_true]
  | some i =>
    obtain ⟨env, h, e⟩ := lp.2 i hf
    rw [x_xc ((x_for ie).trans e)]
    show finP true ah (.exc ⟨0, ["line"], [.int (((0 : Nat) : Int) + (i : Int) + 1)]⟩ env h) = _
    rw [show (((0 : Nat) : Int) + (i : Int) + 1) = (i : Int) + 1 by omega]
    rfl
def sLine : List Nat := [108, 105, 110, 101]
def sDeeds : List Nat := [100, 101, 101, 100, 115]
theorem call_read {j : Nat} {t : List Nat} {ah : AH} {ls : List (List Nat)} (hls : TL.spl [10] 0 [] t = ls) (hne : t ≠ []) (hz : t.length + 2 ≤ SZ) (hl : ∀ l ∈ ls, l.length + 2 ≤ SZ) (hn : ls.length ≤ 1000) :
    callF pr (j + 4) 14 [.str t] ah = match firstN ls with
      | none => .ok (.tup [.str sDeeds, .tup (ls.map rdl)]) ah
      | some i => .ok (.tup [.str sLine, .int ((i : Int) + 1)]) ah := by
  rw [callF_pure (sl := 3) (pa := 1) (b := b14) (es := [.str t]) rfl rfl rfl]
  have rc := call_reads (j := j) (ah := []) hls hne hz hl hn
  show finP true ah (evSs (cfgK pr (j + 3)) none (.cons (.tryS (.cons (.asg (.name 1) (.call 4 (.cons (.var 0) .nil))) .nil) (.cons [0] (some 2) _ .nil)) (.cons _ .nil)) [some (.str t), none, none] []) = _
  cases hf : firstN ls with
  | none =>
    rw [hf] at rc
    have e : evSs (cfgK pr (j + 3)) none (.cons (.asg (.name 1) (.call 4 (.cons (.var 0) .nil))) .nil) [some (.str t), none, none] [] = .nx [some (.str t), some (.tup (ls.map rdl)), none] [] := by
      rw [x_nx (x_asg (x_call1 (x_var rfl) rc)), x_nil]
      rfl
    have tr : ∀ h, evS (cfgK pr (j + 3)) none (.tryS (.cons (.asg (.name 1) (.call 4 (.cons (.var 0) .nil))) .nil) h) [some (.str t), none, none] [] = .nx [some (.str t), some (.tup (ls.map rdl)), none] [] := fun h => by simp only [evS, e]
    rw [x_nx (tr _), x_rt (x_ret (x_tup (x_es x_con (x_es (x_var rfl) x_es0)) (by show 2 ≤ SZ; decide)))]
    have nl : D.noLoc (.tup [.str sDeeds, .tup (ls.map rdl)]) = true := by simp only [D.noLoc, D.noLocs, rdls_nl, Bool.and_true]
    show finP true ah (.ret (.tup [.str sDeeds, .tup (ls.map rdl)]) []) = _
    simp only [finP, outD, rd, frz_nl _ _ nl, true_or, if_true]
  | some i =>
    rw [hf] at rc
    have e : evSs (cfgK pr (j + 3)) none (.cons (.asg (.name 1) (.call 4 (.cons (.var 0) .nil))) .nil) [some (.str t), none, none] [] = .exc ⟨0, ["line"], [.int ((i : Int) + 1)]⟩ [some (.str t), none, none] [] := by
      have : evE (cfgK pr (j + 3)) none (.call 4 (.cons (.var 0) .nil)) [some (.str t), none, none] [] = .exc ⟨0, ["line"], [.int ((i : Int) + 1)]⟩ [] := x_call1 (x_var rfl) rc
      exact x_xc (by simp only [evS, this, R.rs_exc])
    have ex : evE (cfgK pr (j + 3)) (some ⟨0, ["line"], [.int ((i : Int) + 1)]⟩) (.exf "line") [some (.str t), none, none] [] = .ok (.int ((i : Int) + 1)) [] := by
      simp only [evE]
      rfl
    have su : evSs (cfgK pr (j + 3)) (some ⟨0, ["line"], [.int ((i : Int) + 1)]⟩) (.cons (.ret (.tup (.cons (.con (.str [108, 105, 110, 101])) (.cons (.exf "line") .nil)))) .nil) [some (.str t), none, none] [] = .ret (.tup [.str sLine, .int ((i : Int) + 1)]) [] :=
      x_rt (x_ret (x_tup (x_es x_con (x_es ex x_es0)) (by show 2 ≤ SZ; decide)))
    have tr : evS (cfgK pr (j + 3)) none (.tryS (.cons (.asg (.name 1) (.call 4 (.cons (.var 0) .nil))) .nil) (.cons [0] (some 2) (.cons (.ret (.tup (.cons (.con (.str [108, 105, 110, 101])) (.cons (.exf "line") .nil)))) .nil) .nil)) [some (.str t), none, none] [] = .ret (.tup [.str sLine, .int ((i : Int) + 1)]) [] := by
      simp only [evS, e]
      unfold evH
      rw [if_pos ⟨(by show 0 < 1; decide), rfl⟩, if_pos (by show 0 ∈ [0]; decide)]
      show (match evSs (cfgK pr (j + 3)) (some ⟨0, ["line"], [.int ((i : Int) + 1)]⟩) (.cons (.ret (.tup (.cons (.con (.str [108, 105, 110, 101])) (.cons (.exf "line") .nil)))) .nil) [some (.str t), none, none] [] with
        | .nx env1 ah1 => RS.nx (env1.set 2 none) ah1
        | .ret d ah1 => .ret d ah1
        | _ => .bad) = _
      rw [su]
    rw [x_rt tr]
    rfl
end SW
end

section
set_option Elab.async false
set_option linter.all false
set_option maxRecDepth 100000
set_option maxHeartbeats 1000000
/-! k53, plain: the same; a text is written -/
namespace SW
open M
def okT : Nat → D → Bool
  | _, .str _ => true
  | _, .int _ => true
  | k + 1, .tup xs => xs.all fun x => okT k x
  | _, _ => false
theorem okT_nl : ∀ (k : Nat) (x : D), okT k x = true → D.noLoc x = true
  | _, .str _, _ => rfl
  | _, .int _, _ => rfl
  | k + 1, .tup xs, h => by
    have h : (xs.all fun x => okT k x) = true := h
    rw [List.all_eq_true] at h
    have aux : ∀ ys : List D, (∀ y ∈ ys, D.noLoc y = true) → D.noLocs ys = true := fun ys => by
      induction ys with
      | nil => intro _; rfl
      | cons y ys ih =>
        intro hy
        simp only [D.noLocs, hy y List.mem_cons_self, ih fun z hz => hy z (List.mem_cons_of_mem _ hz), Bool.and_true]
    exact aux xs fun y hy => okT_nl k y (h y hy)
  | 0, .tup _, h => by cases h
  | 0, .non, h => by cases h
  | 0, .bl _, h => by cases h
  | 0, .lst _, h => by cases h
  | 0, .ob _ _ _, h => by cases h
  | 0, .dct _ _, h => by cases h
  | 0, .scr _, h => by cases h
  | 0, .loc _, h => by cases h
  | _ + 1, .non, h => by cases h
  | _ + 1, .bl _, h => by cases h
  | _ + 1, .lst _, h => by cases h
  | _ + 1, .ob _ _ _, h => by cases h
  | _ + 1, .dct _ _, h => by cases h
  | _ + 1, .scr _, h => by cases h
  | _ + 1, .loc _, h => by cases h
theorem same_zip {G : Cfg} {a b : D} : ∀ {xs : List D}, (∀ x ∈ xs, G.cf 10 [x, x] [] = .ok (.bl true) []) →
    compL none (.tup (.cons (.name 2) (.cons (.name 3) .nil))) (fun e a => evC G none .nil e a) (fun e a => evE G none (.call 10 (.cons (.var 2) (.cons (.var 3) .nil))) e a) [some a, some b, none, none] (zipD xs xs) [] = .ok (xs.map fun _ => .bl true) []
  | [], _ => rfl
  | x :: xs, h => by
    have ih := same_zip (a := a) (b := b) (xs := xs) fun y hy => h y (List.mem_cons_of_mem _ hy)
    have e : evE G none (.call 10 (.cons (.var 2) (.cons (.var 3) .nil))) [some a, some b, some x, some x] [] = .ok (.bl true) [] := x_call2 (x_var rfl) (x_var rfl) (h x List.mem_cons_self)
    have zs : zipD (x :: xs) (x :: xs) = .tup [x, x] :: zipD xs xs := rfl
    simp only [evC] at ih
    rw [zs]
    unfold compL
    simp only [gdOk, if_true, M.assign, M.assigns, List.set_cons_succ, List.set_cons_zero, evC, R.nox_ok, R.bind_ok, e, ih, List.map_cons]
theorem all_tt : ∀ xs : List D, blsOf (xs.map fun _ => D.bl true) = some (xs.map fun _ => true)
  | [] => rfl
  | x :: xs => by
    show (match blsOf (xs.map fun _ => D.bl true) with
      | some l => some (true :: l)
      | none => none) = _
    rw [all_tt xs]
    rfl
theorem call_same : ∀ (k : Nat) (x : D), okT k x = true → ∀ (j : Nat) (ah : AH), callF pr (j + k + 1) 10 [x, x] ah = .ok (.bl true) ah
  | k, x, h, j, ah => by
    have nl := okT_nl k x h
    have nls : D.noLocs [x, x] = true := by simp only [D.noLocs, nl, Bool.and_true]
    rw [callF_pure (sl := 4) (pa := 2) (b := b10) (es := [x, x]) rfl rfl (frzs_nl _ _ nls), nls]
    suffices key : evSs (cfgK pr (j + k)) none b10 (startE 4 [x, x]) [] = .ret (.bl true) [] by
      rw [key]
      rfl
    show evSs (cfgK pr (j + k)) none (.cons (.ite _ _ .nil) (.cons (.ite _ _ .nil) (.cons (.ite _ _ .nil) (.cons (.ite _ _ .nil) (.cons (.ite _ _ .nil) (.cons _ .nil)))))) [some x, some x, none, none] [] = _
    cases x with
    | str s =>
      rw [x_nx (by rw [x_iteF (x_op1 (x_var rfl) rfl), x_nil]), x_nx (by rw [x_iteF (x_op1 (x_var rfl) rfl), x_nil]), x_nx (by rw [x_iteF (x_op1 (x_var rfl) rfl), x_nil]), x_nx (by rw [x_iteF (x_op1 (x_var rfl) rfl), x_nil]), x_nx (by rw [x_iteF (x_op1 (x_var rfl) rfl), x_nil])]
      rw [x_rt (x_ret (by rw [x_andT (x_op1 (x_var rfl) rfl)]; exact x_op2 (x_var rfl) (x_var rfl) pr_eqS)), decide_eq_true rfl]
    | int i =>
      rw [x_nx (by rw [x_iteF (x_op1 (x_var rfl) rfl), x_nil]), x_nx (by rw [x_iteF (x_op1 (x_var rfl) rfl), x_nil]), x_nx (by rw [x_iteF (x_op1 (x_var rfl) rfl), x_nil]), x_nx (by rw [x_iteF (x_op1 (x_var rfl) rfl), x_nil])]
      rw [x_rt (by rw [x_iteT (x_op1 (x_var rfl) rfl), x_rt (x_ret (by rw [x_andT (x_op1 (x_var rfl) rfl), x_andT (x_not (b := false) (x_op1 (x_var rfl) rfl))]; exact x_op2 (x_var rfl) (x_var rfl) pr_eqI)), decide_eq_true rfl])]
    | tup xs =>
      cases k with
      | zero => cases h
      | succ k =>
        have h : (xs.all fun x => okT k x) = true := h
        rw [List.all_eq_true] at h
        have cf : ∀ x ∈ xs, (cfgK pr (j + (k + 1))).cf 10 [x, x] [] = .ok (.bl true) [] := fun x hx => call_same k x (h x hx) j []
        have cz := same_zip (G := cfgK pr (j + (k + 1))) (a := .tup xs) (b := .tup xs) cf
        have ce : evE (cfgK pr (j + (k + 1))) none (.comp false (.tup (.cons (.name 2) (.cons (.name 3) .nil))) (.zip (.var 0) (.var 1)) .nil (.call 10 (.cons (.var 2) (.cons (.var 3) .nil))) [2, 3]) [some (.tup xs), some (.tup xs), none, none] [] = .ok (.lst (xs.map fun _ => .bl true)) [] := by
          have ie : evI (cfgK pr (j + (k + 1))) none (.zip (.var 0) (.var 1)) [some (.tup xs), some (.tup xs), none, none] [] = .ok (zipD xs xs, none) [] := by
            simp only [evI, evE, List.getElem?_cons_zero, List.getElem?_cons_succ, R.bind_ok]
          simp only [evC] at cz
          simp only [evE, ie, R.bind_ok, wipeE, List.set_cons_succ, List.set_cons_zero, evC]
          simp only [evE] at cz
          rw [cz]
          rfl
        have al : prim .all [.lst (xs.map fun _ => .bl true)] [] = .ok (.bl true) [] := by
          show (match blsOf (xs.map fun _ => D.bl true) with
            | some l => okB (l.all id) []
            | none => .bad) = _
          rw [all_tt]
          simp
        have ne0 : evE (cfgK pr (j + (k + 1))) none (.op .ne (.cons (.op .len (.cons (.var 0) .nil)) (.cons (.op .len (.cons (.var 1) .nil)) .nil))) [some (.tup xs), some (.tup xs), none, none] [] = .ok (.bl false) [] := x_op2 (x_op1 (x_var rfl) pr_lenT) (x_op1 (x_var rfl) pr_lenT) (by rw [pr_neI, decide_eq_true rfl]; rfl)
        rw [x_rt (by rw [x_iteT (x_op1 (x_var rfl) rfl), x_nx (by rw [x_iteF (by rw [x_orF (x_not (b := true) (x_op1 (x_var rfl) rfl))]; exact ne0), x_nil]), x_rt (x_ret (x_op1 ce al))])]
    | _ => cases k <;> cases h
/-! ### a text is written -/
def txt (es : List Deed) : List Nat := TL.joinL [10] (es.map Deed.ln)
def AllOk (es : List Deed) : Prop := ∀ e ∈ es, e.Ok
theorem lns_len : ∀ {es : List Deed}, AllOk es → ((es.map Deed.ln).map List.length).sum ≤ 30 * es.length
  | [], _ => by simp
  | e :: es, h => by
    have := lns_len (es := es) fun x hx => h x (List.mem_cons_of_mem _ hx)
    have := e.lnlen (h e List.mem_cons_self)
    simp only [List.map_cons, List.sum_cons, List.length_cons]
    omega
theorem txt_len {es : List Deed} (h : AllOk es) : (txt es).length ≤ 31 * es.length := by
  have h1 := joinL_len [10] (es.map Deed.ln)
  have h2 := lns_len h
  rw [List.length_map, List.length_singleton] at h1
  unfold txt
  omega
def lnD : D → D
  | .tup xs => .str (TL.joinL [32] ((xs.map toS).filterMap fun d => match d with
    | .str x => some x
    | _ => none))
  | d => d
theorem lnD_eq (e : Deed) (h : e.Ok) : lnD e.d = .str e.ln := by
  rw [e.d_xs]
  show D.str (TL.joinL [32] ((e.xs.map toS).filterMap _)) = _
  rw [e.toS h]
  have : ∀ l : List (List Nat), (l.map D.str).filterMap (fun d => match d with
    | .str x => some x
    | _ => none) = l := fun l => by
    induction l with
    | nil => rfl
    | cons x l ih => simp only [List.map_cons, List.filterMap_cons, ih]
  rw [this]
  rfl
theorem map_ln {es : List Deed} (h : AllOk es) : (es.map Deed.d).map lnD = (es.map Deed.ln).map D.str := by
  rw [List.map_map, List.map_map]
  exact List.map_congr_left fun e he => lnD_eq e (h e he)
theorem deeds_nl : ∀ es : List Deed, D.noLocs (es.map Deed.d) = true
  | [] => rfl
  | e :: es => by
    have : D.noLoc e.d = true := by cases e <;> rfl
    simp only [List.map_cons, D.noLocs, this, deeds_nl es, Bool.and_true]
theorem call_write {j : Nat} {es : List Deed} {ah : AH} {x : D} (hx : x = .tup (es.map Deed.d) ∨ x = .lst (es.map Deed.d)) (h : AllOk es) (hn : es.length ≤ 100) : callF pr (j + 1) 2 [x] ah = .ok (.str (txt es)) ah := by
  have nl : D.noLocs [x] = true := by
    rcases hx with rfl | rfl <;> simp only [D.noLocs, D.noLoc, deeds_nl, Bool.and_true]
  rw [callF_pure (sl := 3) (pa := 1) (b := b2) (es := [x]) rfl rfl (frzs_nl _ _ nl), nl]
  suffices key : evSs (cfgK pr j) none b2 (startE 3 [x]) [] = .ret (.str (txt es)) [] by
    rw [key]
    rfl
  show evSs (cfgK pr j) none (.cons _ .nil) [some x, none, none] [] = _
  have it : evI (cfgK pr j) none (.seq (.var 0)) [some x, none, none] [] = .ok (es.map Deed.d, none) [] := by
    rcases hx with rfl | rfl
    · exact i_seqT (x_var rfl)
    · exact i_seqL (x_var rfl)
  have cmp := x_comp (G := cfgK pr j) (cx := none) (env := [some x, none, none]) (ah := []) (i := 2) (ci := .seq (.var 0)) (cond := .nil) (elt := .meth .str .join (.con (.str [32])) (.cons (.comp false (.name 1) (.seq (.var 2)) .nil (.op .str (.cons (.var 1) .nil)) [1]) .nil)) (own := [2]) (ds := es.map Deed.d) (ah1 := []) (p := fun _ => true) (f := lnD) it (fun d hd => by simp only [evC]) fun d hd _ => by
    obtain ⟨e, he, rfl⟩ := List.mem_map.mp hd
    rw [lnD_eq e (h e he)]
    exact join_ev e (h e he) rfl (by simp [wipeE])
  have ef : ((es.map Deed.d).filter fun _ => true) = es.map Deed.d := List.filter_eq_self.mpr fun _ _ => rfl
  rw [ef, map_ln h] at cmp
  have hl := lns_len h
  rw [x_rt (x_ret (x_meth1 x_con rfl cmp (pr_join (by rw [List.length_map, List.length_singleton]; unfold SZ; omega))))]
  rfl
end SW
end

section
set_option Elab.async false
set_option linter.all false
set_option maxRecDepth 100000
set_option maxHeartbeats 1000000
/-! k53, plain: wrong lines -/
namespace SW
open M
theorem dig10 : ∀ i : Nat, i < 10 → digB [48 + i] = true ∧ sI [48 + i] = (i : Int) := by
  intro i hi
  have : i = 0 ∨ i = 1 ∨ i = 2 ∨ i = 3 ∨ i = 4 ∨ i = 5 ∨ i = 6 ∨ i = 7 ∨ i = 8 ∨ i = 9 := by omega
  rcases this with h | h | h | h | h | h | h | h | h | h <;> (subst h; decide)
theorem ps_ne (e : Deed) : e.ps ≠ [] := by cases e <;> simp [Deed.ps]
theorem spl_ln (e : Deed) (h : e.Ok) : TL.spl [32] 0 [] e.ln = e.ps := TL.spl_join (ps_ne e) (e.no32 h)
theorem rdl_ln (e : Deed) (h : e.Ok) : rdl e.ln = e.d := by
  unfold rdl
  rw [spl_ln e h]
  cases e with
  | edit m i =>
    obtain ⟨h1, h2⟩ := dig10 i h.2
    simp only [Deed.ps, rdP, h.1, h1, h2, if_true, and_self]
    rfl
  | fire m => simp only [Deed.ps, rdP, show nmB m = true from h, and_self, if_true]; rfl
  | set m w =>
    have n1 : ¬ (sSet = sEdit ∧ digB w = true) := fun z => absurd z.1 (by decide)
    simp only [Deed.ps, rdP, h.1, h.2, if_true, if_neg n1, and_self]
    rfl
  | reload => simp only [Deed.ps, rdP, if_true]; rfl
theorem d_not (e : Deed) : e.d ≠ .non := by cases e <;> simp [Deed.d]
theorem first_lns : ∀ {es : List Deed}, AllOk es → firstN (es.map Deed.ln) = none ∧ (es.map Deed.ln).map rdl = es.map Deed.d
  | [], _ => ⟨rfl, rfl⟩
  | e :: es, h => by
    obtain ⟨i1, i2⟩ := first_lns (es := es) fun x hx => h x (List.mem_cons_of_mem _ hx)
    have hr := rdl_ln e (h e List.mem_cons_self)
    refine ⟨?_, by simp only [List.map_cons, hr, i2]⟩
    simp only [List.map_cons, firstN, hr]
    rw [e.d_xs]
    simp only [i1, Option.map_none]
theorem first_at : ∀ {es : List Deed} {w : List Nat} {r : List (List Nat)}, AllOk es → rdl w = .non → firstN (es.map Deed.ln ++ w :: r) = some es.length
  | [], w, r, _, hw => by
    simp only [List.map_nil, List.nil_append, firstN, hw]
    rfl
  | e :: es, w, r, h, hw => by
    have ih := first_at (es := es) (w := w) (r := r) (fun x hx => h x (List.mem_cons_of_mem _ hx)) hw
    have hr := rdl_ln e (h e List.mem_cons_self)
    simp only [List.map_cons, List.cons_append, firstN, hr]
    rw [e.d_xs]
    simp only [ih, Option.map_some, List.length_cons]
theorem join_snoc {s : List Nat} : ∀ {l : List (List Nat)} {w : List Nat}, l ≠ [] → TL.joinL s (l ++ [w]) = TL.joinL s l ++ (s ++ w)
  | [], w, h => absurd rfl h
  | [p], w, _ => by simp [TL.joinL]
  | p :: q :: r, w, _ => by
    have ih := join_snoc (s := s) (l := q :: r) (w := w) (by simp)
    simp only [List.cons_append] at ih
    simp only [List.cons_append, TL.joinL, ih, List.append_assoc]
theorem join_cons {s p : List Nat} {l : List (List Nat)} (h : l ≠ []) : TL.joinL s (p :: l) = p ++ (s ++ TL.joinL s l) := by
  cases l with
  | nil => exact absurd rfl h
  | cons a l => simp [TL.joinL]
/-- no such line is a deed -/
structure BadL (w : List Nat) : Prop where
  non : rdl w = .non
  no10 : 10 ∉ w
  len : w.length ≤ 40
theorem n10 (e : Deed) (h : e.Ok) : ∀ p ∈ e.ps, 10 ∉ p := by
  have n32 : 10 ∉ L26 := by decide
  cases e with
  | edit m i =>
    intro p hp
    simp only [Deed.ps, List.mem_cons, List.not_mem_nil, or_false] at hp
    rcases hp with rfl | rfl | rfl
    · decide
    · exact nm_no h.1 n32
    · simp only [List.mem_singleton]; omega
  | fire m =>
    intro p hp
    simp only [Deed.ps, List.mem_cons, List.not_mem_nil, or_false] at hp
    rcases hp with rfl | rfl
    · decide
    · exact nm_no h n32
  | set m w =>
    intro p hp
    simp only [Deed.ps, List.mem_cons, List.not_mem_nil, or_false] at hp
    rcases hp with rfl | rfl | rfl
    · decide
    · exact nm_no h.1 n32
    · exact nm_no h.2 n32
  | reload =>
    intro p hp
    simp only [Deed.ps, List.mem_cons, List.not_mem_nil, or_false] at hp
    rcases hp with rfl
    decide
theorem join_no : ∀ {l : List (List Nat)}, (∀ p ∈ l, 10 ∉ p) → 10 ∉ TL.joinL [32] l
  | [], _ => by simp [TL.joinL]
  | [p], h => by simpa [TL.joinL] using h p List.mem_cons_self
  | p :: q :: r, h => by
    have ih := join_no (l := q :: r) fun x hx => h x (List.mem_cons_of_mem _ hx)
    have := h p List.mem_cons_self
    simp only [TL.joinL, List.mem_append, List.mem_singleton]
    rintro (h1 | h1 | h1)
    · exact this h1
    · cases h1
    · exact ih h1
theorem bad_of {l : List (List Nat)} (h0 : l ≠ []) (h32 : ∀ p ∈ l, 32 ∉ p) (h10 : ∀ p ∈ l, 10 ∉ p) (hn : rdP l = .non) (hz : (TL.joinL [32] l).length ≤ 40) : BadL (TL.joinL [32] l) := by
  refine ⟨?_, join_no h10, hz⟩
  unfold rdl
  rw [TL.spl_join h0 h32]
  exact hn
theorem rd3 {a b c : List Nat} (h1 : a ≠ sEdit) (h2 : a ≠ sSet) : rdP [a, b, c] = .non := by
  unfold rdP
  simp only [h1, h2, false_and, if_false]
  split <;> rfl
theorem rd2 {a b : List Nat} (h1 : a ≠ sFire) : rdP [a, b] = .non := by
  unfold rdP
  simp only [h1, false_and, if_false]
theorem rd1 {a : List Nat} (h1 : a ≠ sReload) : rdP [a] = .non := by
  unfold rdP
  simp only [h1, if_false]
theorem bad_front (e : Deed) (h : e.Ok) : BadL ([32] ++ e.ln) := by
  have eq : [32] ++ e.ln = TL.joinL [32] ([] :: e.ps) := by rw [join_cons (ps_ne e)]; rfl
  have hz := e.lnlen h
  rw [eq]
  refine bad_of (by simp) (fun p hp => ?_) (fun p hp => ?_) ?_ (by rw [← eq, List.length_append, List.length_singleton]; omega)
  · rcases List.mem_cons.mp hp with rfl | hp
    · simp
    · exact e.no32 h p hp
  · rcases List.mem_cons.mp hp with rfl | hp
    · simp
    · exact n10 e h p hp
  · cases e with
    | edit m i => rfl
    | set m w => rfl
    | fire m => exact rd3 (by decide) (by decide)
    | reload => rfl
theorem bad_back (e : Deed) (h : e.Ok) {w : List Nat} (h32 : 32 ∉ w) (h10 : 10 ∉ w) (hw : w.length ≤ 1) : BadL (e.ln ++ ([32] ++ w)) := by
  have eq : e.ln ++ ([32] ++ w) = TL.joinL [32] (e.ps ++ [w]) := by rw [join_snoc (ps_ne e)]; rfl
  have hz := e.lnlen h
  rw [eq]
  refine bad_of (by simp) (fun p hp => ?_) (fun p hp => ?_) ?_ (by rw [← eq, List.length_append, List.length_append, List.length_singleton]; omega)
  · rcases List.mem_append.mp hp with hp | hp
    · exact e.no32 h p hp
    · rw [List.mem_singleton.mp hp]; exact h32
  · rcases List.mem_append.mp hp with hp | hp
    · exact n10 e h p hp
    · rw [List.mem_singleton.mp hp]; exact h10
  · cases e with
    | edit m i => rfl
    | set m w => rfl
    | fire m => exact rd3 (by decide) (by decide)
    | reload => exact rd2 (by decide)
/-- the first word, the others -/
def Deed.hd : Deed → List Nat
  | .edit _ _ => sEdit
  | .fire _ => sFire
  | .set _ _ => sSet
  | .reload => sReload
def Deed.tl : Deed → List (List Nat)
  | .edit m i => [m, [48 + i]]
  | .fire m => [m]
  | .set m w => [m, w]
  | .reload => []
theorem ps_ht (e : Deed) : e.ps = e.hd :: e.tl := by cases e <;> rfl
theorem bad_gap (e : Deed) (h : e.Ok) (ht : e.tl ≠ []) : BadL (e.hd ++ ([32] ++ ([32] ++ TL.joinL [32] e.tl))) := by
  have eq : e.hd ++ ([32] ++ ([32] ++ TL.joinL [32] e.tl)) = TL.joinL [32] (e.hd :: [] :: e.tl) := by
    rw [join_cons (by simp), join_cons ht]
    rfl
  have el : e.ln = e.hd ++ ([32] ++ TL.joinL [32] e.tl) := by
    unfold Deed.ln
    rw [ps_ht, join_cons ht]
  have hz := e.lnlen h
  rw [el] at hz
  have a1 : ∀ p ∈ e.hd :: e.tl, 32 ∉ p := by rw [← ps_ht]; exact e.no32 h
  have a2 : ∀ p ∈ e.hd :: e.tl, 10 ∉ p := by rw [← ps_ht]; exact n10 e h
  rw [eq]
  refine bad_of (by simp) (fun p hp => ?_) (fun p hp => ?_) ?_ (by rw [← eq]; simp only [List.length_append, List.length_singleton] at hz ⊢; omega)
  · rcases List.mem_cons.mp hp with rfl | hp
    · exact a1 _ List.mem_cons_self
    · rcases List.mem_cons.mp hp with rfl | hp
      · simp
      · exact a1 p (List.mem_cons_of_mem _ hp)
  · rcases List.mem_cons.mp hp with rfl | hp
    · exact a2 _ List.mem_cons_self
    · rcases List.mem_cons.mp hp with rfl | hp
      · simp
      · exact a2 p (List.mem_cons_of_mem _ hp)
  · cases e with
    | edit m i => rfl
    | set m w => rfl
    | fire m => exact rd3 (by show sFire ≠ sEdit; decide) (by show sFire ≠ sSet; decide)
    | reload => exact absurd rfl ht
theorem bad_upper (e : Deed) (h : e.Ok) : BadL ((e.ln.take 1).map upperA ++ e.ln.drop 1) := by
  have a1 : ∀ p ∈ e.hd :: e.tl, 32 ∉ p := by rw [← ps_ht]; exact e.no32 h
  have a2 : ∀ p ∈ e.hd :: e.tl, 10 ∉ p := by rw [← ps_ht]; exact n10 e h
  have up : ∀ l : List (List Nat), ∀ a b, (TL.joinL [32] ((a :: b) :: l)) = a :: TL.joinL [32] (b :: l) := fun l a b => by
    cases l with
    | nil => rfl
    | cons c l => simp [TL.joinL]
  have hz := e.lnlen h
  obtain ⟨c, r, hc⟩ : ∃ c r, e.hd = c :: r := by cases e <;> exact ⟨_, _, rfl⟩
  have eq : (e.ln.take 1).map upperA ++ e.ln.drop 1 = TL.joinL [32] ((upperA c :: r) :: e.tl) := by
    unfold Deed.ln
    rw [ps_ht, hc, up, up]
    rfl
  have lq : ((e.ln.take 1).map upperA ++ e.ln.drop 1).length = e.ln.length := by
    rw [List.length_append, List.length_map, ← List.length_append, List.take_append_drop]
  have hd : ∀ q, q = upperA c :: r → 32 ∉ q ∧ 10 ∉ q ∧ q ≠ sReload ∧ q ≠ sFire ∧ q ≠ sEdit ∧ q ≠ sSet := by
    intro q hq
    subst hq
    cases e <;> (simp only [Deed.hd, sEdit, sFire, sSet, sReload, List.cons.injEq] at hc; obtain ⟨rfl, rfl⟩ := hc; decide)
  obtain ⟨h1, h2, h3, h4, h5, h6⟩ := hd _ rfl
  rw [eq]
  refine bad_of (by simp) (fun p hp => ?_) (fun p hp => ?_) ?_ (by rw [← eq, lq]; omega)
  · rcases List.mem_cons.mp hp with rfl | hp
    · exact h1
    · exact a1 p (List.mem_cons_of_mem _ hp)
  · rcases List.mem_cons.mp hp with rfl | hp
    · exact h2
    · exact a2 p (List.mem_cons_of_mem _ hp)
  · cases e with
    | edit m i => exact rd3 h5 h6
    | set m w => exact rd3 h5 h6
    | fire m => exact rd2 h4
    | reload => exact rd1 h3
def wrongs : List (List Nat) := [[], [101, 100, 105, 116, 32, 97], [101, 100, 105, 116, 32, 97, 32, 49, 48], [101, 100, 105, 116, 32, 97, 32, 45, 49], [101, 100, 105, 116, 32, 97, 32, 98], [101, 100, 105, 116, 32, 65, 32, 48], [102, 105, 114, 101], [102, 105, 114, 101, 32, 97, 49], [102, 105, 114, 101, 32, 97, 98, 99, 100, 101, 102, 103, 104, 105], [115, 101, 116, 32, 97], [115, 101, 116, 32, 97, 32, 66], [115, 101, 116, 32, 97, 32, 48], [117, 110, 100, 111], [115, 116, 97, 116, 101], [114, 101, 108, 111, 97, 100, 32, 114, 101, 108, 111, 97, 100], [102, 105, 114, 101, 32, 97, 32, 98], [101, 100, 105, 116, 32, 32, 48], [101, 100, 105, 116, 32, 97, 32, 48, 48]]
theorem bad_wrongs : ∀ w ∈ wrongs, BadL w := by
  have k : ∀ w ∈ wrongs, (match rdl w with | .non => true | _ => false) = true ∧ 10 ∉ w ∧ w.length ≤ 40 := by decide +kernel
  intro w hw
  obtain ⟨h1, h2, h3⟩ := k w hw
  refine ⟨?_, h2, h3⟩
  split at h1
  · assumption
  · cases h1
end SW
end

section
set_option Elab.async false
set_option linter.all false
set_option maxRecDepth 100000
set_option maxHeartbeats 1000000
/-! k53, plain: a wrong line is drawn -/
namespace SW
open M
theorem sl_to {m : Bool} {k : Nat} {x : List Nat} {ah : AH} : pSlice m none (some (k : Int)) ah (.str x) = .ok (.str (x.take k)) ah := by
  show R.ok (D.str (cutN x none (some (k : Int)))) ah = _
  have : cutN x none (some (k : Int)) = x.take k := by
    unfold cutN
    rw [HT.sIx_none, HT.sIx_nat, List.drop_zero, Nat.sub_zero, List.take_eq_take_iff]
    omega
  rw [this]
theorem sl_from {m : Bool} {k : Nat} {x : List Nat} {ah : AH} : pSlice m (some (k : Int)) none ah (.str x) = .ok (.str (x.drop k)) ah := by
  show R.ok (D.str (cutN x (some (k : Int)) none)) ah = _
  have : cutN x (some (k : Int)) none = x.drop k := by
    unfold cutN
    rw [HT.sIx_none, HT.sIx_nat]
    by_cases h : k ≤ x.length
    · rw [Nat.min_eq_left h, List.take_of_length_le (by rw [List.length_drop]; exact Nat.le_refl _)]
    · rw [Nat.min_eq_right (by omega), List.drop_length, List.drop_eq_nil_of_le (by omega)]
      simp
  rw [this]
theorem find_ln (e : Deed) {ah : AH} : prim .find [.str e.ln, .str [32]] ah = .ok (.int (if e.tl = [] then -1 else (e.hd.length : Int))) ah := by
  cases e <;> rfl
def lst18 : CE := (.lst false (.cons (.con (.str [])) (.cons (.con (.str [101, 100, 105, 116, 32, 97])) (.cons (.con (.str [101, 100, 105, 116, 32, 97, 32, 49, 48])) (.cons (.con (.str [101, 100, 105, 116, 32, 97, 32, 45, 49])) (.cons (.con (.str [101, 100, 105, 116, 32, 97, 32, 98])) (.cons (.con (.str [101, 100, 105, 116, 32, 65, 32, 48])) (.cons (.con (.str [102, 105, 114, 101])) (.cons (.con (.str [102, 105, 114, 101, 32, 97, 49])) (.cons (.con (.str [102, 105, 114, 101, 32, 97, 98, 99, 100, 101, 102, 103, 104, 105])) (.cons (.con (.str [115, 101, 116, 32, 97])) (.cons (.con (.str [115, 101, 116, 32, 97, 32, 66])) (.cons (.con (.str [115, 101, 116, 32, 97, 32, 48])) (.cons (.con (.str [117, 110, 100, 111])) (.cons (.con (.str [115, 116, 97, 116, 101])) (.cons (.con (.str [114, 101, 108, 111, 97, 100, 32, 114, 101, 108, 111, 97, 100])) (.cons (.con (.str [102, 105, 114, 101, 32, 97, 32, 98])) (.cons (.con (.str [101, 100, 105, 116, 32, 32, 48])) (.cons (.con (.str [101, 100, 105, 116, 32, 97, 32, 48, 48])) .nil)))))))))))))))))))
theorem call_wrong {j : Nat} {e : Deed} {r : List Cell} {ah : AH} (hs : St1 r ah) (h : e.Ok) : ∃ w ah', callF pr (j + 3) 13 [.loc 0, e.d] ah = .ok (.str w) ah' ∧ St1 r ah' ∧ BadL w := by
  have el : callF pr (j + 2) 11 [e.d] ah = .ok (.str e.ln) ah := call_line (j := j + 1) e h
  obtain ⟨q, ah1, e1, d1, r1, r2⟩ := call_draw (P := pr) (f := 6) rfl (j := j + 1) (m := 4) hs.pool (by omega) (by omega)
  have hs1 := hs.drawn d1
  have hz := e.lnlen h
  rw [callF_keep (sl := 5) (pa := 2) (b := b13) rfl rfl]
  show ∃ w ah', finK (evSs (cfgK pr (j + 2)) none (.cons _ (.cons _ (.cons (.ite _ _ .nil) (.cons (.ite _ _ .nil) (.cons (.ite _ _ .nil) (.cons _ .nil)))))) [some (.loc 0), some e.d, none, none, none] ah) = _ ∧ _
  have st : ∀ ss, evSs (cfgK pr (j + 2)) none (.cons (.asg (.name 2) (.call 11 (.cons (.var 1) .nil))) (.cons (.asg (.name 3) (.call 6 (.cons (.var 0) (.cons (.con (.int 4)) .nil)))) ss)) [some (.loc 0), some e.d, none, none, none] ah = evSs (cfgK pr (j + 2)) none ss [some (.loc 0), some e.d, some (.str e.ln), some (.int q), none] ah1 := fun ss => by
    rw [x_nx (x_asg (x_call1 (x_var rfl) el)), x_nx (x_asg (x_call2 (x_var rfl) x_con e1))]
    rfl
  rw [st]
  have tst : ∀ i b, decide (q = i) = b → evE (cfgK pr (j + 2)) none (.op .eq (.cons (.var 3) (.cons (.con (.int i)) .nil))) [some (.loc 0), some e.d, some (.str e.ln), some (.int q), none] ah1 = .ok (.bl b) ah1 := fun i b hb => by
    rw [← hb]
    exact x_op2 (x_var rfl) x_con pr_eqI
  by_cases c0 : q = 0
  · have li : evE (cfgK pr (j + 2)) none (.lst false (.cons (.con (.int 0)) (.cons (.op .len (.cons (.var 2) .nil)) (.cons (.op (.add false) (.cons (.meth .str .find (.var 2) (.cons (.con (.str [32])) .nil)) (.cons (.con (.int 1)) .nil))) .nil)))) [some (.loc 0), some e.d, some (.str e.ln), some (.int q), none] ah1 = .ok (.lst [.int 0, .int e.ln.length, .int ((if e.tl = [] then -1 else (e.hd.length : Int)) + 1)]) ah1 := by
      rw [x_lst (x_es x_con (x_es (x_op1 (x_var rfl) pr_lenS) (x_es (x_op2 (x_meth1 (x_var rfl) rfl x_con (find_ln e)) x_con pr_addI) x_es0))) (by show 3 ≤ SZ; decide)]
      rfl
    obtain ⟨x2, ah2, e2, d2, x2m⟩ := call_pick (j := j) (d := .lst [.int 0, .int e.ln.length, .int ((if e.tl = [] then -1 else (e.hd.length : Int)) + 1)]) hs1.pool (.inl rfl) (fun m h => by cases h) (by simp) (by simp)
    have hs2 := hs1.drawn d2
    obtain ⟨k, rfl, hb⟩ : ∃ k : Nat, x2 = .int k ∧ BadL (e.ln.take k ++ [32] ++ e.ln.drop k) := by
      simp only [List.mem_cons, List.not_mem_nil, or_false] at x2m
      rcases x2m with rfl | rfl | rfl
      · exact ⟨0, rfl, by have := bad_front e h; simpa using this⟩
      · exact ⟨e.ln.length, rfl, by have := bad_back e h (w := []) (by simp) (by simp) (by simp); simpa using this⟩
      · by_cases ht : e.tl = []
        · exact ⟨0, by rw [if_pos ht]; rfl, by have := bad_front e h; simpa using this⟩
        · refine ⟨e.hd.length + 1, by rw [if_neg ht]; simp, ?_⟩
          have := bad_gap e h ht
          have eln : e.ln = e.hd ++ ([32] ++ TL.joinL [32] e.tl) := by
            unfold Deed.ln
            rw [ps_ht, join_cons ht]
          have t1 : e.ln.take (e.hd.length + 1) = e.hd ++ [32] := by
            rw [eln, ← List.append_assoc]
            exact List.take_left' (by simp)
          have t2 : e.ln.drop (e.hd.length + 1) = TL.joinL [32] e.tl := by
            rw [eln, ← List.append_assoc]
            exact List.drop_left' (by simp)
          rw [t1, t2]
          simpa using this
    refine ⟨e.ln.take k ++ [32] ++ e.ln.drop k, ah2, ?_, hs2, hb⟩
    rw [x_rt (by
      rw [x_iteT (tst 0 true (decide_eq_true c0)), x_nx (x_asg (x_call2 (x_var rfl) li (show (cfgK pr (j + 2)).cf 7 _ _ = _ from e2)))]
      exact x_rt (x_ret (x_op2 (x_op2 (x_slice (x_var rfl) x_con (x_var rfl) rfl rfl sl_to) x_con (pr_addS (by rw [List.length_take, List.length_singleton]; unfold SZ; omega))) (x_slice (x_var rfl) (x_var rfl) x_con rfl rfl sl_from) (pr_addS (by rw [List.length_append, List.length_take, List.length_singleton, List.length_drop]; unfold SZ; omega)))))]
    rfl
  · rw [x_nx (by rw [x_iteF (tst 0 false (decide_eq_false c0)), x_nil])]
    by_cases c1 : q = 1
    · have li : evE (cfgK pr (j + 2)) none (.lst false (.cons (.con (.str [97])) (.cons (.con (.str [48])) (.cons (.con (.str [81])) (.cons (.con (.str [])) .nil))))) [some (.loc 0), some e.d, some (.str e.ln), some (.int q), none] ah1 = .ok (.lst [.str [97], .str [48], .str [81], .str []]) ah1 := by
        rw [x_lst (x_es x_con (x_es x_con (x_es x_con (x_es x_con x_es0)))) (by show 4 ≤ SZ; decide)]
        rfl
      obtain ⟨x2, ah2, e2, d2, x2m⟩ := call_pick (j := j) (d := .lst [.str [97], .str [48], .str [81], .str []]) hs1.pool (.inl rfl) (fun m h => by cases h) (by simp) (by simp)
      have hs2 := hs1.drawn d2
      obtain ⟨w, rfl, w1, w2, w3⟩ : ∃ w, x2 = .str w ∧ 32 ∉ w ∧ 10 ∉ w ∧ w.length ≤ 1 := by
        simp only [List.mem_cons, List.not_mem_nil, or_false] at x2m
        rcases x2m with rfl | rfl | rfl | rfl <;> exact ⟨_, rfl, by decide, by decide, by decide⟩
      refine ⟨e.ln ++ [32] ++ w, ah2, ?_, hs2, by have := bad_back e h w1 w2 w3; rw [List.append_assoc]; exact this⟩
      rw [x_rt (by rw [x_iteT (tst 1 true (decide_eq_true c1)), x_rt (x_ret (x_op2 (x_op2 (x_var rfl) x_con (pr_addS (by rw [List.length_singleton]; unfold SZ; omega))) (x_call2 (x_var rfl) li (show (cfgK pr (j + 2)).cf 7 _ _ = _ from e2)) (pr_addS (by rw [List.length_append, List.length_singleton]; unfold SZ; omega))))])]
      rfl
    · rw [x_nx (by rw [x_iteF (tst 1 false (decide_eq_false c1)), x_nil])]
      by_cases c2 : q = 2
      · refine ⟨(e.ln.take 1).map upperA ++ e.ln.drop 1, ah1, ?_, hs1, bad_upper e h⟩
        have u1 : evE (cfgK pr (j + 2)) none (.slice false (.var 2) (.con .non) (.con (.int 1))) [some (.loc 0), some e.d, some (.str e.ln), some (.int q), none] ah1 = .ok (.str (e.ln.take 1)) ah1 := x_slice (x_var rfl) x_con x_con rfl rfl (sl_to (k := 1))
        have u2 : evE (cfgK pr (j + 2)) none (.slice false (.var 2) (.con (.int 1)) (.con .non)) [some (.loc 0), some e.d, some (.str e.ln), some (.int q), none] ah1 = .ok (.str (e.ln.drop 1)) ah1 := x_slice (x_var rfl) x_con x_con rfl rfl (sl_from (k := 1))
        have asc : (e.ln.take 1).all (fun c => decide (c < 128)) = true := by
          cases e <;> rfl
        have pu : prim .upper [.str (e.ln.take 1)] ah1 = .ok (.str ((e.ln.take 1).map upperA)) ah1 := by
          show (if _ then _ else _) = _
          rw [if_pos ⟨by rw [List.length_take]; omega, asc⟩]
        have u3 : evE (cfgK pr (j + 2)) none (.meth .str .upper (.slice false (.var 2) (.con .non) (.con (.int 1))) .nil) [some (.loc 0), some e.d, some (.str e.ln), some (.int q), none] ah1 = .ok (.str ((e.ln.take 1).map upperA)) ah1 := by
          simp only [evE] at u1
          simp only [evE, evEs]
          rw [u1, R.bind_ok, if_pos (show isMT ah1 MT.str (D.str (e.ln.take 1)) = true from rfl), R.bind_ok, pu, R.nox_ok]
        rw [x_rt (by rw [x_iteT (tst 2 true (decide_eq_true c2)), x_rt (x_ret (x_op2 u3 u2 (pr_addS (by rw [List.length_map, List.length_take, List.length_drop]; unfold SZ; omega))))])]
        rfl
      · rw [x_nx (by rw [x_iteF (tst 2 false (decide_eq_false c2)), x_nil])]
        have l18 : evE (cfgK pr (j + 2)) none lst18 [some (.loc 0), some e.d, some (.str e.ln), some (.int q), none] ah1 = .ok (.lst (wrongs.map D.str)) ah1 := by
          show evE _ _ (.lst false _) _ _ = _
          rw [x_lst (ds := wrongs.map D.str) (ah1 := ah1) (by simp only [evEs, evE, R.bind_ok]; rfl) (by show 18 ≤ SZ; decide)]
          rfl
        obtain ⟨x2, ah2, e2, d2, x2m⟩ := call_pick (j := j) (d := .lst (wrongs.map D.str)) hs1.pool (.inl rfl) (fun m h => by cases h) (by simp [wrongs]) (by simp [wrongs])
        obtain ⟨w, hw, rfl⟩ := List.mem_map.mp x2m
        refine ⟨w, ah2, ?_, hs1.drawn d2, bad_wrongs w hw⟩
        show finK (evSs (cfgK pr (j + 2)) none (.cons (.ret (.call 7 (.cons (.var 0) (.cons lst18 .nil)))) .nil) [some (.loc 0), some e.d, some (.str e.ln), some (.int q), none] ah1) = _
        rw [x_rt (x_ret (x_call2 (x_var rfl) l18 (show (cfgK pr (j + 2)).cf 7 _ _ = _ from e2)))]
        rfl
end SW
end

section
set_option Elab.async false
set_option linter.all false
set_option maxRecDepth 100000
set_option maxHeartbeats 1000000
/-! k53, plain: reading what was written -/
namespace SW
open M
theorem ln_no10 (e : Deed) (h : e.Ok) : 10 ∉ e.ln := join_no (n10 e h)
theorem ln_ne (e : Deed) : e.ln ≠ [] := by
  unfold Deed.ln
  rw [ps_ht]
  cases e <;> simp [Deed.hd, Deed.tl, TL.joinL, sEdit, sFire, sSet, sReload]
theorem okT_deeds (es : List Deed) : okT 3 (.tup [.str sDeeds, .tup (es.map Deed.d)]) = true := by
  have h : okT 2 (.tup (es.map Deed.d)) = true := by
    show ((es.map Deed.d).all fun x => okT 1 x) = true
    rw [List.all_eq_true]
    intro x hx
    obtain ⟨e, _, rfl⟩ := List.mem_map.mp hx
    cases e <;> rfl
  show (okT 2 (.str sDeeds) && (okT 2 (.tup (es.map Deed.d)) && true)) = true
  rw [h]
  rfl
theorem same12 (x : D) (h : okT 3 x = true) (ah : AH) : callF pr 12 10 [x, x] ah = .ok (.bl true) ah := call_same 3 x h 8 ah
theorem read_nil {ah : AH} : callF pr 12 14 [.str []] ah = .ok (.tup [.str sDeeds, .tup []]) ah := by
  have r0 : callF pr 11 4 [.str []] [] = .ok (.tup []) [] := by
    rw [callF_pure (j := 10) (sl := 5) (pa := 1) (b := b4) (es := [.str []]) rfl rfl rfl]
    show finP true [] (evSs (cfgK pr 10) none (.cons _ _) [some (.str []), none, none, none, none] []) = _
    rw [x_rt (by rw [x_iteT (x_op2 (x_var rfl) x_con pr_eqS), x_rt (x_ret (x_tup x_es0 (by decide)))])]
    rfl
  rw [callF_pure (j := 11) (sl := 3) (pa := 1) (b := b14) (es := [.str []]) rfl rfl rfl]
  show finP true ah (evSs (cfgK pr 11) none (.cons (.tryS (.cons (.asg (.name 1) (.call 4 (.cons (.var 0) .nil))) .nil) _) (.cons _ .nil)) [some (.str []), none, none] []) = _
  have e : evSs (cfgK pr 11) none (.cons (.asg (.name 1) (.call 4 (.cons (.var 0) .nil))) .nil) [some (.str []), none, none] [] = .nx [some (.str []), some (.tup []), none] [] := by
    have ec : evE (cfgK pr 11) none (.call 4 (.cons (.var 0) .nil)) [some (.str []), none, none] [] = .ok (.tup []) [] := x_call1 (x_var rfl) r0
    rw [x_nx (x_asg ec), x_nil]
    rfl
  have tr : ∀ h, evS (cfgK pr 11) none (.tryS (.cons (.asg (.name 1) (.call 4 (.cons (.var 0) .nil))) .nil) h) [some (.str []), none, none] [] = .nx [some (.str []), some (.tup []), none] [] := fun h => by simp only [evS, e]
  rw [x_nx (tr _), x_rt (x_ret (x_tup (x_es x_con (x_es (x_var rfl) x_es0)) (by show 2 ≤ SZ; decide)))]
  rfl
theorem joinL_ne {l : List (List Nat)} (h : ∃ p r, l = p :: r ∧ (p ≠ [] ∨ r ≠ [])) : TL.joinL [10] l ≠ [] := by
  obtain ⟨p, r, rfl, h⟩ := h
  cases r with
  | nil =>
    rcases h with h | h
    · simpa [TL.joinL] using h
    · exact absurd rfl h
  | cons a r => simp [TL.joinL]
theorem sum_le {l : List (List Nat)} (h : ∀ p ∈ l, p.length ≤ 40) : (l.map List.length).sum ≤ 40 * l.length := by
  induction l with
  | nil => simp
  | cons p l ih =>
    have := ih fun q hq => h q (List.mem_cons_of_mem _ hq)
    have := h p List.mem_cons_self
    simp only [List.map_cons, List.sum_cons, List.length_cons]
    omega
theorem join_len {l : List (List Nat)} (h : ∀ p ∈ l, p.length ≤ 40) : (TL.joinL [10] l).length ≤ 41 * l.length := by
  have h1 := joinL_len [10] l
  have h2 := sum_le h
  rw [List.length_singleton] at h1
  omega
/-- any lines are read -/
theorem read_lines {ls : List (List Nat)} {ah : AH} (h10 : ∀ p ∈ ls, 10 ∉ p) (hz : ∀ p ∈ ls, p.length ≤ 40) (hn : ls.length ≤ 100) (h0 : ∃ p r, ls = p :: r ∧ (p ≠ [] ∨ r ≠ [])) :
    callF pr 12 14 [.str (TL.joinL [10] ls)] ah = match firstN ls with
      | none => .ok (.tup [.str sDeeds, .tup (ls.map rdl)]) ah
      | some i => .ok (.tup [.str sLine, .int ((i : Int) + 1)]) ah := by
  have hne : ls ≠ [] := by obtain ⟨p, r, rfl, _⟩ := h0; simp
  exact call_read (j := 8) (TL.spl_join hne h10) (joinL_ne h0) (by have := join_len hz; unfold SZ; omega) (fun l hl => by have := hz l hl; unfold SZ; omega) (by omega)
theorem read_ok {es : List Deed} {ah : AH} (h : AllOk es) (hn : es.length ≤ 100) : callF pr 12 14 [.str (txt es)] ah = .ok (.tup [.str sDeeds, .tup (es.map Deed.d)]) ah := by
  cases es with
  | nil => exact read_nil
  | cons e es =>
    obtain ⟨f1, f2⟩ := first_lns h
    have := read_lines (ah := ah) (ls := (e :: es).map Deed.ln) (fun p hp => by
      obtain ⟨x, hx, rfl⟩ := List.mem_map.mp hp
      exact ln_no10 x (h x hx)) (fun p hp => by
      obtain ⟨x, hx, rfl⟩ := List.mem_map.mp hp
      have := x.lnlen (h x hx)
      omega) (by rw [List.length_map]; exact hn) ⟨e.ln, es.map Deed.ln, rfl, .inl (ln_ne e)⟩
    rw [f1, f2] at this
    exact this
theorem read_bad {es : List Deed} {w : List Nat} {r : List (List Nat)} {ah : AH} (h : AllOk es) (hw : BadL w) (hr : ∀ p ∈ r, 10 ∉ p ∧ p.length ≤ 40) (hn : es.length + r.length ≤ 90) (h0 : es ≠ [] ∨ w ≠ [] ∨ r ≠ []) :
    callF pr 12 14 [.str (TL.joinL [10] (es.map Deed.ln ++ w :: r))] ah = .ok (.tup [.str sLine, .int ((es.length : Int) + 1)]) ah := by
  have all : ∀ p ∈ es.map Deed.ln ++ w :: r, 10 ∉ p ∧ p.length ≤ 40 := fun p hp => by
    rcases List.mem_append.mp hp with hp | hp
    · obtain ⟨x, hx, rfl⟩ := List.mem_map.mp hp
      have := x.lnlen (h x hx)
      exact ⟨ln_no10 x (h x hx), by omega⟩
    · rcases List.mem_cons.mp hp with rfl | hp
      · exact ⟨hw.no10, hw.len⟩
      · exact hr p hp
  have := read_lines (ah := ah) (ls := es.map Deed.ln ++ w :: r) (fun p hp => (all p hp).1) (fun p hp => (all p hp).2) (by rw [List.length_append, List.length_map, List.length_cons]; omega) (by
    cases es with
    | nil => exact ⟨w, r, rfl, h0.elim (fun z => absurd rfl z) id⟩
    | cons e es => exact ⟨e.ln, _, rfl, .inl (ln_ne e)⟩)
  rw [first_at h hw.non] at this
  exact this
theorem bad_nil : BadL [] := bad_wrongs [] (by decide)
end SW
end

section
set_option Elab.async false
set_option linter.all false
set_option maxRecDepth 100000
set_option maxHeartbeats 2000000
/-! k53, plain: the law -/
namespace SW
open M
theorem good_list {xs : List D} (h : ∀ x ∈ xs, GoodD x) : ∃ es : List Deed, xs = es.map Deed.d ∧ AllOk es := by
  induction xs with
  | nil => exact ⟨[], rfl, fun e he => by cases he⟩
  | cons x xs ih =>
    obtain ⟨es, rfl, h2⟩ := ih fun y hy => h y (List.mem_cons_of_mem _ hy)
    obtain ⟨e, rfl, he⟩ := h x List.mem_cons_self
    exact ⟨e :: es, rfl, fun z hz => (List.mem_cons.mp hz).elim (fun q => by rw [q]; exact he) (h2 z)⟩
/-- deeds drawn -/
theorem comp_deeds {env : Env1} {ah : AH} {l : List D} {m : Int} (h1 : env[1]? = some (some (.loc 0))) (h4 : env[4]? = some (some (.loc 1))) (hlen : env.length = 14) (hs : St1 [.lst l] ah) (hl : AllS l) (h0 : l ≠ []) (h26 : l.length < 26) (hm : 0 < m) (hm2 : m ≤ 10) :
    ∃ es ah', evE (cfgK pr 12) none (.comp false (.name 12) (.range1 (.call 6 (.cons (.var 1) (.cons (.con (.int 21)) .nil)))) .nil (.call 12 (.cons (.var 1) (.cons (.var 4) (.cons (.con (.int m)) .nil)))) [12]) env ah = .ok (.lst (es.map Deed.d)) ah' ∧ St1 [.lst l] ah' ∧ AllOk es ∧ es.length ≤ 20 := by
  obtain ⟨q, ah1, e1, d1, r1, r2⟩ := call_draw (P := pr) (f := 6) rfl (j := 11) (m := 21) hs.pool (by omega) (by omega)
  have hs1 := hs.drawn d1
  have ec : evE (cfgK pr 12) none (.call 6 (.cons (.var 1) (.cons (.con (.int 21)) .nil))) env ah = .ok (.int q) ah1 := x_call2 (x_var h1) x_con e1
  obtain ⟨xs, ah2, e2, hs2, hg, hlx⟩ := x_compI (G := cfgK pr 12) (cx := none) (env := env) (ah := ah) (i := 12) (elt := .call 12 (.cons (.var 1) (.cons (.var 4) (.cons (.con (.int m)) .nil)))) (own := [12]) (I := St1 [.lst l]) (Gd1 := GoodD) (i_range ec (by omega) (by omega)) hs1 fun d hd ah hI => by
    obtain ⟨x, ah', e, h5, h6⟩ := call_deed (j := 9) (m := m) hI hl h0 h26 hm hm2
    refine ⟨x, ah', ?_, h5, h6⟩
    have v1 : ((wipeE env [12]).set 12 (some d))[1]? = some (some (.loc 0)) := by
      show ((env.set 12 none).set 12 (some d))[1]? = _
      rw [List.getElem?_set_ne (by decide), List.getElem?_set_ne (by decide), h1]
    have v4 : ((wipeE env [12]).set 12 (some d))[4]? = some (some (.loc 1)) := by
      show ((env.set 12 none).set 12 (some d))[4]? = _
      rw [List.getElem?_set_ne (by decide), List.getElem?_set_ne (by decide), h4]
    have es : evEs (cfgK pr 12) none (.cons (.var 1) (.cons (.var 4) (.cons (.con (.int m)) .nil))) ((wipeE env [12]).set 12 (some d)) ah = .ok [.loc 0, .loc 1, .int m] ah := x_es (x_var v1) (x_es (x_var v4) (x_es x_con x_es0))
    simp only [evE, es, R.bind_ok]
    exact e
  obtain ⟨es, rfl, ho⟩ := good_list hg
  refine ⟨es, ah2, e2, hs2, ho, ?_⟩
  rw [List.length_map] at hlx
  rw [hlx]
  unfold rangeD
  rw [List.length_map, List.length_range]
  omega
/-- their lines -/
theorem comp_lines {env : Env1} {ah : AH} {es : List Deed} {v : Nat} (hv : env[v]? = some (some (.lst (es.map Deed.d)))) (hlen : env.length = 14) (h : AllOk es) :
    evE (cfgK pr 12) none (.comp false (.name 13) (.seq (.var v)) .nil (.call 11 (.cons (.var 13) .nil)) [13]) env ah = .ok (.lst ((es.map Deed.ln).map D.str)) ah := by
  have cmp := x_comp (G := cfgK pr 12) (cx := none) (env := env) (ah := ah) (i := 13) (ci := .seq (.var v)) (cond := .nil) (elt := .call 11 (.cons (.var 13) .nil)) (own := [13]) (ds := es.map Deed.d) (ah1 := ah) (p := fun _ => true) (f := lnD) (i_seqL (x_var hv)) (fun d hd => by simp only [evC]) fun d hd _ => by
    obtain ⟨e, he, rfl⟩ := List.mem_map.mp hd
    rw [lnD_eq e (h e he)]
    have cl : callF pr 12 11 [e.d] ah = .ok (.str e.ln) ah := call_line (j := 11) e (h e he)
    refine x_call1 (x_var ?_) cl
    show ((env.set 13 none).set 13 (some e.d))[13]? = _
    rw [List.set_set]
    exact List.getElem?_set_self (by rw [hlen]; decide)
  have ef : ((es.map Deed.d).filter fun _ => true) = es.map Deed.d := List.filter_eq_self.mpr fun _ _ => rfl
  rw [ef, map_ln h] at cmp
  exact cmp
theorem join_lns {es : List Deed} {ah : AH} (h : AllOk es) (hn : es.length ≤ 100) : prim .join [.str [10], .lst ((es.map Deed.ln).map D.str)] ah = .ok (.str (txt es)) ah := by
  have hl := lns_len h
  exact pr_join (by rw [List.length_map, List.length_singleton]; unfold SZ; omega)
end SW
end

section
set_option Elab.async false
set_option linter.all false
set_option maxRecDepth 100000
set_option maxHeartbeats 2000000
/-! k53, plain: the law's checks -/
namespace SW
open M
def envT (ns : List Int) (sp li : Bool) (W Dd : List Deed) (A : D) (L at_ wr k de : Option D) : Env1 := [some (.scr ns), some (.loc 0), some (.bl sp), some (.bl li), some (.loc 1), some (.lst (W.map Deed.d)), some (.lst (Dd.map Deed.d)), some A, some (.str (txt Dd)), L, at_, wr, k, de]
theorem depth_d : ∀ es : List Deed, D.areData (es.map Deed.d) = true ∧ D.depths (es.map Deed.d) ≤ 1 ∧ D.eqvs (es.map Deed.d) (es.map Deed.d) = true
  | [] => ⟨rfl, by decide, rfl⟩
  | e :: es => by
    obtain ⟨h1, h2, h3⟩ := depth_d es
    have a1 : D.isData e.d = true := by cases e <;> rfl
    have a2 : D.depth e.d ≤ 1 := by cases e <;> (show 1 ≤ 1) <;> decide
    have a3 : D.eqv e.d e.d = true := by cases e <;> simp [Deed.d, D.eqv, D.eqvs]
    refine ⟨by simp only [List.map_cons, D.areData, a1, h1, Bool.and_true], ?_, by simp only [List.map_cons, D.eqvs, a3, h3, Bool.and_true]⟩
    simp only [List.map_cons, D.depths]
    omega
theorem ne_self {es : List Deed} {ah : AH} : prim .ne [.lst (es.map Deed.d), .lst (es.map Deed.d)] ah = .ok (.bl false) ah := by
  show onData (fun d e => .bl (!D.eqv d e)) (.lst (es.map Deed.d)) (.lst (es.map Deed.d)) ah = _
  obtain ⟨h1, h2, h3⟩ := depth_d es
  have nl := deeds_nl es
  unfold onData rd
  simp only [D.frz, frzs_nl _ _ nl, D.isData, h1, D.depth, D.eqv, h3]
  rw [if_pos ⟨trivial, trivial, by omega, by omega⟩]
  rfl
section
variable {ns : List Int} {sp li : Bool} {W Dd : List Deed} {A : D} {L at_ wr k de : Option D} {ah : AH}
theorem chk9 (hA : A = .tup (Dd.map Deed.d) ∨ A = .lst (Dd.map Deed.d)) (hD : AllOk Dd) (hn : Dd.length ≤ 20) : evE (cfgK pr 12) none (.or (.not (.call 10 (.cons (.call 2 (.cons (.var 7) .nil)) (.cons (.var 8) .nil)))) (.op .ne (.cons (.op (.list false) (.cons (.var 7) .nil)) (.cons (.var 6) .nil)))) (envT ns sp li W Dd A L at_ wr k de) ah = .ok (.bl false) ah := by
  have cw : callF pr 12 2 [A] ah = .ok (.str (txt Dd)) ah := call_write (j := 11) hA hD (by omega)
  have cs : callF pr 12 10 [.str (txt Dd), .str (txt Dd)] ah = .ok (.bl true) ah := same12 _ rfl ah
  have e1 : evE (cfgK pr 12) none (.call 2 (.cons (.var 7) .nil)) (envT ns sp li W Dd A L at_ wr k de) ah = .ok (.str (txt Dd)) ah := x_call1 (x_var rfl) cw
  have e2 : evE (cfgK pr 12) none (.call 10 (.cons (.call 2 (.cons (.var 7) .nil)) (.cons (.var 8) .nil))) (envT ns sp li W Dd A L at_ wr k de) ah = .ok (.bl true) ah := x_call2 e1 (x_var rfl) cs
  have pl : prim (.list false) [A] ah = .ok (.lst (Dd.map Deed.d)) ah := by rcases hA with rfl | rfl <;> rfl
  rw [x_orF (x_not e2)]
  exact x_op2 (x_op1 (x_var rfl) pl) (x_var rfl) ne_self
theorem chk10 (hD : AllOk Dd) (hn : Dd.length ≤ 20) : evE (cfgK pr 12) none (.not (.call 10 (.cons (.call 14 (.cons (.var 8) .nil)) (.cons (.tup (.cons (.con (.str [100, 101, 101, 100, 115])) (.cons (.op .tuple (.cons (.var 6) .nil)) .nil))) .nil)))) (envT ns sp li W Dd A L at_ wr k de) ah = .ok (.bl false) ah := by
  have cr := read_ok (ah := ah) hD (by omega)
  have cs := same12 _ (okT_deeds Dd) ah
  have e1 : evE (cfgK pr 12) none (.call 14 (.cons (.var 8) .nil)) (envT ns sp li W Dd A L at_ wr k de) ah = .ok (.tup [.str sDeeds, .tup (Dd.map Deed.d)]) ah := x_call1 (x_var rfl) cr
  have e3 : evE (cfgK pr 12) none (.op .tuple (.cons (.var 6) .nil)) (envT ns sp li W Dd A L at_ wr k de) ah = .ok (.tup (Dd.map Deed.d)) ah := x_op1 (x_var rfl) rfl
  have e2 : evE (cfgK pr 12) none (.call 10 (.cons (.call 14 (.cons (.var 8) .nil)) (.cons (.tup (.cons (.con (.str [100, 101, 101, 100, 115])) (.cons (.op .tuple (.cons (.var 6) .nil)) .nil))) .nil))) (envT ns sp li W Dd A L at_ wr k de) ah = .ok (.bl true) ah := x_call2 e1 (x_tup (x_es x_con (x_es e3 x_es0)) (by show 2 ≤ SZ; decide)) cs
  exact x_not e2
theorem chk12 (hW : AllOk W) (hn : W.length ≤ 20) : evE (cfgK pr 12) none (.not (.call 10 (.cons (.call 14 (.cons (.meth .str .join (.con (.str [10])) (.cons (.var 9) .nil)) .nil)) (.cons (.tup (.cons (.con (.str [100, 101, 101, 100, 115])) (.cons (.op .tuple (.cons (.var 5) .nil)) .nil))) .nil)))) (envT ns sp li W Dd A (some (.lst ((W.map Deed.ln).map D.str))) at_ wr k de) ah = .ok (.bl false) ah := by
  have cr := read_ok (ah := ah) hW (by omega)
  have cs := same12 _ (okT_deeds W) ah
  have ej : evE (cfgK pr 12) none (.meth .str .join (.con (.str [10])) (.cons (.var 9) .nil)) (envT ns sp li W Dd A (some (.lst ((W.map Deed.ln).map D.str))) at_ wr k de) ah = .ok (.str (txt W)) ah := x_meth1 x_con rfl (x_var rfl) (join_lns hW (by omega))
  have e1 : evE (cfgK pr 12) none (.call 14 (.cons (.meth .str .join (.con (.str [10])) (.cons (.var 9) .nil)) .nil)) (envT ns sp li W Dd A (some (.lst ((W.map Deed.ln).map D.str))) at_ wr k de) ah = .ok (.tup [.str sDeeds, .tup (W.map Deed.d)]) ah := x_call1 ej cr
  have e3 : evE (cfgK pr 12) none (.op .tuple (.cons (.var 5) .nil)) (envT ns sp li W Dd A (some (.lst ((W.map Deed.ln).map D.str))) at_ wr k de) ah = .ok (.tup (W.map Deed.d)) ah := x_op1 (x_var rfl) rfl
  have e2 : evE (cfgK pr 12) none (.call 10 (.cons (.call 14 (.cons (.meth .str .join (.con (.str [10])) (.cons (.var 9) .nil)) .nil)) (.cons (.tup (.cons (.con (.str [100, 101, 101, 100, 115])) (.cons (.op .tuple (.cons (.var 5) .nil)) .nil))) .nil))) (envT ns sp li W Dd A (some (.lst ((W.map Deed.ln).map D.str))) at_ wr k de) ah = .ok (.bl true) ah := x_call2 e1 (x_tup (x_es x_con (x_es e3 x_es0)) (by show 2 ≤ SZ; decide)) cs
  exact x_not e2
theorem last14 (hD : AllOk Dd) (hn : Dd.length ≤ 20) : evE (cfgK pr 12) none (.call 10 (.cons (.call 14 (.cons (.op (.add false) (.cons (.var 8) (.cons (.con (.str [10])) .nil))) .nil)) (.cons (.ite (.op .gt (.cons (.op .len (.cons (.var 6) .nil)) (.cons (.con (.int 0)) .nil))) (.tup (.cons (.con (.str [108, 105, 110, 101])) (.cons (.op .max2 (.cons (.con (.int 1)) (.cons (.op (.add false) (.cons (.op .len (.cons (.var 6) .nil)) (.cons (.con (.int 1)) .nil))) .nil))) .nil))) (.tup (.cons (.con (.str [108, 105, 110, 101])) (.cons (.con (.int 1)) .nil)))) .nil))) (envT ns sp li W Dd A L at_ wr k de) ah = .ok (.bl true) ah := by
  have ln : evE (cfgK pr 12) none (.op .len (.cons (.var 6) .nil)) (envT ns sp li W Dd A L at_ wr k de) ah = .ok (.int Dd.length) ah := by
    have := x_op1 (G := cfgK pr 12) (cx := none) (env := envT ns sp li W Dd A L at_ wr k de) (ah := ah) (x_var (i := 6) rfl) (pr_lenL (ah := ah))
    rw [List.length_map] at this
    exact this
  have et : evE (cfgK pr 12) none (.op (.add false) (.cons (.var 8) (.cons (.con (.str [10])) .nil))) (envT ns sp li W Dd A L at_ wr k de) ah = .ok (.str (txt Dd ++ [10])) ah := x_op2 (x_var rfl) x_con (pr_addS (by have := txt_len hD; rw [List.length_singleton]; unfold SZ; omega))
  have fin : ∀ (i : Int) (c : CE), evE (cfgK pr 12) none c (envT ns sp li W Dd A L at_ wr k de) ah = .ok (.tup [.str sLine, .int i]) ah → callF pr 12 14 [.str (txt Dd ++ [10])] ah = .ok (.tup [.str sLine, .int i]) ah → evE (cfgK pr 12) none (.call 10 (.cons (.call 14 (.cons (.op (.add false) (.cons (.var 8) (.cons (.con (.str [10])) .nil))) .nil)) (.cons c .nil))) (envT ns sp li W Dd A L at_ wr k de) ah = .ok (.bl true) ah := fun i c hc hr => by
    have e1 : evE (cfgK pr 12) none (.call 14 (.cons (.op (.add false) (.cons (.var 8) (.cons (.con (.str [10])) .nil))) .nil)) (envT ns sp li W Dd A L at_ wr k de) ah = .ok (.tup [.str sLine, .int i]) ah := x_call1 et hr
    exact x_call2 e1 hc ((show callF pr 12 10 [.tup [.str sLine, .int i], .tup [.str sLine, .int i]] ah = .ok (.bl true) ah from same12 (.tup [.str sLine, .int i]) rfl ah))
  have gt : evE (cfgK pr 12) none (.op .gt (.cons (.op .len (.cons (.var 6) .nil)) (.cons (.con (.int 0)) .nil))) (envT ns sp li W Dd A L at_ wr k de) ah = .ok (.bl (decide ((0 : Int) < Dd.length))) ah := x_op2 ln x_con pr_gt
  cases Dd with
  | nil =>
    refine fin 1 _ ?_ (read_bad (es := []) (w := []) (r := [[]]) hD bad_nil (fun p hp => by rw [List.mem_singleton.mp hp]; exact ⟨by simp, by simp⟩) (by simp) (.inr (.inr (by simp))))
    have tt : evE (cfgK pr 12) none (.tup (.cons (.con (.str [108, 105, 110, 101])) (.cons (.con (.int 1)) .nil))) (envT ns sp li W [] A L at_ wr k de) ah = .ok (.tup [.str sLine, .int 1]) ah := x_tup (x_es x_con (x_es x_con x_es0)) (by show 2 ≤ SZ; decide)
    have g0 : decide ((0 : Int) < ((([] : List Deed).length : Nat) : Int)) = false := rfl
    rw [g0] at gt
    simp only [evE] at gt tt
    simp only [evE]
    rw [gt]
    simp only [toB, R.bind_ok, truth, Bool.false_eq_true, if_false]
    exact tt
  | cons e es =>
    have rd := read_bad (ah := ah) (es := e :: es) (w := []) (r := []) hD bad_nil (fun p hp => by cases hp) (by simp only [List.length_nil]; omega) (.inl (by simp))
    have tq : TL.joinL [10] ((e :: es).map Deed.ln ++ [[]]) = txt (e :: es) ++ [10] := by
      rw [join_snoc (by simp)]
      rfl
    rw [tq] at rd
    refine fin _ _ ?_ rd
    have mx : prim .max2 [.int 1, .int (((e :: es).length : Int) + 1)] ah = .ok (.int (((e :: es).length : Int) + 1)) ah := by
      show R.ok (D.int (if ((e :: es).length : Int) + 1 > 1 then _ else _)) ah = _
      rw [if_pos (by simp only [List.length_cons]; omega)]
    have tt : evE (cfgK pr 12) none (.tup (.cons (.con (.str [108, 105, 110, 101])) (.cons (.op .max2 (.cons (.con (.int 1)) (.cons (.op (.add false) (.cons (.op .len (.cons (.var 6) .nil)) (.cons (.con (.int 1)) .nil))) .nil))) .nil))) (envT ns sp li W (e :: es) A L at_ wr k de) ah = .ok (.tup [.str sLine, .int (((e :: es).length : Int) + 1)]) ah := x_tup (x_es x_con (x_es (x_op2 x_con (x_op2 ln x_con pr_addI) mx) x_es0)) (by show 2 ≤ SZ; decide)
    have g0 : decide ((0 : Int) < (((e :: es).length : Nat) : Int)) = true := decide_eq_true (by simp only [List.length_cons]; omega)
    rw [g0] at gt
    simp only [evE] at gt tt
    simp only [evE]
    rw [gt]
    simp only [toB, R.bind_ok, truth, if_true]
    exact tt
end
end SW
end

section
set_option Elab.async false
set_option linter.all false
set_option maxRecDepth 100000
set_option maxHeartbeats 2000000
/-! k53, plain: a wrong line is told -/
namespace SW
open M
theorem cl_to {k : Nat} {xs : List D} : cutL xs none (some (k : Int)) = xs.take k := by
  unfold cutL
  rw [HT.sIx_none, HT.sIx_nat, List.drop_zero, Nat.sub_zero, List.take_eq_take_iff]
  omega
theorem cl_from {k : Nat} {xs : List D} : cutL xs (some (k : Int)) none = xs.drop k := by
  unfold cutL
  rw [HT.sIx_none, HT.sIx_nat]
  by_cases h : k ≤ xs.length
  · rw [Nat.min_eq_left h, List.take_of_length_le (by rw [List.length_drop]; exact Nat.le_refl _)]
  · rw [Nat.min_eq_right (by omega), List.drop_length, List.drop_eq_nil_of_le (by omega)]
    simp
theorem sll_to {k : Nat} {xs : List D} {ah : AH} : pSlice false none (some (k : Int)) ah (.lst xs) = .ok (.lst (xs.take k)) ah := by
  show mkL false (cutL xs none (some (k : Int))) ah = _
  rw [cl_to]
  rfl
theorem sll_from {k : Nat} {xs : List D} {ah : AH} : pSlice false (some (k : Int)) none ah (.lst xs) = .ok (.lst (xs.drop k)) ah := by
  show mkL false (cutL xs (some (k : Int)) none) ah = _
  rw [cl_from]
  rfl
theorem pr_addL {m : Bool} {x y : List D} {ah : AH} (h : x.length + y.length ≤ SZ) : prim (.add m) [.lst x, .lst y] ah = mkL m (x ++ y) ah := by
  show (if x.length + y.length ≤ SZ then _ else _) = _
  rw [if_pos h]
def s5 : CS := (.ite (.op .eq (.cons (.call 6 (.cons (.var 1) (.cons (.con (.int 3)) .nil))) (.cons (.con (.int 0)) .nil))) (.cons (.ex (.meth .list .append (.var 9) (.cons (.con (.str [81])) .nil))) .nil) .nil)
def s6 : CS := (.ret (.call 10 (.cons (.call 14 (.cons (.meth .str .join (.con (.str [10])) (.cons (.var 9) .nil)) .nil)) (.cons (.tup (.cons (.con (.str [108, 105, 110, 101])) (.cons (.op (.add false) (.cons (.var 10) (.cons (.con (.int 1)) .nil))) .nil))) .nil))))
theorem fin6 {env : Env1} {ah : AH} {l : List D} {es : List Deed} {w : List Nat} {r : List (List Nat)} (v9 : env[9]? = some (some (.loc 2))) (v10 : env[10]? = some (some (.int (es.length : Int)))) (hs : St1 [.lst l, .lst ((es.map Deed.ln ++ w :: r).map D.str)] ah) (h : AllOk es) (hw : BadL w) (hr : ∀ p ∈ r, 10 ∉ p ∧ p.length ≤ 40) (hn : es.length + r.length ≤ 60) (h0 : es ≠ [] ∨ w ≠ [] ∨ r ≠ []) : evS (cfgK pr 12) none s6 env ah = .ret (.bl true) ah := by
  have hc : ah[2]? = some (.lst ((es.map Deed.ln ++ w :: r).map D.str)) := by
    obtain ⟨g, s, c, k, rfl, h1, h2⟩ := hs
    rfl
  have hz : ((es.map Deed.ln ++ w :: r).map List.length).sum ≤ 40 * (es.map Deed.ln ++ w :: r).length := sum_le fun p hp => by
    rcases List.mem_append.mp hp with hp | hp
    · obtain ⟨x, hx, rfl⟩ := List.mem_map.mp hp
      have := x.lnlen (h x hx)
      omega
    · rcases List.mem_cons.mp hp with rfl | hp
      · exact hw.len
      · exact (hr p hp).2
  have hl : (es.map Deed.ln ++ w :: r).length ≤ 62 := by
    rw [List.length_append, List.length_map, List.length_cons]
    omega
  have hj : prim .join [.str [10], .loc 2] ah = .ok (.str (TL.joinL [10] (es.map Deed.ln ++ w :: r))) ah := by
    show pJoin (.str [10]) (.loc 2) ah = _
    simp only [pJoin, seqOf, hc, strs_map]
    exact if_pos (by rw [List.length_singleton]; unfold SZ; omega)
  have ej : evE (cfgK pr 12) none (.meth .str .join (.con (.str [10])) (.cons (.var 9) .nil)) env ah = .ok (.str (TL.joinL [10] (es.map Deed.ln ++ w :: r))) ah := x_meth1 x_con rfl (x_var v9) hj
  have rd : callF pr 12 14 [.str (TL.joinL [10] (es.map Deed.ln ++ w :: r))] ah = .ok (.tup [.str sLine, .int ((es.length : Int) + 1)]) ah := read_bad h hw hr (by omega) h0
  have e1 : evE (cfgK pr 12) none (.call 14 (.cons (.meth .str .join (.con (.str [10])) (.cons (.var 9) .nil)) .nil)) env ah = .ok (.tup [.str sLine, .int ((es.length : Int) + 1)]) ah := x_call1 ej rd
  have e2 : evE (cfgK pr 12) none (.tup (.cons (.con (.str [108, 105, 110, 101])) (.cons (.op (.add false) (.cons (.var 10) (.cons (.con (.int 1)) .nil))) .nil))) env ah = .ok (.tup [.str sLine, .int ((es.length : Int) + 1)]) ah := x_tup (x_es x_con (x_es (x_op2 (x_var v10) x_con pr_addI) x_es0)) (by show 2 ≤ SZ; decide)
  have cs : callF pr 12 10 [.tup [.str sLine, .int ((es.length : Int) + 1)], .tup [.str sLine, .int ((es.length : Int) + 1)]] ah = .ok (.bl true) ah := same12 (.tup [.str sLine, .int ((es.length : Int) + 1)]) rfl ah
  exact x_ret (x_call2 e1 e2 cs)
theorem fin13 {env : Env1} {ah : AH} {l : List D} {es : List Deed} {w : List Nat} {r : List (List Nat)} (v1 : env[1]? = some (some (.loc 0))) (v9 : env[9]? = some (some (.loc 2))) (v10 : env[10]? = some (some (.int (es.length : Int)))) (hs : St1 [.lst l, .lst ((es.map Deed.ln ++ w :: r).map D.str)] ah) (h : AllOk es) (hw : BadL w) (hr : ∀ p ∈ r, 10 ∉ p ∧ p.length ≤ 40) (hn : es.length + r.length ≤ 50) (h0 : es ≠ [] ∨ w ≠ [] ∨ r ≠ []) : ∃ ah', evSs (cfgK pr 12) none (.cons s5 (.cons s6 .nil)) env ah = .ret (.bl true) ah' := by
  obtain ⟨q, ah1, e1, d1, r1, r2⟩ := call_draw (P := pr) (f := 6) rfl (j := 11) (m := 3) hs.pool (by omega) (by omega)
  have hs1 := hs.drawn d1
  have tst : evE (cfgK pr 12) none (.op .eq (.cons (.call 6 (.cons (.var 1) (.cons (.con (.int 3)) .nil))) (.cons (.con (.int 0)) .nil))) env ah = .ok (.bl (decide (q = 0))) ah1 := x_op2 (x_call2 (x_var v1) x_con e1) x_con pr_eqI
  by_cases c0 : q = 0
  · rw [decide_eq_true c0] at tst
    have hc : ah1[2]? = some (.lst ((es.map Deed.ln ++ w :: r).map D.str)) := by
      obtain ⟨g, s, c, k, rfl, h1, h2⟩ := hs1
      rfl
    have hs2 : St1 [.lst l, .lst ((es.map Deed.ln ++ w :: (r ++ [[81]])).map D.str)] (ah1.set 2 (.lst ((es.map Deed.ln ++ w :: r).map D.str ++ [.str [81]]))) := by
      obtain ⟨g, s, c, k, rfl, h1, h2⟩ := hs1
      refine ⟨g, s, c, k, ?_, h1, h2⟩
      have : (es.map Deed.ln ++ w :: (r ++ [[81]])).map D.str = (es.map Deed.ln ++ w :: r).map D.str ++ [.str [81]] := by simp
      rw [this]
      rfl
    have hap : prim .append [.loc 2, .str [81]] ah1 = .ok .non (ah1.set 2 (.lst ((es.map Deed.ln ++ w :: r).map D.str ++ [.str [81]]))) := by
      show (match ah1[2]? with
        | some (.lst xs) => if xs.length < SZ then R.ok D.non (ah1.set 2 (.lst (xs ++ [D.str [81]]))) else R.bad
        | _ => R.bad) = _
      rw [hc]
      exact if_pos (by rw [List.length_map, List.length_append, List.length_map, List.length_cons]; unfold SZ; omega)
    have hm : isMT ah1 .list (.loc 2) = true := by simp only [isMT, hc]
    have ea : evS (cfgK pr 12) none s5 env ah = .nx env (ah1.set 2 (.lst ((es.map Deed.ln ++ w :: r).map D.str ++ [.str [81]]))) := by
      unfold s5
      rw [x_iteT tst, x_nx (x_ex (x_meth1 (x_var v9) hm x_con hap)), x_nil]
    rw [x_nx ea]
    refine ⟨_, x_rt (fin6 v9 v10 hs2 h hw (fun p hp => ?_) (by rw [List.length_append, List.length_singleton]; omega) (.inr (.inr (by simp))))⟩
    rcases List.mem_append.mp hp with hp | hp
    · exact hr p hp
    · rw [List.mem_singleton.mp hp]
      exact ⟨by decide, by decide⟩
  · rw [decide_eq_false c0] at tst
    have ea : evS (cfgK pr 12) none s5 env ah = .nx env ah1 := by
      unfold s5
      rw [x_iteF tst, x_nil]
    rw [x_nx ea]
    exact ⟨_, x_rt (fin6 v9 v10 hs1 h hw hr (by omega) h0)⟩
end SW
end

section
set_option Elab.async false
set_option linter.all false
set_option maxRecDepth 100000
set_option maxHeartbeats 2000000
/-! k53, plain: the statement with the wrong line -/
namespace SW
open M
def s3 : CS := (.ite (.and (.op .eq (.cons (.var 11) (.cons (.con (.str [])) .nil))) (.op .eq (.cons (.op .len (.cons (.var 9) .nil)) (.cons (.con (.int 1)) .nil)))) (.cons (.ret (.call 10 (.cons (.call 14 (.cons (.con (.str [10])) .nil)) (.cons (.tup (.cons (.con (.str [108, 105, 110, 101])) (.cons (.con (.int 1)) .nil))) .nil)))) .nil) .nil)
def s4 : CS := (.ite (.op .eq (.cons (.call 6 (.cons (.var 1) (.cons (.con (.int 2)) .nil))) (.cons (.con (.int 0)) .nil))) (.cons (.asg (.name 9) (.op (.add true) (.cons (.op (.add false) (.cons (.slice false (.var 9) (.con .non) (.var 10)) (.cons (.lst false (.cons (.var 11) .nil)) .nil))) (.cons (.slice false (.var 9) (.op (.add false) (.cons (.var 10) (.cons (.con (.int 1)) .nil))) (.con .non)) .nil)))) .nil) (.cons (.asg (.name 9) (.op (.add true) (.cons (.op (.add false) (.cons (.slice false (.var 9) (.con .non) (.var 10)) (.cons (.lst false (.cons (.var 11) .nil)) .nil))) (.cons (.slice false (.var 9) (.var 10) (.con .non)) .nil)))) .nil))
theorem St1.app {r : List Cell} {ah : AH} {c : Cell} (h : St1 r ah) : St1 (r ++ [c]) (ah ++ [c]) := by
  obtain ⟨g, s, c', k, rfl, h1, h2⟩ := h
  exact ⟨g, s, c', k, rfl, h1, h2⟩
theorem St1.len2 {x : Cell} {ah : AH} (h : St1 [x] ah) : ah.length = 2 := by
  obtain ⟨g, s, c', k, rfl, h1, h2⟩ := h
  rfl
theorem ev4 {env : Env1} {ah : AH} {L : List D} {w : List Nat} {k : Nat} (m : CE) (j : Nat) (v9 : env[9]? = some (some (.lst L))) (v10 : env[10]? = some (some (.int (k : Int)))) (v11 : env[11]? = some (some (.str w))) (hm : evE (cfgK pr 12) none m env ah = .ok (.int (j : Int)) ah) (hL : L.length ≤ 50) (hz : ah.length = 2) : evE (cfgK pr 12) none (.op (.add true) (.cons (.op (.add false) (.cons (.slice false (.var 9) (.con .non) (.var 10)) (.cons (.lst false (.cons (.var 11) .nil)) .nil))) (.cons (.slice false (.var 9) m (.con .non)) .nil))) env ah = .ok (.loc 2) (ah ++ [.lst (L.take k ++ [.str w] ++ L.drop j)]) := by
  have e1 : evE (cfgK pr 12) none (.slice false (.var 9) (.con .non) (.var 10)) env ah = .ok (.lst (L.take k)) ah := x_slice (x_var v9) x_con (x_var v10) rfl rfl sll_to
  have e2 : evE (cfgK pr 12) none (.lst false (.cons (.var 11) .nil)) env ah = .ok (.lst [.str w]) ah := by
    rw [x_lst (x_es (x_var v11) x_es0) (by show 1 ≤ SZ; decide)]
    rfl
  have e3 : evE (cfgK pr 12) none (.slice false (.var 9) m (.con .non)) env ah = .ok (.lst (L.drop j)) ah := x_slice (x_var v9) hm x_con rfl rfl sll_from
  have p1 : prim (.add false) [.lst (L.take k), .lst [.str w]] ah = .ok (.lst (L.take k ++ [.str w])) ah := by
    rw [pr_addL (by rw [List.length_take, List.length_singleton]; unfold SZ; omega)]
    rfl
  have p2 : prim (.add true) [.lst (L.take k ++ [.str w]), .lst (L.drop j)] ah = .ok (.loc 2) (ah ++ [.lst (L.take k ++ [.str w] ++ L.drop j)]) := by
    rw [pr_addL (by rw [List.length_append, List.length_take, List.length_singleton, List.length_drop]; unfold SZ; omega)]
    show R.ok (D.loc ah.length) _ = _
    rw [hz]
  exact x_op2 (x_op2 e1 e2 p1) e3 p2
theorem stm13 {ns : List Int} {sp li : Bool} {W Dd : List Deed} {A : D} {ah : AH} {l : List D} (hs : St1 [.lst l] ah) (hW : AllOk W) (hn : W.length ≤ 20) :
    evS (cfgK pr 12) none (.ite (.and (.var 2) (.op .gt (.cons (.op .len (.cons (.var 9) .nil)) (.cons (.con (.int 0)) .nil)))) (.cons (.asg (.name 10) (.call 6 (.cons (.var 1) (.cons (.op .len (.cons (.var 9) .nil)) .nil)))) (.cons (.asg (.name 11) (.call 13 (.cons (.var 1) (.cons (.op .idx (.cons (.var 5) (.cons (.var 10) .nil))) .nil)))) (.cons (.ite (.and (.op .eq (.cons (.var 11) (.cons (.con (.str [])) .nil))) (.op .eq (.cons (.op .len (.cons (.var 9) .nil)) (.cons (.con (.int 1)) .nil)))) (.cons (.ret (.call 10 (.cons (.call 14 (.cons (.con (.str [10])) .nil)) (.cons (.tup (.cons (.con (.str [108, 105, 110, 101])) (.cons (.con (.int 1)) .nil))) .nil)))) .nil) .nil) (.cons (.ite (.op .eq (.cons (.call 6 (.cons (.var 1) (.cons (.con (.int 2)) .nil))) (.cons (.con (.int 0)) .nil))) (.cons (.asg (.name 9) (.op (.add true) (.cons (.op (.add false) (.cons (.slice false (.var 9) (.con .non) (.var 10)) (.cons (.lst false (.cons (.var 11) .nil)) .nil))) (.cons (.slice false (.var 9) (.op (.add false) (.cons (.var 10) (.cons (.con (.int 1)) .nil))) (.con .non)) .nil)))) .nil) (.cons (.asg (.name 9) (.op (.add true) (.cons (.op (.add false) (.cons (.slice false (.var 9) (.con .non) (.var 10)) (.cons (.lst false (.cons (.var 11) .nil)) .nil))) (.cons (.slice false (.var 9) (.var 10) (.con .non)) .nil)))) .nil)) (.cons (.ite (.op .eq (.cons (.call 6 (.cons (.var 1) (.cons (.con (.int 3)) .nil))) (.cons (.con (.int 0)) .nil))) (.cons (.ex (.meth .list .append (.var 9) (.cons (.con (.str [81])) .nil))) .nil) .nil) (.cons (.ret (.call 10 (.cons (.call 14 (.cons (.meth .str .join (.con (.str [10])) (.cons (.var 9) .nil)) .nil)) (.cons (.tup (.cons (.con (.str [108, 105, 110, 101])) (.cons (.op (.add false) (.cons (.var 10) (.cons (.con (.int 1)) .nil))) .nil))) .nil)))) .nil)))))) .nil) (envT ns sp li W Dd A (some (.lst ((W.map Deed.ln).map D.str))) none none none none) ah = .nx (envT ns sp li W Dd A (some (.lst ((W.map Deed.ln).map D.str))) none none none none) ah ∨ ∃ ah', evS (cfgK pr 12) none (.ite (.and (.var 2) (.op .gt (.cons (.op .len (.cons (.var 9) .nil)) (.cons (.con (.int 0)) .nil)))) (.cons (.asg (.name 10) (.call 6 (.cons (.var 1) (.cons (.op .len (.cons (.var 9) .nil)) .nil)))) (.cons (.asg (.name 11) (.call 13 (.cons (.var 1) (.cons (.op .idx (.cons (.var 5) (.cons (.var 10) .nil))) .nil)))) (.cons (.ite (.and (.op .eq (.cons (.var 11) (.cons (.con (.str [])) .nil))) (.op .eq (.cons (.op .len (.cons (.var 9) .nil)) (.cons (.con (.int 1)) .nil)))) (.cons (.ret (.call 10 (.cons (.call 14 (.cons (.con (.str [10])) .nil)) (.cons (.tup (.cons (.con (.str [108, 105, 110, 101])) (.cons (.con (.int 1)) .nil))) .nil)))) .nil) .nil) (.cons (.ite (.op .eq (.cons (.call 6 (.cons (.var 1) (.cons (.con (.int 2)) .nil))) (.cons (.con (.int 0)) .nil))) (.cons (.asg (.name 9) (.op (.add true) (.cons (.op (.add false) (.cons (.slice false (.var 9) (.con .non) (.var 10)) (.cons (.lst false (.cons (.var 11) .nil)) .nil))) (.cons (.slice false (.var 9) (.op (.add false) (.cons (.var 10) (.cons (.con (.int 1)) .nil))) (.con .non)) .nil)))) .nil) (.cons (.asg (.name 9) (.op (.add true) (.cons (.op (.add false) (.cons (.slice false (.var 9) (.con .non) (.var 10)) (.cons (.lst false (.cons (.var 11) .nil)) .nil))) (.cons (.slice false (.var 9) (.var 10) (.con .non)) .nil)))) .nil)) (.cons (.ite (.op .eq (.cons (.call 6 (.cons (.var 1) (.cons (.con (.int 3)) .nil))) (.cons (.con (.int 0)) .nil))) (.cons (.ex (.meth .list .append (.var 9) (.cons (.con (.str [81])) .nil))) .nil) .nil) (.cons (.ret (.call 10 (.cons (.call 14 (.cons (.meth .str .join (.con (.str [10])) (.cons (.var 9) .nil)) .nil)) (.cons (.tup (.cons (.con (.str [108, 105, 110, 101])) (.cons (.op (.add false) (.cons (.var 10) (.cons (.con (.int 1)) .nil))) .nil))) .nil)))) .nil)))))) .nil) (envT ns sp li W Dd A (some (.lst ((W.map Deed.ln).map D.str))) none none none none) ah = .ret (.bl true) ah' := by
  have lenL : ((W.map Deed.ln).map D.str).length = W.length := by rw [List.length_map, List.length_map]
  have ln : ∀ at_ wr ah, evE (cfgK pr 12) none (.op .len (.cons (.var 9) .nil)) (envT ns sp li W Dd A (some (.lst ((W.map Deed.ln).map D.str))) at_ wr none none) ah = .ok (.int W.length) ah := fun at_ wr ah => by
    have := x_op1 (G := cfgK pr 12) (cx := none) (env := envT ns sp li W Dd A (some (.lst ((W.map Deed.ln).map D.str))) at_ wr none none) (ah := ah) (x_var (i := 9) rfl) (pr_lenL (ah := ah))
    rw [lenL] at this
    exact this
  cases sp with
  | false =>
    left
    rw [x_iteF (x_andF (x_var rfl)), x_nil]
  | true =>
    have gt : evE (cfgK pr 12) none (.and (.var 2) (.op .gt (.cons (.op .len (.cons (.var 9) .nil)) (.cons (.con (.int 0)) .nil)))) (envT ns true li W Dd A (some (.lst ((W.map Deed.ln).map D.str))) none none none none) ah = .ok (.bl (decide ((0 : Int) < W.length))) ah := by
      rw [x_andT (x_var rfl)]
      exact x_op2 (ln none none ah) x_con pr_gt
    by_cases hW0 : W = []
    · left
      rw [x_iteF (by rw [gt, hW0]; rfl), x_nil]
    · right
      have hp : 0 < W.length := List.length_pos_iff.mpr hW0
      rw [decide_eq_true (by omega)] at gt
      rw [x_iteT gt]
      obtain ⟨q, ah1, e1, d1, r1, r2⟩ := call_draw (P := pr) (f := 6) rfl (j := 11) (m := (W.length : Int)) hs.pool (by omega) (by omega)
      have hs1 := hs.drawn d1
      obtain ⟨k, rfl⟩ : ∃ k : Nat, q = k := ⟨q.toNat, by omega⟩
      have hk : k < W.length := by omega
      have a1 : evS (cfgK pr 12) none (.asg (.name 10) (.call 6 (.cons (.var 1) (.cons (.op .len (.cons (.var 9) .nil)) .nil)))) (envT ns true li W Dd A (some (.lst ((W.map Deed.ln).map D.str))) none none none none) ah = .nx (envT ns true li W Dd A (some (.lst ((W.map Deed.ln).map D.str))) (some (.int (k : Int))) none none none) ah1 := x_asg (x_call2 (x_var rfl) (ln none none ah) e1)
      have hmem : W[k] ∈ W := List.getElem_mem hk
      obtain ⟨w, ah2, e2, hs2, hw⟩ := call_wrong (j := 9) hs1 (hW _ hmem)
      have gx : atL (W.map Deed.d) (k : Int) = some (W[k]).d := at_nat (by rw [List.getElem?_map, List.getElem?_eq_getElem hk]; rfl)
      have ei : evE (cfgK pr 12) none (.op .idx (.cons (.var 5) (.cons (.var 10) .nil))) (envT ns true li W Dd A (some (.lst ((W.map Deed.ln).map D.str))) (some (.int (k : Int))) none none none) ah1 = .ok (W[k]).d ah1 := x_op2 (x_var rfl) (x_var rfl) (pr_idxL gx)
      have a2 : evS (cfgK pr 12) none (.asg (.name 11) (.call 13 (.cons (.var 1) (.cons (.op .idx (.cons (.var 5) (.cons (.var 10) .nil))) .nil)))) (envT ns true li W Dd A (some (.lst ((W.map Deed.ln).map D.str))) (some (.int (k : Int))) none none none) ah1 = .nx (envT ns true li W Dd A (some (.lst ((W.map Deed.ln).map D.str))) (some (.int (k : Int))) (some (.str w)) none none) ah2 := x_asg (x_call2 (x_var rfl) ei e2)
      rw [x_nx a1, x_nx a2]
      have t1 : evE (cfgK pr 12) none (.op .eq (.cons (.var 11) (.cons (.con (.str [])) .nil))) (envT ns true li W Dd A (some (.lst ((W.map Deed.ln).map D.str))) (some (.int (k : Int))) (some (.str w)) none none) ah2 = .ok (.bl (decide (w = []))) ah2 := x_op2 (x_var rfl) x_con pr_eqS
      have t2 : evE (cfgK pr 12) none (.op .eq (.cons (.op .len (.cons (.var 9) .nil)) (.cons (.con (.int 1)) .nil))) (envT ns true li W Dd A (some (.lst ((W.map Deed.ln).map D.str))) (some (.int (k : Int))) (some (.str w)) none none) ah2 = .ok (.bl (decide ((W.length : Int) = 1))) ah2 := x_op2 (ln _ _ ah2) x_con pr_eqI
      have t3 : evE (cfgK pr 12) none (.and (.op .eq (.cons (.var 11) (.cons (.con (.str [])) .nil))) (.op .eq (.cons (.op .len (.cons (.var 9) .nil)) (.cons (.con (.int 1)) .nil)))) (envT ns true li W Dd A (some (.lst ((W.map Deed.ln).map D.str))) (some (.int (k : Int))) (some (.str w)) none none) ah2 = .ok (.bl (decide (w = []) && decide ((W.length : Int) = 1))) ah2 := by
        by_cases c : w = []
        · rw [decide_eq_true c] at t1 ⊢
          rw [x_andT t1, t2]
          rfl
        · rw [decide_eq_false c] at t1 ⊢
          rw [x_andF t1]
          rfl
      by_cases cc : w = [] ∧ W.length = 1
      · have tt : (decide (w = []) && decide ((W.length : Int) = 1)) = true := by
          rw [decide_eq_true cc.1, decide_eq_true (by omega)]
          rfl
        rw [tt] at t3
        have rd : callF pr 12 14 [.str [10]] ah2 = .ok (.tup [.str sLine, .int 1]) ah2 := read_bad (es := []) (w := []) (r := [[]]) (fun e he => by cases he) bad_nil (fun p hp => by rw [List.mem_singleton.mp hp]; exact ⟨by simp, by simp⟩) (by simp) (.inr (.inr (by simp)))
        have cs : callF pr 12 10 [.tup [.str sLine, .int 1], .tup [.str sLine, .int 1]] ah2 = .ok (.bl true) ah2 := same12 (.tup [.str sLine, .int 1]) rfl ah2
        exact ⟨_, x_rt (by rw [x_iteT t3]; exact x_rt (x_ret (x_call2 (x_call1 x_con rd) (x_tup (x_es x_con (x_es x_con x_es0)) (by show 2 ≤ SZ; decide)) cs)))⟩
      · have tt : (decide (w = []) && decide ((W.length : Int) = 1)) = false := by
          by_cases c : w = []
          · rw [decide_eq_false (p := (W.length : Int) = 1) (by intro h; exact cc ⟨c, by omega⟩), Bool.and_false]
          · rw [decide_eq_false c, Bool.false_and]
        rw [tt] at t3
        have a3 : evS (cfgK pr 12) none s3 (envT ns true li W Dd A (some (.lst ((W.map Deed.ln).map D.str))) (some (.int (k : Int))) (some (.str w)) none none) ah2 = .nx (envT ns true li W Dd A (some (.lst ((W.map Deed.ln).map D.str))) (some (.int (k : Int))) (some (.str w)) none none) ah2 := by
          unfold s3
          rw [x_iteF t3, x_nil]
        have a3' := fun ss => x_nx (ss := ss) a3
        unfold s3 at a3'
        rw [a3']
        obtain ⟨q2, ah3, e3, d3, r3, r4⟩ := call_draw (P := pr) (f := 6) rfl (j := 11) (m := 2) hs2.pool (by omega) (by omega)
        have hs3 := hs2.drawn d3
        have h2 := hs3.len2
        have tk : (W.take k).length = k := by rw [List.length_take]; omega
        have fin : ∀ j, (j = k ∨ j = k + 1) → ∃ ah', evSs (cfgK pr 12) none (.cons s5 (.cons s6 .nil)) (envT ns true li W Dd A (some (.loc 2)) (some (.int (k : Int))) (some (.str w)) none none) (ah3 ++ [.lst (((W.map Deed.ln).map D.str).take k ++ [.str w] ++ ((W.map Deed.ln).map D.str).drop j)]) = .ret (.bl true) ah' := fun j hj => by
          refine fin13 (l := l) (es := W.take k) (w := w) (r := (W.map Deed.ln).drop j) rfl rfl (by rw [tk]; rfl) ?_ (fun e he => hW e (List.mem_of_mem_take he)) hw (fun p hp => ?_) (by rw [tk, List.length_drop, List.length_map]; omega) ?_
          · have : ((W.take k).map Deed.ln ++ w :: (W.map Deed.ln).drop j).map D.str = ((W.map Deed.ln).map D.str).take k ++ [.str w] ++ ((W.map Deed.ln).map D.str).drop j := by
              rw [List.map_append, List.map_cons, List.map_take, List.map_take, List.map_drop]
              simp
            rw [this]
            exact hs3.app
          · obtain ⟨x, hx, rfl⟩ := List.mem_map.mp (List.mem_of_mem_drop hp)
            have := x.lnlen (hW x hx)
            exact ⟨ln_no10 x (hW x hx), by omega⟩
          · by_cases k0 : k = 0
            · by_cases c : w = []
              · right; right
                intro z
                have := congrArg List.length z
                rw [List.length_drop, List.length_map, List.length_nil] at this
                exact cc ⟨c, by omega⟩
              · exact .inr (.inl c)
            · left
              intro z
              rw [z] at tk
              exact k0 tk.symm
        have t4 : evE (cfgK pr 12) none (.op .eq (.cons (.call 6 (.cons (.var 1) (.cons (.con (.int 2)) .nil))) (.cons (.con (.int 0)) .nil))) (envT ns true li W Dd A (some (.lst ((W.map Deed.ln).map D.str))) (some (.int (k : Int))) (some (.str w)) none none) ah2 = .ok (.bl (decide (q2 = 0))) ah3 := x_op2 (x_call2 (x_var rfl) x_con e3) x_con pr_eqI
        have a4 : ∃ j, (j = k ∨ j = k + 1) ∧ evS (cfgK pr 12) none s4 (envT ns true li W Dd A (some (.lst ((W.map Deed.ln).map D.str))) (some (.int (k : Int))) (some (.str w)) none none) ah2 = .nx (envT ns true li W Dd A (some (.loc 2)) (some (.int (k : Int))) (some (.str w)) none none) (ah3 ++ [.lst (((W.map Deed.ln).map D.str).take k ++ [.str w] ++ ((W.map Deed.ln).map D.str).drop j)]) := by
          by_cases c : q2 = 0
          · rw [decide_eq_true c] at t4
            refine ⟨k + 1, .inr rfl, ?_⟩
            unfold s4
            have hm : evE (cfgK pr 12) none (.op (.add false) (.cons (.var 10) (.cons (.con (.int 1)) .nil))) (envT ns true li W Dd A (some (.lst ((W.map Deed.ln).map D.str))) (some (.int (k : Int))) (some (.str w)) none none) ah3 = .ok (.int ((k + 1 : Nat) : Int)) ah3 := x_op2 (x_var rfl) x_con pr_addI
            rw [x_iteT t4, x_nx (x_asg (ev4 _ (k + 1) rfl rfl rfl hm (by rw [lenL]; omega) h2)), x_nil]
            rfl
          · rw [decide_eq_false c] at t4
            refine ⟨k, .inl rfl, ?_⟩
            unfold s4
            rw [x_iteF t4, x_nx (x_asg (ev4 _ k rfl rfl rfl (x_var rfl) (by rw [lenL]; omega) h2)), x_nil]
            rfl
        obtain ⟨j, hj, a4⟩ := a4
        have a4' := fun ss => x_nx (ss := ss) a4
        unfold s4 at a4'
        rw [a4']
        exact fin j hj
end SW
end

section
set_option Elab.async false
set_option linter.all false
set_option maxRecDepth 100000
set_option maxHeartbeats 2000000
/-! k53, plain: the whole law -/
namespace SW
open M
theorem x_txt {ns : List Int} {sp li : Bool} {W Dd : List Deed} {A : D} {o8 : Option D} {ah : AH} (hD : AllOk Dd) (hn : Dd.length ≤ 20) :
    evE (cfgK pr 12) none (.meth .str .join (.con (.str [10])) (.cons (.comp false (.name 13) (.seq (.var 6)) .nil (.call 11 (.cons (.var 13) .nil)) [13]) .nil)) [some (.scr ns), some (.loc 0), some (.bl sp), some (.bl li), some (.loc 1), some (.lst (W.map Deed.d)), some (.lst (Dd.map Deed.d)), some A, none, none, none, none, none, none] ah = .ok (.str (txt Dd)) ah :=
  x_meth1 x_con rfl (comp_lines rfl rfl hD) (join_lns hD (by omega))
theorem law_plain (ns : List Int) (h : ns.length ≤ 63) : ∃ ah, callF pr 13 15 [.scr ns] [] = .ok (.bl true) ah := by
  rw [callF_keep (sl := 14) (pa := 1) (b := b15) rfl rfl]
  show ∃ ah, finK (evSs (cfgK pr 12) none (.cons (.asg (.name 1) (.call 5 (.cons (.var 0) .nil))) (.cons (.asg (.name 2) (.op .eq (.cons (.call 6 (.cons (.var 1) (.cons (.con (.int 2)) .nil))) (.cons (.con (.int 0)) .nil)))) (.cons (.asg (.name 3) (.op .eq (.cons (.call 6 (.cons (.var 1) (.cons (.con (.int 2)) .nil))) (.cons (.con (.int 0)) .nil)))) (.cons (.asg (.name 4) (.call 9 (.cons (.var 1) (.cons (.op (.add false) (.cons (.con (.int 1)) (.cons (.call 6 (.cons (.var 1) (.cons (.con (.int 6)) .nil))) .nil))) .nil)))) (.cons (.asg (.name 5) (.comp false (.name 12) (.range1 (.call 6 (.cons (.var 1) (.cons (.con (.int 21)) .nil)))) .nil (.call 12 (.cons (.var 1) (.cons (.var 4) (.cons (.con (.int 10)) .nil)))) [12])) (.cons (.asg (.name 6) (.comp false (.name 12) (.range1 (.call 6 (.cons (.var 1) (.cons (.con (.int 21)) .nil)))) .nil (.call 12 (.cons (.var 1) (.cons (.var 4) (.cons (.con (.int 3)) .nil)))) [12])) (.cons (.asg (.name 7) (.op .tuple (.cons (.var 6) .nil))) (.cons (.ite (.var 3) (.cons (.asg (.name 7) (.op (.list false) (.cons (.var 6) .nil))) .nil) .nil) (.cons (.asg (.name 8) (.meth .str .join (.con (.str [10])) (.cons (.comp false (.name 13) (.seq (.var 6)) .nil (.call 11 (.cons (.var 13) .nil)) [13]) .nil))) (.cons (.ite (.or (.not (.call 10 (.cons (.call 2 (.cons (.var 7) .nil)) (.cons (.var 8) .nil)))) (.op .ne (.cons (.op (.list false) (.cons (.var 7) .nil)) (.cons (.var 6) .nil)))) (.cons (.ret (.con (.bl false))) .nil) .nil) (.cons (.ite (.not (.call 10 (.cons (.call 14 (.cons (.var 8) .nil)) (.cons (.tup (.cons (.con (.str [100, 101, 101, 100, 115])) (.cons (.op .tuple (.cons (.var 6) .nil)) .nil))) .nil)))) (.cons (.ret (.con (.bl false))) .nil) .nil) (.cons (.asg (.name 9) (.comp false (.name 13) (.seq (.var 5)) .nil (.call 11 (.cons (.var 13) .nil)) [13])) (.cons (.ite (.not (.call 10 (.cons (.call 14 (.cons (.meth .str .join (.con (.str [10])) (.cons (.var 9) .nil)) .nil)) (.cons (.tup (.cons (.con (.str [100, 101, 101, 100, 115])) (.cons (.op .tuple (.cons (.var 5) .nil)) .nil))) .nil)))) (.cons (.ret (.con (.bl false))) .nil) .nil) (.cons (.ite (.and (.var 2) (.op .gt (.cons (.op .len (.cons (.var 9) .nil)) (.cons (.con (.int 0)) .nil)))) (.cons (.asg (.name 10) (.call 6 (.cons (.var 1) (.cons (.op .len (.cons (.var 9) .nil)) .nil)))) (.cons (.asg (.name 11) (.call 13 (.cons (.var 1) (.cons (.op .idx (.cons (.var 5) (.cons (.var 10) .nil))) .nil)))) (.cons (.ite (.and (.op .eq (.cons (.var 11) (.cons (.con (.str [])) .nil))) (.op .eq (.cons (.op .len (.cons (.var 9) .nil)) (.cons (.con (.int 1)) .nil)))) (.cons (.ret (.call 10 (.cons (.call 14 (.cons (.con (.str [10])) .nil)) (.cons (.tup (.cons (.con (.str [108, 105, 110, 101])) (.cons (.con (.int 1)) .nil))) .nil)))) .nil) .nil) (.cons (.ite (.op .eq (.cons (.call 6 (.cons (.var 1) (.cons (.con (.int 2)) .nil))) (.cons (.con (.int 0)) .nil))) (.cons (.asg (.name 9) (.op (.add true) (.cons (.op (.add false) (.cons (.slice false (.var 9) (.con .non) (.var 10)) (.cons (.lst false (.cons (.var 11) .nil)) .nil))) (.cons (.slice false (.var 9) (.op (.add false) (.cons (.var 10) (.cons (.con (.int 1)) .nil))) (.con .non)) .nil)))) .nil) (.cons (.asg (.name 9) (.op (.add true) (.cons (.op (.add false) (.cons (.slice false (.var 9) (.con .non) (.var 10)) (.cons (.lst false (.cons (.var 11) .nil)) .nil))) (.cons (.slice false (.var 9) (.var 10) (.con .non)) .nil)))) .nil)) (.cons (.ite (.op .eq (.cons (.call 6 (.cons (.var 1) (.cons (.con (.int 3)) .nil))) (.cons (.con (.int 0)) .nil))) (.cons (.ex (.meth .list .append (.var 9) (.cons (.con (.str [81])) .nil))) .nil) .nil) (.cons (.ret (.call 10 (.cons (.call 14 (.cons (.meth .str .join (.con (.str [10])) (.cons (.var 9) .nil)) .nil)) (.cons (.tup (.cons (.con (.str [108, 105, 110, 101])) (.cons (.op (.add false) (.cons (.var 10) (.cons (.con (.int 1)) .nil))) .nil))) .nil)))) .nil)))))) .nil) (.cons (.ret (.call 10 (.cons (.call 14 (.cons (.op (.add false) (.cons (.var 8) (.cons (.con (.str [10])) .nil))) .nil)) (.cons (.ite (.op .gt (.cons (.op .len (.cons (.var 6) .nil)) (.cons (.con (.int 0)) .nil))) (.tup (.cons (.con (.str [108, 105, 110, 101])) (.cons (.op .max2 (.cons (.con (.int 1)) (.cons (.op (.add false) (.cons (.op .len (.cons (.var 6) .nil)) (.cons (.con (.int 1)) .nil))) .nil))) .nil))) (.tup (.cons (.con (.str [108, 105, 110, 101])) (.cons (.con (.int 1)) .nil)))) .nil)))) .nil))))))))))))))) [some (.scr ns), none, none, none, none, none, none, none, none, none, none, none, none, none] []) = .ok (.bl true) ah
  obtain ⟨g, s, e0, hg, hs⟩ := call_pool (j := 11) (ns := ns) (ah := [])
  have s0 : St1 [] ([] ++ [poolC g s 0 0]) := ⟨g, s, 0, 0, rfl, hg, hs⟩
  have a0 : evS (cfgK pr 12) none (.asg (.name 1) (.call 5 (.cons (.var 0) .nil))) [some (.scr ns), none, none, none, none, none, none, none, none, none, none, none, none, none] [] = .nx [some (.scr ns), some (.loc 0), none, none, none, none, none, none, none, none, none, none, none, none] ([] ++ [poolC g s 0 0]) := x_asg (x_call1 (x_var rfl) e0)
  rw [x_nx a0]
  generalize ([] ++ [poolC g s 0 0]) = ah0 at s0
  obtain ⟨q1, ah1, e1, d1, _, _⟩ := call_draw (P := pr) (f := 6) rfl (j := 11) (m := 2) s0.pool (by omega) (by omega)
  have s1 := s0.drawn d1
  have a1 : evS (cfgK pr 12) none (.asg (.name 2) (.op .eq (.cons (.call 6 (.cons (.var 1) (.cons (.con (.int 2)) .nil))) (.cons (.con (.int 0)) .nil)))) [some (.scr ns), some (.loc 0), none, none, none, none, none, none, none, none, none, none, none, none] ah0 = .nx [some (.scr ns), some (.loc 0), some (.bl (decide (q1 = 0))), none, none, none, none, none, none, none, none, none, none, none] ah1 := x_asg (x_op2 (x_call2 (x_var rfl) x_con e1) x_con pr_eqI)
  rw [x_nx a1]
  generalize decide (q1 = 0) = sp
  obtain ⟨q2, ah2, e2, d2, _, _⟩ := call_draw (P := pr) (f := 6) rfl (j := 11) (m := 2) s1.pool (by omega) (by omega)
  have s2 := s1.drawn d2
  have a2 : evS (cfgK pr 12) none (.asg (.name 3) (.op .eq (.cons (.call 6 (.cons (.var 1) (.cons (.con (.int 2)) .nil))) (.cons (.con (.int 0)) .nil)))) [some (.scr ns), some (.loc 0), some (.bl sp), none, none, none, none, none, none, none, none, none, none, none] ah1 = .nx [some (.scr ns), some (.loc 0), some (.bl sp), some (.bl (decide (q2 = 0))), none, none, none, none, none, none, none, none, none, none] ah2 := x_asg (x_op2 (x_call2 (x_var rfl) x_con e2) x_con pr_eqI)
  rw [x_nx a2]
  generalize decide (q2 = 0) = li
  obtain ⟨q3, ah3, e3, d3, hq1, hq2⟩ := call_draw (P := pr) (f := 6) rfl (j := 11) (m := 6) s2.pool (by omega) (by omega)
  have s3 := s2.drawn d3
  obtain ⟨l, ah4, e4, s4, hl, hc⟩ := call_names (j := 9) (cnt := 1 + q3) s3 (by omega) (by omega)
  have l0 : l ≠ [] := by
    intro z
    rw [z, List.length_nil] at hc
    omega
  have l26 : l.length < 26 := by omega
  have a4 : evS (cfgK pr 12) none (.asg (.name 4) (.call 9 (.cons (.var 1) (.cons (.op (.add false) (.cons (.con (.int 1)) (.cons (.call 6 (.cons (.var 1) (.cons (.con (.int 6)) .nil))) .nil))) .nil)))) [some (.scr ns), some (.loc 0), some (.bl sp), some (.bl li), none, none, none, none, none, none, none, none, none, none] ah2 = .nx [some (.scr ns), some (.loc 0), some (.bl sp), some (.bl li), some (.loc 1), none, none, none, none, none, none, none, none, none] ah4 := x_asg (x_call2 (x_var rfl) (x_op2 x_con (x_call2 (x_var rfl) x_con e3) pr_addI) e4)
  rw [x_nx a4]
  obtain ⟨W, ah5, e5, s5, hW, nW⟩ := comp_deeds (env := [some (.scr ns), some (.loc 0), some (.bl sp), some (.bl li), some (.loc 1), none, none, none, none, none, none, none, none, none]) (m := 10) rfl rfl rfl s4 hl l0 l26 (by omega) (by omega)
  have a5 : evS (cfgK pr 12) none (.asg (.name 5) (.comp false (.name 12) (.range1 (.call 6 (.cons (.var 1) (.cons (.con (.int 21)) .nil)))) .nil (.call 12 (.cons (.var 1) (.cons (.var 4) (.cons (.con (.int 10)) .nil)))) [12])) [some (.scr ns), some (.loc 0), some (.bl sp), some (.bl li), some (.loc 1), none, none, none, none, none, none, none, none, none] ah4 = .nx [some (.scr ns), some (.loc 0), some (.bl sp), some (.bl li), some (.loc 1), some (.lst (W.map Deed.d)), none, none, none, none, none, none, none, none] ah5 := x_asg e5
  rw [x_nx a5]
  obtain ⟨Dd, ah6, e6, s6, hD, nD⟩ := comp_deeds (env := [some (.scr ns), some (.loc 0), some (.bl sp), some (.bl li), some (.loc 1), some (.lst (W.map Deed.d)), none, none, none, none, none, none, none, none]) (m := 3) rfl rfl rfl s5 hl l0 l26 (by omega) (by omega)
  have a6 : evS (cfgK pr 12) none (.asg (.name 6) (.comp false (.name 12) (.range1 (.call 6 (.cons (.var 1) (.cons (.con (.int 21)) .nil)))) .nil (.call 12 (.cons (.var 1) (.cons (.var 4) (.cons (.con (.int 3)) .nil)))) [12])) [some (.scr ns), some (.loc 0), some (.bl sp), some (.bl li), some (.loc 1), some (.lst (W.map Deed.d)), none, none, none, none, none, none, none, none] ah5 = .nx [some (.scr ns), some (.loc 0), some (.bl sp), some (.bl li), some (.loc 1), some (.lst (W.map Deed.d)), some (.lst (Dd.map Deed.d)), none, none, none, none, none, none, none] ah6 := x_asg e6
  rw [x_nx a6]
  have a7 : evS (cfgK pr 12) none (.asg (.name 7) (.op .tuple (.cons (.var 6) .nil))) [some (.scr ns), some (.loc 0), some (.bl sp), some (.bl li), some (.loc 1), some (.lst (W.map Deed.d)), some (.lst (Dd.map Deed.d)), none, none, none, none, none, none, none] ah6 = .nx [some (.scr ns), some (.loc 0), some (.bl sp), some (.bl li), some (.loc 1), some (.lst (W.map Deed.d)), some (.lst (Dd.map Deed.d)), some (.tup (Dd.map Deed.d)), none, none, none, none, none, none] ah6 := x_asg (x_op1 (x_var rfl) rfl)
  rw [x_nx a7]
  have a8 : ∃ A, (A = .tup (Dd.map Deed.d) ∨ A = .lst (Dd.map Deed.d)) ∧ evS (cfgK pr 12) none (.ite (.var 3) (.cons (.asg (.name 7) (.op (.list false) (.cons (.var 6) .nil))) .nil) .nil) [some (.scr ns), some (.loc 0), some (.bl sp), some (.bl li), some (.loc 1), some (.lst (W.map Deed.d)), some (.lst (Dd.map Deed.d)), some (.tup (Dd.map Deed.d)), none, none, none, none, none, none] ah6 = .nx [some (.scr ns), some (.loc 0), some (.bl sp), some (.bl li), some (.loc 1), some (.lst (W.map Deed.d)), some (.lst (Dd.map Deed.d)), some A, none, none, none, none, none, none] ah6 := by
    cases li with
    | true =>
      refine ⟨.lst (Dd.map Deed.d), .inr rfl, ?_⟩
      have pl : prim (.list false) [.lst (Dd.map Deed.d)] ah6 = .ok (.lst (Dd.map Deed.d)) ah6 := rfl
      rw [x_iteT (x_var rfl), x_nx (x_asg (x_op1 (x_var rfl) pl)), x_nil]
      rfl
    | false =>
      refine ⟨.tup (Dd.map Deed.d), .inl rfl, ?_⟩
      rw [x_iteF (x_var rfl), x_nil]
  obtain ⟨A, hA, a8⟩ := a8
  rw [x_nx a8]
  have a9 : evS (cfgK pr 12) none (.asg (.name 8) (.meth .str .join (.con (.str [10])) (.cons (.comp false (.name 13) (.seq (.var 6)) .nil (.call 11 (.cons (.var 13) .nil)) [13]) .nil))) [some (.scr ns), some (.loc 0), some (.bl sp), some (.bl li), some (.loc 1), some (.lst (W.map Deed.d)), some (.lst (Dd.map Deed.d)), some A, none, none, none, none, none, none] ah6 = .nx (envT ns sp li W Dd A none none none none none) ah6 := x_asg (x_txt (o8 := none) hD nD)
  rw [x_nx a9]
  have a10 : evS (cfgK pr 12) none (.ite (.or (.not (.call 10 (.cons (.call 2 (.cons (.var 7) .nil)) (.cons (.var 8) .nil)))) (.op .ne (.cons (.op (.list false) (.cons (.var 7) .nil)) (.cons (.var 6) .nil)))) (.cons (.ret (.con (.bl false))) .nil) .nil) (envT ns sp li W Dd A none none none none none) ah6 = .nx (envT ns sp li W Dd A none none none none none) ah6 := by
    rw [x_iteF (chk9 hA hD nD), x_nil]
  rw [x_nx a10]
  have a11 : evS (cfgK pr 12) none (.ite (.not (.call 10 (.cons (.call 14 (.cons (.var 8) .nil)) (.cons (.tup (.cons (.con (.str [100, 101, 101, 100, 115])) (.cons (.op .tuple (.cons (.var 6) .nil)) .nil))) .nil)))) (.cons (.ret (.con (.bl false))) .nil) .nil) (envT ns sp li W Dd A none none none none none) ah6 = .nx (envT ns sp li W Dd A none none none none none) ah6 := by
    rw [x_iteF (chk10 hD nD), x_nil]
  rw [x_nx a11]
  have a12 : evS (cfgK pr 12) none (.asg (.name 9) (.comp false (.name 13) (.seq (.var 5)) .nil (.call 11 (.cons (.var 13) .nil)) [13])) (envT ns sp li W Dd A none none none none none) ah6 = .nx (envT ns sp li W Dd A (some (.lst ((W.map Deed.ln).map D.str))) none none none none) ah6 := x_asg (comp_lines (env := envT ns sp li W Dd A none none none none none) (v := 5) rfl rfl hW)
  rw [x_nx a12]
  have a13 : evS (cfgK pr 12) none (.ite (.not (.call 10 (.cons (.call 14 (.cons (.meth .str .join (.con (.str [10])) (.cons (.var 9) .nil)) .nil)) (.cons (.tup (.cons (.con (.str [100, 101, 101, 100, 115])) (.cons (.op .tuple (.cons (.var 5) .nil)) .nil))) .nil)))) (.cons (.ret (.con (.bl false))) .nil) .nil) (envT ns sp li W Dd A (some (.lst ((W.map Deed.ln).map D.str))) none none none none) ah6 = .nx (envT ns sp li W Dd A (some (.lst ((W.map Deed.ln).map D.str))) none none none none) ah6 := by
    rw [x_iteF (chk12 hW nW), x_nil]
  rw [x_nx a13]
  rcases stm13 (sp := sp) (li := li) (ns := ns) (Dd := Dd) (A := A) s6 hW nW with hx | ⟨ah7, hx⟩
  · rw [x_nx hx]
    refine ⟨ah6, ?_⟩
    rw [x_rt (x_ret (last14 hD nD))]
    rfl
  · refine ⟨ah7, ?_⟩
    rw [x_rt hx]
    rfl
end SW
end

section
namespace SW
open PySem PySem.Spec PyProof.Rows L2 M
theorem hr0 {K : PySem.W.Frag} {H : Hp} {ca : CA} : HR K ca [] [] [] H := ⟨(fun a h => by cases h), List.nodup_nil, rfl, (fun a h => by cases h), (fun i c a h => by simp at h)⟩
theorem law_sp {K : PySem.W.Frag} {ca : CA} {H : Hp} {a : Addr} {ns : List Int} (hl : ns.length ≤ 63) (hS : SqL K H a (ns.map V.int)) : spF K ca (callF pr 13 15) [.ref a] H (fun v _ => v = .bl true) (fun _ _ _ => False) := by
  obtain ⟨ah, e⟩ := law_plain ns hl
  refine ⟨[], [], [], [.scr ns], hr0, RelDs.cons ?_ RelDs.nil, ?_⟩
  · simp only [RelD]
    refine ⟨a, rfl, ?_⟩
    rcases hS with h | h
    · exact .inl ⟨h, by simp⟩
    · exact .inr h
  · rw [e]
    intro F' rho' H' b _ _ r
    exact rel_bl r
end SW
open PySem PySem.W PySem.Calls PyProof.Rows M
theorem PySem.Challenge.cw_swappedhot_k53_deeds_as_texts_holds : PySem.Challenge.rw_swappedhot_k53_deeds_as_texts.Holds := by
  w_on; o_law
  refine HandSHeadRun.head_any (r := OpenLaw.row PySem.Challenge.rw_swappedhot_k53_deeds_as_texts) (q := view (OpenLaw.row PySem.Challenge.rw_swappedhot_k53_deeds_as_texts).prog [22]) (H := SW.hk) (ob := SW.ob) (M := 3000) (loose := SW.names) (d := HandSHeadRun.topDef (OpenLaw.row PySem.Challenge.rw_swappedhot_k53_deeds_as_texts).prog 22) (kwd := []) SW.ob_eq
    (by kernel_rfl) (fun s => by kernel_rfl) SW.run (by kernel_rfl) (by kernel_rfl) (by kernel_rfl) (by rfl) (by first | assumption | decide +kernel) (by decide +kernel) ⟨rfl, rfl, rfl, rfl, rfl, by decide +kernel⟩ ?hw ?hc
  case hw => w_witness2
  case hc =>
    refine L2.walk_ofE (l := PySem.Challenge.rw_swappedhot_k53_deeds_as_texts) (n := 63) (k := 39) (x := "_law_script") (CX := L2.CX0) rfl (by decide) (by kernel_rfl) ⟨rfl, by decide, by decide⟩ ?F (fun _ _ _ _ z => z)
    intro w mg fa h Y G hmg0
    obtain ⟨K, KX, c⟩ := Y
    have hmg : mg ("law" : PySem.Str) = some (.ref fa) := by
      have e : (HandSHeadRun.topDef (OpenLaw.row PySem.Challenge.rw_swappedhot_k53_deeds_as_texts).prog 22).name = ("law" : PySem.Str) := by kernel_rfl
      rw [← e]
      exact hmg0
    obtain ⟨f, fd, F0, hm, hb⟩ := SW.df15 KX G c
    have e : some (PySem.Value.ref f) = some (PySem.Value.ref fa) := hm.symm.trans hmg
    cases e
    have b := L2.FunD.bindsA (ps := ["_law_script"]) F0 fun _ _ _ _ _ _ us hl => match us, hl with | [_], _ => rfl
    exact ⟨K, fd, fun vs H Q _ => spF K (SW.caF K) (callF SW.pr 13 15) vs H Q (fun _ _ _ => False), KX, fun s u => b s [u] rfl, fun H a ns hl _ hS => SW.law_sp hl hS,
      fun base _ Gb => fn_nox (fn_ok (SW.top1 KX G c) (level (SW.top1 KX G c) 12) (d := SW.d15) rfl F0)⟩
end
