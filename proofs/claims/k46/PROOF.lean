import PyProof.Rows.All
import Wide.All
import OpenK.AllK
import Wide.FinOn
import HandS.ForMost
import HandS.DictComp
import HandS.IsInst
import HandS.Zip
import HandS.Flow
import HandS.Style
import HandS.SortOrd
import HandS.SortInts
import HandS.TupAny
import HandS.TupMul
import HandS.Wide
import HandS.RaiseMore
import HandS.Conv
import KE.KeyNested
import KE.KDictKeyed
import KE.KDictWalk
import HandS.StrMore
import HandS.TupLen
import HandS.Words
import PyProof.DictUpdate
import KE.SortCalls
import KE.SortKeyed
import KE.KDictSum
import PySem.Challenge.RW_earthorder_k46_whole_drawings_and_notes
set_option Elab.async false
set_option linter.all false
set_option autoImplicit false
set_option maxRecDepth 100000
set_option maxHeartbeats 4000000
section
/-! DLa: plain values, how they stand in the heap, expressions read as plain functions. -/
namespace DL
open PySem PySem.Spec PyProof.Rows L2

/-- a plain value; cup: the one list of two ints that all draws change -/
inductive D where
  | non | bl (b : Bool) | int (i : Int) | str (s : Str) | tup (ds : List D) | lst (ds : List D) | dic (ks vs : List D) | cup
  deriving Inhabited

/-! ### keys of dicts -/
mutual
def D.key : D → Option NestedKey
  | .non => some .none
  | .bl b => some (.num (if b then 1 else 0))
  | .int i => some (.num i)
  | .str s => some (.text s)
  | .tup ds => (D.keys ds).map .tup
  | _ => none
def D.keys : List D → Option (List NestedKey)
  | [] => some []
  | d :: ds => match D.key d, D.keys ds with
    | some k, some ks => some (k :: ks)
    | _, _ => none
end
def D.isTup : D → Bool
  | .tup _ => true
  | _ => false
/-! without a list, a dict, the cup -/
mutual
def D.imm : D → Bool
  | .tup ds => D.imms ds
  | .lst _ => false
  | .dic _ _ => false
  | .cup => false
  | _ => true
def D.imms : List D → Bool
  | [] => true
  | d :: ds => D.imm d && D.imms ds
end

structure Bx where
  P : Program
  w : World
  K : PySem.W.Frag
  κ : Addr

def hashD (w : World) (d : D) : Int := match d.key with
  | some k => k.hash w
  | none => 0
/-- an entry of a dict: the key as data, the key's value, the value -/
structure DEnt (w : World) (x : D × V × V) (e : DictEntry) : Prop where
  h : e.hash = hashD w x.1
  k : RelV x.2.1 e.key
  v : RelV x.2.2 e.val
structure DicP (w : World) (a : Addr) (xs : List (D × V × V)) (ep : Nat) (h : Heap) : Prop where
  sys : (a == sysModules) = false
  len : xs.length ≤ sizeLine
  raw : ∃ es : Array DictEntry, h.DictRaw a es ep ∧ Paired (DEnt w) xs es.toList
def dO (w : World) (a : Addr) (xs : List (D × V × V)) (ep : Nat) : HO := .ext (DicP w a xs ep)

/-- a key of a dict as an int or a text -/
def skey : D → Option Key
  | .int i => some (.inl i)
  | .str s => some (.inr s)
  | _ => none
/-- the keys of a dict: no two alike, all tuples, or all ints and texts -/
structure KOk (ks : List D) : Prop where
  keyed : ∀ d ∈ ks, ∃ k, d.key = some k ∧ k.depth ≤ 8
  nd : (ks.map D.key).Nodup
  one : (∀ d ∈ ks, d.isTup = true) ∨ (∀ d ∈ ks, (skey d).isSome = true)

def DicAt (B : Bx) (G : Hp) (a : Addr) (xs : List (D × V × V)) : Prop :=
  (∃ ep, G a = some (dO B.w a xs ep)) ∨
    ∃ (o : Obj) (es : Array DictEntry) (ep : Nat), B.K.lookup a = some o ∧ o.ExactDict ∧ o.data = .dict es ep ∧ Paired (DEnt B.w) xs es.toList ∧ (a == sysModules) = false ∧ xs.length ≤ sizeLine

mutual
/-- the value v, in the heap G, is the plain value -/
def Rep (B : Bx) (G : Hp) : D → V → Prop
  | .non, v => v = .non
  | .bl b, v => v = .bl b
  | .int i, v => v = .int i
  | .str s, v => v = .str s
  | .tup ds, v => ∃ a vs, v = .ref a ∧ SqT B.K G a vs ∧ Reps B G ds vs
  | .lst ds, v => ∃ a vs, v = .ref a ∧ G a = some (.lst vs) ∧ Reps B G ds vs
  | .dic ks ds, v => ∃ a xs, v = .ref a ∧ DicAt B G a xs ∧ KOk ks ∧ xs.map (·.1) = ks ∧ Reps B G ks (xs.map (·.2.1)) ∧ Reps B G ds (xs.map (·.2.2))
  | .cup, v => v = .ref B.κ
def Reps (B : Bx) (G : Hp) : List D → List V → Prop
  | [], vs => vs = []
  | d :: ds, vs => ∃ v r, vs = v :: r ∧ Rep B G d v ∧ Reps B G ds r
end

section
variable {B : Bx} {G G' H H' : Hp} {a : Addr} {d : D} {v : V}
theorem Rd_same {a : Addr} {u : HO} (s : Same G G') (h : Rd G a u) : Rd G' a u := by
  rcases h with h | ⟨o, h⟩
  · exact .inl (s _ _ h)
  · exact .inr ⟨o, s _ _ h⟩
theorem SqL_same {K : PySem.W.Frag} {xs : List V} (s : Same G G') (h : SqL K G a xs) : SqL K G' a xs := h.elim (fun h => .inl (Rd_same s h)) .inr
theorem SqT_same {K : PySem.W.Frag} {xs : List V} (s : Same G G') (h : SqT K G a xs) : SqT K G' a xs := h.elim (fun h => .inl (Rd_same s h)) .inr
theorem DicAt.same {xs : List (D × V × V)} (s : Same G G') (h : DicAt B G a xs) : DicAt B G' a xs := h.elim (fun ⟨ep, h⟩ => .inl ⟨ep, s _ _ h⟩) .inr
mutual
theorem Rep.mono (s : Same G G') : ∀ (d : D) (v : V), Rep B G d v → Rep B G' d v
  | .non, _, h => by simpa only [Rep] using h
  | .bl _, _, h => by simpa only [Rep] using h
  | .int _, _, h => by simpa only [Rep] using h
  | .str _, _, h => by simpa only [Rep] using h
  | .cup, _, h => by simpa only [Rep] using h
  | .tup ds, v, h => by
    simp only [Rep] at h ⊢
    obtain ⟨a, vs, e, q, r⟩ := h
    exact ⟨a, vs, e, SqT_same s q, Reps.mono s ds vs r⟩
  | .lst ds, v, h => by
    simp only [Rep] at h ⊢
    obtain ⟨a, vs, e, q, r⟩ := h
    exact ⟨a, vs, e, s _ _ q, Reps.mono s ds vs r⟩
  | .dic ks ds, v, h => by
    simp only [Rep] at h ⊢
    obtain ⟨a, xs, e, q, k, ek, r1, r2⟩ := h
    exact ⟨a, xs, e, DicAt.same s q, k, ek, Reps.mono s ks _ r1, Reps.mono s ds _ r2⟩
theorem Reps.mono (s : Same G G') : ∀ (ds : List D) (vs : List V), Reps B G ds vs → Reps B G' ds vs
  | [], _, h => by simpa only [Reps] using h
  | d :: ds, vs, h => by
    simp only [Reps] at h ⊢
    obtain ⟨v, r, e, h1, h2⟩ := h
    exact ⟨v, r, e, Rep.mono s d v h1, Reps.mono s ds r h2⟩
end
theorem Reps.length : ∀ {ds : List D} {vs : List V}, Reps B G ds vs → ds.length = vs.length
  | [], _, h => by simp only [Reps] at h; subst h; rfl
  | d :: ds, vs, h => by
    simp only [Reps] at h
    obtain ⟨v, r, rfl, _, h2⟩ := h
    simp [Reps.length h2]
theorem Reps.nil : Reps B G [] [] := by simp only [Reps]
theorem Reps.cons {ds : List D} {vs : List V} (h : Rep B G d v) (t : Reps B G ds vs) : Reps B G (d :: ds) (v :: vs) := by
  simp only [Reps]; exact ⟨v, vs, rfl, h, t⟩
theorem Reps.nil_inv {vs : List V} (h : Reps B G [] vs) : vs = [] := by simpa only [Reps] using h
theorem Reps.cons_inv {ds : List D} {vs : List V} (h : Reps B G (d :: ds) vs) : ∃ v r, vs = v :: r ∧ Rep B G d v ∧ Reps B G ds r := by simpa only [Reps] using h
theorem Reps.append : ∀ {ds es : List D} {vs us : List V}, Reps B G ds vs → Reps B G es us → Reps B G (ds ++ es) (vs ++ us)
  | [], _, _, _, h, t => by rw [h.nil_inv]; exact t
  | d :: ds, _, _, _, h, t => by
    obtain ⟨v, r, rfl, h1, h2⟩ := h.cons_inv
    exact .cons h1 (Reps.append h2 t)
theorem Reps.get : ∀ {ds : List D} {vs : List V} {i : Nat} {d : D}, Reps B G ds vs → ds[i]? = some d → ∃ v, vs[i]? = some v ∧ Rep B G d v
  | [], _, _, _, _, e => by simp at e
  | d :: ds, vs, 0, d', h, e => by
    obtain ⟨v, r, rfl, h1, h2⟩ := h.cons_inv
    simp at e; subst e; exact ⟨v, rfl, h1⟩
  | d :: ds, vs, i + 1, d', h, e => by
    obtain ⟨v, r, rfl, h1, h2⟩ := h.cons_inv
    obtain ⟨u, e1, e2⟩ := Reps.get (i := i) h2 (by simpa using e)
    exact ⟨u, by simpa using e1, e2⟩
theorem Reps.get' : ∀ {ds : List D} {vs : List V} {i : Nat} {v : V}, Reps B G ds vs → vs[i]? = some v → ∃ d, ds[i]? = some d ∧ Rep B G d v := fun {ds vs i v} h e => by
  have hl := h.length
  have hi : i < ds.length := by rw [hl]; exact (List.getElem?_eq_some_iff.mp e).1
  obtain ⟨u, e1, e2⟩ := h.get (List.getElem?_eq_getElem hi)
  rw [e] at e1; cases e1
  exact ⟨_, List.getElem?_eq_getElem hi, e2⟩
theorem Reps.of_get {ds : List D} {vs : List V} (hl : ds.length = vs.length) (h : ∀ (i : Nat) (d : D) (v : V), ds[i]? = some d → vs[i]? = some v → Rep B G d v) : Reps B G ds vs := by
  induction ds generalizing vs with
  | nil => cases vs with
    | nil => exact .nil
    | cons _ _ => simp at hl
  | cons d ds ih => cases vs with
    | nil => simp at hl
    | cons v vs => exact .cons (h 0 d v rfl rfl) (ih (by simpa using hl) fun i d' v' e1 e2 => h (i + 1) d' v' (by simpa using e1) (by simpa using e2))
theorem Reps.take {ds : List D} {vs : List V} (h : Reps B G ds vs) (n : Nat) : Reps B G (ds.take n) (vs.take n) :=
  .of_get (by simp [h.length]) fun i d v e1 e2 => by
    rw [List.getElem?_take] at e1 e2
    split at e1
    · rename_i hi
      rw [if_pos hi] at e2
      obtain ⟨u, q1, q2⟩ := h.get e1
      rw [e2] at q1; cases q1; exact q2
    · cases e1
theorem Reps.drop {ds : List D} {vs : List V} (h : Reps B G ds vs) (n : Nat) : Reps B G (ds.drop n) (vs.drop n) :=
  .of_get (by simp [h.length]) fun i d v e1 e2 => by
    rw [List.getElem?_drop] at e1 e2
    obtain ⟨u, q1, q2⟩ := h.get e1
    rw [e2] at q1; cases q1; exact q2
theorem Reps.set {ds : List D} {vs : List V} (h : Reps B G ds vs) (i : Nat) (r : Rep B G d v) : Reps B G (ds.set i d) (vs.set i v) :=
  .of_get (by simp [h.length]) fun j d' v' e1 e2 => by
    by_cases hj : i = j
    · subst hj
      rw [List.getElem?_set] at e1 e2
      simp only [if_true] at e1 e2
      split at e1
      · split at e2
        · cases e1; cases e2; exact r
        · cases e2
      · cases e1
    · rw [List.getElem?_set_ne hj] at e1 e2
      obtain ⟨u, q1, q2⟩ := h.get e1
      rw [e2] at q1; cases q1; exact q2
theorem Reps.flatten : ∀ {dss : List (List D)} {vss : List (List V)}, Paired (fun ds vs => Reps B G ds vs) dss vss → Reps B G dss.flatten vss.flatten
  | _, _, .nil => .nil
  | _, _, .cons h t => by rw [List.flatten_cons, List.flatten_cons]; exact h.append (Reps.flatten t)
theorem Reps.rep {ds : List D} {vs : List V} (h : Reps B G ds vs) : ∀ k : Nat, Reps B G (List.replicate k ds).flatten (List.replicate k vs).flatten
  | 0 => .nil
  | k + 1 => by rw [List.replicate_succ, List.replicate_succ, List.flatten_cons, List.flatten_cons]; exact h.append (Reps.rep h k)
end

/-! ### a heap without some addresses -/
open Classical in
noncomputable def cut (H : Hp) (A : Addr → Prop) : Hp := fun a => if A a then none else H a
theorem cut_of {H : Hp} {A : Addr → Prop} {a : Addr} {o : HO} (n : ¬ A a) (e : H a = some o) : cut H A a = some o := by
  unfold cut; rw [if_neg n]; exact e
theorem of_cut {H : Hp} {A : Addr → Prop} {a : Addr} {o : HO} (e : cut H A a = some o) : ¬ A a ∧ H a = some o := by
  unfold cut at e
  split at e
  · cases e
  · exact ⟨by assumption, e⟩
theorem cut_same {H : Hp} {A : Addr → Prop} : Same (cut H A) H := fun _ _ e => (of_cut e).2
theorem cut_sub {H : Hp} {A A' : Addr → Prop} (h : ∀ a, A' a → A a) : Same (cut H A) (cut H A') := fun a o e => by
  obtain ⟨n, e⟩ := of_cut e
  exact cut_of (fun q => n (h a q)) e
/-- all but the cup is kept -/
def Ext (κ : Addr) (H H' : Hp) : Prop := ∀ a o, a ≠ κ → H a = some o → H' a = some o
theorem Ext.refl {κ : Addr} {H : Hp} : Ext κ H H := fun _ _ _ e => e
theorem Ext.trans {κ : Addr} {H H1 H2 : Hp} (h : Ext κ H H1) (h' : Ext κ H1 H2) : Ext κ H H2 := fun a o n e => h' a o n (h a o n e)
theorem _root_.L2.Same.ext {κ : Addr} {H H' : Hp} (h : Same H H') : Ext κ H H' := fun a o _ e => h a o e
theorem Ext.cut {κ : Addr} {H H' : Hp} {A : Addr → Prop} (h : Ext κ H H') (k : A κ) : Same (DL.cut H A) (DL.cut H' A) := fun a o e => by
  obtain ⟨n, e⟩ := of_cut e
  exact cut_of n (h a o (fun q => n (q ▸ k)) e)
theorem same_upd {H : Hp} {p : Addr} {o : HO} (h : H p = none) : Same H (upd H p o) := fun b x e => by
  rw [upd_ne (ne_of_none e h)]
  exact e

/-! ### the frame: what the names hold -/
abbrev Cup := Int × Int
abbrev Rho := List (Option (Bool × D))
def cupO (c : Cup) : HO := .lst [.int c.1, .int c.2]
/-- a container that this frame alone holds -/
def Own (B : Bx) (H G : Hp) : D → Addr → Prop
  | .lst ds, a => ∃ vs, H a = some (.lst vs) ∧ Reps B G ds vs
  | .dic ks ds, a => ∃ xs ep, H a = some (dO B.w a xs ep) ∧ KOk ks ∧ xs.map (·.1) = ks ∧ Reps B G ks (xs.map (·.2.1)) ∧ Reps B G ds (xs.map (·.2.2))
  | _, _ => False
/-- what a name (or an operand) holds: a value, or a container of its own -/
def Slot (B : Bx) (A : Addr → Prop) (H : Hp) : Bool → D → V → Prop
  | false, d, v => Rep B (cut H A) d v
  | true, d, v => ∃ a, v = .ref a ∧ A a ∧ a ≠ B.κ ∧ Own B H (cut H A) d a
structure ERel (B : Bx) (A : Addr → Prop) (σ : L2.St) (H : Hp) (ρ : Rho) (c : Cup) : Prop where
  len : ρ.length = σ.length
  κA : A B.κ
  cup : H B.κ = some (cupO c)
  trk : ∀ a, A a → ∃ o, H a = some o ∧ Mut (some o)
  slot : ∀ (i : Nat) (b : Bool) (d : D), ρ[i]? = some (some (b, d)) → ∃ v, σ[i]? = some (some v) ∧ Slot B A H b d v
section
variable {B : Bx} {A : Addr → Prop} {σ : L2.St} {H H' : Hp} {ρ : Rho} {c c' : Cup}
theorem Own.mono {G G' : Hp} {a : Addr} : ∀ {d : D}, Own B H G d a → (∀ o, H a = some o → H' a = some o) → Same G G' → Own B H' G' d a
  | .lst ds, ⟨vs, e, r⟩, h, s => ⟨vs, h _ e, Reps.mono s _ _ r⟩
  | .dic ks ds, ⟨xs, ep, e, k, ek, r1, r2⟩, h, s => ⟨xs, ep, h _ e, k, ek, Reps.mono s _ _ r1, Reps.mono s _ _ r2⟩
theorem Slot.mono {b : Bool} {d : D} {v : V} (k : A B.κ) (x : Ext B.κ H H') (h : Slot B A H b d v) : Slot B A H' b d v := by
  cases b with
  | false => exact Rep.mono (x.cut k) d v h
  | true =>
    obtain ⟨a, e, hA, hne, o⟩ := h
    exact ⟨a, e, hA, hne, o.mono (fun o q => x a o hne q) (x.cut k)⟩
theorem ERel.mono (e : ERel B A σ H ρ c) (x : Ext B.κ H H') (hc : H' B.κ = some (cupO c')) : ERel B A σ H' ρ c' where
  len := e.len
  κA := e.κA
  cup := hc
  trk := fun a hA => by
    by_cases h : a = B.κ
    · subst h; exact ⟨_, hc, trivial⟩
    · obtain ⟨o, q, m⟩ := e.trk a hA
      exact ⟨o, x a o h q, m⟩
  slot := fun i b d q => let ⟨v, h1, h2⟩ := e.slot i b d q; ⟨v, h1, h2.mono e.κA x⟩
theorem ERel.fresh (e : ERel B A σ H ρ c) {p : Addr} (h : H p = none) : ¬ A p := fun q => by
  obtain ⟨o, e1, _⟩ := e.trk p q
  rw [h] at e1; cases e1
end

/-! ### expressions -/
abbrev Ev := Rho → Cup → Option (D × Cup)
abbrev EvL := Rho → Cup → Option (List D × Cup)
abbrev EvB := Rho → Cup → Option (Bool × Cup)
/-- the expression's value is a value that holds no container of the frame's own -/
def tD (B : Bx) (f : Ev) : TE := fun σ H Q => ∃ A ρ c d c', ERel B A σ H ρ c ∧ f ρ c = some (d, c') ∧
  ∀ v H', Ext B.κ H H' → H' B.κ = some (cupO c') → Rep B (cut H' A) d v → Q v H'
/-- .. or one (an operand that is read at once) -/
def tP (B : Bx) (f : Ev) : TE := fun σ H Q => ∃ A ρ c d c', ERel B A σ H ρ c ∧ f ρ c = some (d, c') ∧
  ∀ b v H', Ext B.κ H H' → H' B.κ = some (cupO c') → Slot B A H' b d v → Q v H'
/-- .. a new container -/
def tN (B : Bx) (f : Ev) : TE := fun σ H Q => ∃ A ρ c d c', ERel B A σ H ρ c ∧ f ρ c = some (d, c') ∧
  ∀ p H', Ext B.κ H H' → H' B.κ = some (cupO c') → H p = none → Own B H' (cut H' fun a => A a ∨ a = p) d p → (∃ o, H' p = some o ∧ Mut (some o)) → Q (.ref p) H'
def tDA (B : Bx) (f : EvL) : TA := fun σ H Q => ∃ A ρ c ds c', ERel B A σ H ρ c ∧ f ρ c = some (ds, c') ∧
  ∀ vs H', Ext B.κ H H' → H' B.κ = some (cupO c') → Reps B (cut H' A) ds vs → Q vs H'
def tPA (B : Bx) (f : EvL) : TA := fun σ H Q => ∃ A ρ c ds c', ERel B A σ H ρ c ∧ f ρ c = some (ds, c') ∧
  ∀ vs H', Ext B.κ H H' → H' B.κ = some (cupO c') → Paired (fun d v => ∃ b, Slot B A H' b d v) ds vs → Q vs H'
def tDT (B : Bx) (f : EvB) : TT := fun σ H Q => ∃ A ρ c b c', ERel B A σ H ρ c ∧ f ρ c = some (b, c') ∧
  ∀ H', Ext B.κ H H' → H' B.κ = some (cupO c') → Q b H'
abbrev bx (X : Cx) (κ : Addr) : Bx := ⟨X.prog, X.w, X.K, κ⟩
abbrev DE (X : Cx) (κ : Addr) (e : Expr) (f : Ev) : Prop := PE X e (tD (bx X κ) f)
abbrev DP (X : Cx) (κ : Addr) (e : Expr) (f : Ev) : Prop := PE X e (tP (bx X κ) f)
abbrev DN (X : Cx) (κ : Addr) (e : Expr) (f : Ev) : Prop := PE X e (tN (bx X κ) f)
abbrev DA (X : Cx) (κ : Addr) (es : List Expr) (f : EvL) : Prop := PA X es (tDA (bx X κ) f)
abbrev DPA (X : Cx) (κ : Addr) (es : List Expr) (f : EvL) : Prop := PA X es (tPA (bx X κ) f)
abbrev DT (X : Cx) (κ : Addr) (e : Expr) (f : EvB) : Prop := PT X e (tDT (bx X κ) f)
abbrev DW (X : Cx) (κ : Addr) (e : Expr) (f : EvB) : Prop := PW X e (tDT (bx X κ) f)

section
variable {X : Cx} {κ : Addr} {e a b : Expr} {f g : Ev} {pos : Pos}
theorem _root_.L2.PE.imp {t t' : TE} (h : PE X e t) (i : ∀ σ H Q, t' σ H Q → t σ H Q) : PE X e t' := ⟨fun pins s σ H Q I q => h.run pins s σ H Q I (i σ H Q q)⟩
theorem _root_.L2.PT.imp {t t' : TT} (h : PT X e t) (i : ∀ σ H Q, t' σ H Q → t σ H Q) : PT X e t' := ⟨fun pins s σ H Q I q => h.run pins s σ H Q I (i σ H Q q)⟩
theorem _root_.L2.PW.imp {t t' : TT} (h : PW X e t) (i : ∀ σ H Q, t' σ H Q → t σ H Q) : PW X e t' := ⟨fun w pins s σ H Q I q => h.run w pins s σ H Q I (i σ H Q q)⟩
theorem _root_.L2.PA.imp {es : List Expr} {t t' : TA} (h : PA X es t) (i : ∀ σ H Q, t' σ H Q → t σ H Q) : PA X es t' := ⟨fun p pins s σ H Q I q => h.run p pins s σ H Q I (i σ H Q q)⟩

theorem DE.dp (h : DE X κ e f) : DP X κ e f := h.imp fun σ H Q ⟨A, ρ, c, d, c', E, hf, q⟩ => ⟨A, ρ, c, d, c', E, hf, fun v H' x hc r => q false v H' x hc r⟩
theorem Own.rep {B : Bx} {H G : Hp} {p : Addr} : ∀ {d : D}, Own B H G d p → G p = H p → Rep B G d (.ref p)
  | .lst ds, ⟨vs, e, r⟩, s => by simp only [Rep]; exact ⟨p, vs, rfl, s.trans e, r⟩
  | .dic ks ds, ⟨xs, ep, e, k, ek, r1, r2⟩, s => by simp only [Rep]; exact ⟨p, xs, rfl, .inl ⟨ep, s.trans e⟩, k, ek, r1, r2⟩
theorem cut_at {H : Hp} {A : Addr → Prop} {p : Addr} (h : ¬ A p) : cut H A p = H p := by unfold cut; rw [if_neg h]
theorem DN.de (h : DN X κ e f) : DE X κ e f := h.imp fun σ H Q ⟨A, ρ, c, d, c', E, hf, q⟩ => ⟨A, ρ, c, d, c', E, hf, fun p H' x hc hp o _ => by
  have nA : ¬ A p := E.fresh hp
  refine q _ H' x hc ?_
  have o' : Own (bx X κ) H' (cut H' A) d p := o.mono (fun _ q => q) (cut_sub fun a h => .inl h)
  exact o'.rep (cut_at nA)⟩

/-! names, constants -/
def dVar (i : Nat) : Ev := fun ρ c => match ρ[i]? with
  | some (some (false, d)) => some (d, c)
  | _ => none
def dVarP (i : Nat) : Ev := fun ρ c => match ρ[i]? with
  | some (some (_, d)) => some (d, c)
  | _ => none
def dC (d : D) : Ev := fun _ c => some (d, c)
theorem de_var (i : Nat) {x : Str} (hN : X.N[i]? = some x := by rfl) (hv : Vis X.env.scope x := by first | exact Or.inl rfl | exact Or.inr (Or.inl rfl) | exact Or.inr (Or.inr rfl)) (hd : (x == ("__debug__" : Str)) = false := by decide)
    (hcd : (x == ("__classdict__" : Str)) = false := by decide) : DE X κ (.Name x pos) (dVar i) := (pe_var hN hv hd hcd).imp fun σ H Q ⟨A, ρ, c, d, c', E, hf, q⟩ => by
  unfold dVar at hf
  split at hf
  · rename_i d' e'
    cases hf
    obtain ⟨v, h1, h2⟩ := E.slot i false _ e'
    exact ⟨v, h1, q v H .refl E.cup h2⟩
  · cases hf
theorem dp_var (i : Nat) {x : Str} (hN : X.N[i]? = some x := by rfl) (hv : Vis X.env.scope x := by first | exact Or.inl rfl | exact Or.inr (Or.inl rfl) | exact Or.inr (Or.inr rfl)) (hd : (x == ("__debug__" : Str)) = false := by decide)
    (hcd : (x == ("__classdict__" : Str)) = false := by decide) : DP X κ (.Name x pos) (dVarP i) := (pe_var hN hv hd hcd).imp fun σ H Q ⟨A, ρ, c, d, c', E, hf, q⟩ => by
  unfold dVarP at hf
  split at hf
  · rename_i b' d' e'
    cases hf
    obtain ⟨v, h1, h2⟩ := E.slot i b' _ e'
    exact ⟨v, h1, q b' v H .refl E.cup h2⟩
  · cases hf
theorem de_of_tC {d : D} {v : V} (h : PE X e (tC v)) (r : ∀ G, Rep (bx X κ) G d v) : DE X κ e (dC d) := h.imp fun σ H Q ⟨A, ρ, c, d', c', E, hf, q⟩ => by
  cases hf
  exact q v H .refl E.cup (r _)
theorem de_int {i j} : DE X κ (.Constant (.int i) j pos) (dC (.int i)) := de_of_tC pe_int fun _ => by simp only [Rep]
theorem de_bl {i j} : DE X κ (.Constant (.bool i) j pos) (dC (.bl i)) := de_of_tC pe_bl fun _ => by simp only [Rep]
theorem de_non {j} : DE X κ (.Constant .none j pos) (dC .non) := de_of_tC pe_non fun _ => by simp only [Rep]
theorem de_str {x j} : DE X κ (.Constant (.str x) j pos) (dC (.str x)) := de_of_tC pe_str fun _ => by simp only [Rep]
/-- a constant of the module -/
theorem de_glob {x : Str} {d : D} {v : V} {u : Value} (hg : Gl X x) (hm : X.mg x = some u) (r : RelV v u) (rd : ∀ G, Rep (bx X κ) G d v) (hd : (x == ("__debug__" : Str)) = false := by decide) : DE X κ (.Name x pos) (dC d) :=
  de_of_tC (pe_glob hg hm r hd) rd

/-! argument lists, displays -/
def dNil : EvL := fun _ c => some ([], c)
def dCons (f : Ev) (r : EvL) : EvL := fun ρ c => match f ρ c with
  | some (d, c1) => match r ρ c1 with
    | some (ds, c2) => some (d :: ds, c2)
    | none => none
  | none => none
theorem dCons_some {f : Ev} {r : EvL} {ρ : Rho} {c c' : Cup} {ds : List D} (h : dCons f r ρ c = some (ds, c')) : ∃ d c1 ds', f ρ c = some (d, c1) ∧ r ρ c1 = some (ds', c') ∧ ds = d :: ds' := by
  unfold dCons at h
  split at h
  · rename_i d c1 e1
    split at h
    · rename_i ds' c2 e2
      cases h
      exact ⟨d, c1, ds', e1, e2, rfl⟩
    · cases h
  · cases h
theorem da_nil : DA X κ [] dNil := pa_nil.imp fun σ H Q ⟨A, ρ, c, d, c', E, hf, q⟩ => by
  cases hf
  exact q [] H .refl E.cup .nil
theorem da_cons {es : List Expr} {r : EvL} (h : DE X κ e f) (t : DA X κ es r) (hs : starEach (e :: es) X.env = (false, eval e X.env) :: starEach es X.env := by rfl) : DA X κ (e :: es) (dCons f r) :=
  (pa_cons h t hs).imp fun σ H Q ⟨A, ρ, c, ds, c', E, hf, q⟩ => by
    obtain ⟨d, c1, ds', e1, e2, rfl⟩ := dCons_some hf
    refine ⟨A, ρ, c, d, c1, E, e1, fun v H1 x1 hc1 r1 => ?_⟩
    refine ⟨A, ρ, c1, ds', c', E.mono x1 hc1, e2, fun vs H2 x2 hc2 r2 => ?_⟩
    exact q (v :: vs) H2 (x1.trans x2) hc2 (.cons (Rep.mono (x2.cut E.κA) _ _ r1) r2)
theorem dpa_nil : DPA X κ [] dNil := pa_nil.imp fun σ H Q ⟨A, ρ, c, d, c', E, hf, q⟩ => by
  cases hf
  exact q [] H .refl E.cup .nil
theorem Slots.mono {B : Bx} {A : Addr → Prop} {H H' : Hp} {ds : List D} {vs : List V} (k : A B.κ) (x : Ext B.κ H H') (h : Paired (fun d v => ∃ b, Slot B A H b d v) ds vs) : Paired (fun d v => ∃ b, Slot B A H' b d v) ds vs :=
  Paired.mapP h fun d v ⟨b, s⟩ => ⟨b, s.mono k x⟩
theorem dpa_cons {es : List Expr} {r : EvL} (h : DP X κ e f) (t : DPA X κ es r) (hs : starEach (e :: es) X.env = (false, eval e X.env) :: starEach es X.env := by rfl) : DPA X κ (e :: es) (dCons f r) :=
  (pa_cons h t hs).imp fun σ H Q ⟨A, ρ, c, ds, c', E, hf, q⟩ => by
    obtain ⟨d, c1, ds', e1, e2, rfl⟩ := dCons_some hf
    refine ⟨A, ρ, c, d, c1, E, e1, fun b v H1 x1 hc1 r1 => ?_⟩
    refine ⟨A, ρ, c1, ds', c', E.mono x1 hc1, e2, fun vs H2 x2 hc2 r2 => ?_⟩
    exact q (v :: vs) H2 (x1.trans x2) hc2 (.cons ⟨b, r1.mono E.κA x2⟩ r2)
def dTup (r : EvL) : Ev := fun ρ c => match r ρ c with
  | some (ds, c1) => if ds.length ≤ 1000 then some (.tup ds, c1) else none
  | none => none
def dLst (r : EvL) : Ev := fun ρ c => match r ρ c with
  | some (ds, c1) => if ds.length ≤ 1000 then some (.lst ds, c1) else none
  | none => none
theorem le_line {n : Nat} (h : n ≤ 1000) : n ≤ sizeLine := Nat.le_of_lt (small1000 h)
theorem upd_cup {κ p : Addr} {H : Hp} {c : Cup} {o : HO} (hp : H p = none) (h : H κ = some (cupO c)) : upd H p o κ = some (cupO c) := by
  rw [upd_ne (ne_of_none h hp)]; exact h
theorem de_tup {es : List Expr} {x1} {r : EvL} (h : DA X κ es r) : DE X κ (.Tuple es x1 pos) (dTup r) := (pe_tup h).imp fun σ H Q ⟨A, ρ, c, d, c', E, hf, q⟩ => by
  unfold dTup at hf
  split at hf
  · rename_i ds c1 e1
    split at hf
    · rename_i hl
      cases hf
      refine ⟨A, ρ, c, ds, _, E, e1, fun vs H1 x1 hc1 r1 => ⟨le_line (by rw [← r1.length]; exact hl), fun p hp => ?_⟩⟩
      have E1 := E.mono x1 hc1
      refine q _ _ (x1.trans (Same.ext (same_upd hp))) (upd_cup hp hc1) ?_
      simp only [Rep]
      exact ⟨p, vs, rfl, .inl (.inl (cut_of (E1.fresh hp) upd_same)), Reps.mono ((Same.ext (same_upd hp)).cut E.κA) _ _ r1⟩
    · cases hf
  · cases hf
theorem dn_lst {es : List Expr} {r : EvL} (h : DA X κ es r) : DN X κ (.List es pos) (dLst r) := (pe_lst h).imp fun σ H Q ⟨A, ρ, c, d, c', E, hf, q⟩ => by
  unfold dLst at hf
  split at hf
  · rename_i ds c1 e1
    split at hf
    · rename_i hl
      cases hf
      refine ⟨A, ρ, c, ds, _, E, e1, fun vs H1 x1 hc1 r1 => ⟨le_line (by rw [← r1.length]; exact hl), fun p hp => ?_⟩⟩
      have E1 := E.mono x1 hc1
      have hp0 : H p = none := by
        cases e : H p with
        | none => rfl
        | some o =>
          by_cases hk : p = κ
          · subst hk; rw [hp] at hc1; cases hc1
          · rw [x1 p o hk e] at hp; cases hp
      refine q p _ (x1.trans (Same.ext (same_upd hp))) (upd_cup hp hc1) hp0 ⟨vs, upd_same, Reps.mono (fun b o e => ?_) _ _ r1⟩ ⟨_, upd_same, trivial⟩
      obtain ⟨n, e⟩ := of_cut e
      have hb : b ≠ p := ne_of_none e hp
      exact cut_of (fun z => z.elim n hb) (by rw [upd_ne hb]; exact e)
    · cases hf
  · cases hf
end
end DL
end
section
/-! DLb: operators, comparisons, subscripts, slices over plain values. -/
namespace DL
open PySem PySem.Spec PyProof.Rows L2

abbrev lim : Nat := 1000000
theorem lim_line {n : Nat} (h : n ≤ lim) : n ≤ sizeLine := by rw [sizeLine_eq]; show n ≤ 16777216; have : lim = 1000000 := rfl; omega

section
variable {B : Bx} {A : Addr → Prop} {H H' : Hp} {b : Bool} {v : V}
theorem Slot.rep {d : D} (h : Slot B A H b d v) : Rep B H d v := by
  cases b with
  | false => exact Rep.mono cut_same d v h
  | true =>
    obtain ⟨a, rfl, hA, hn, o⟩ := h
    exact Own.rep (o.mono (fun _ q => q) cut_same) rfl
theorem Slot.int_inv {i : Int} (h : Slot B A H b (.int i) v) : v = .int i := by have := h.rep; simpa only [Rep] using this
theorem Slot.str_inv {s : Str} (h : Slot B A H b (.str s) v) : v = .str s := by have := h.rep; simpa only [Rep] using this
theorem Slot.bl_inv {s : Bool} (h : Slot B A H b (.bl s) v) : v = .bl s := by have := h.rep; simpa only [Rep] using this
theorem Slot.non_inv (h : Slot B A H b .non v) : v = .non := by have := h.rep; simpa only [Rep] using this
theorem Slot.tup_inv {ds : List D} (h : Slot B A H b (.tup ds) v) : ∃ a vs, v = .ref a ∧ SqT B.K H a vs ∧ Reps B (cut H A) ds vs := by
  cases b with
  | false =>
    have h : Rep B (cut H A) (.tup ds) v := h
    simp only [Rep] at h
    obtain ⟨a, vs, e, q, r⟩ := h
    exact ⟨a, vs, e, SqT_same cut_same q, r⟩
  | true =>
    obtain ⟨a, _, _, _, o⟩ := h
    exact False.elim o
theorem Slot.tup_rep {ds : List D} (h : Slot B A H b (.tup ds) v) : Rep B (cut H A) (.tup ds) v := by
  cases b with
  | false => exact h
  | true =>
    obtain ⟨a, _, _, _, o⟩ := h
    exact False.elim o
theorem Slot.lst_inv {ds : List D} (h : Slot B A H b (.lst ds) v) : ∃ a vs, v = .ref a ∧ H a = some (.lst vs) ∧ Reps B (cut H A) ds vs := by
  cases b with
  | false =>
    have h : Rep B (cut H A) (.lst ds) v := h
    simp only [Rep] at h
    obtain ⟨a, vs, e, q, r⟩ := h
    exact ⟨a, vs, e, (of_cut q).2, r⟩
  | true =>
    obtain ⟨a, e, _, _, vs, e2, r⟩ := h
    exact ⟨a, vs, e, e2, r⟩
theorem Slot.dic_inv {ks ds : List D} (h : Slot B A H b (.dic ks ds) v) : ∃ a xs, v = .ref a ∧ DicAt B H a xs ∧ KOk ks ∧ xs.map (·.1) = ks ∧ Reps B (cut H A) ks (xs.map (·.2.1)) ∧ Reps B (cut H A) ds (xs.map (·.2.2)) := by
  cases b with
  | false =>
    have h : Rep B (cut H A) (.dic ks ds) v := h
    simp only [Rep] at h
    obtain ⟨a, xs, e, q, k, ek, r1, r2⟩ := h
    exact ⟨a, xs, e, DicAt.same cut_same q, k, ek, r1, r2⟩
  | true =>
    obtain ⟨a, e, _, _, xs, ep, e2, k, ek, r1, r2⟩ := h
    exact ⟨a, xs, e, .inl ⟨ep, e2⟩, k, ek, r1, r2⟩
theorem rep_new_tup {ds : List D} {vs : List V} {p : Addr} (hp : H p = none) (n : ¬ A p) (r : Reps B (cut H A) ds vs) : Rep B (cut (upd H p (.tup vs)) A) (.tup ds) (.ref p) := by
  simp only [Rep]
  refine ⟨p, vs, rfl, .inl (.inl (cut_of n upd_same)), Reps.mono (fun c o e => ?_) _ _ r⟩
  obtain ⟨nc, e⟩ := of_cut e
  exact cut_of nc (same_upd hp _ _ e)
theorem rep_new_lst {ds : List D} {vs : List V} {p : Addr} (hp : H p = none) (n : ¬ A p) (r : Reps B (cut H A) ds vs) : Rep B (cut (upd H p (.lst vs)) A) (.lst ds) (.ref p) := by
  simp only [Rep]
  refine ⟨p, vs, rfl, cut_of n upd_same, Reps.mono (fun c o e => ?_) _ _ r⟩
  obtain ⟨nc, e⟩ := of_cut e
  exact cut_of nc (same_upd hp _ _ e)
theorem rep_int {G : Hp} {i : Int} : Rep B G (.int i) (.int i) := by simp only [Rep]
theorem rep_bl {G : Hp} {i : Bool} : Rep B G (.bl i) (.bl i) := by simp only [Rep]
theorem rep_str {G : Hp} {i : Str} : Rep B G (.str i) (.str i) := by simp only [Rep]
theorem rep_non {G : Hp} : Rep B G .non .non := by simp only [Rep]
end

/-- an operator by values does what g says of plain values -/
def OpOk (B : Bx) (r : R2) (g : D → D → Option D) : Prop := ∀ (A : Addr → Prop) (H : Hp) (b1 b2 : Bool) (d1 d2 d : D) (x y : V) (Q : VK), (∀ p, H p = none → ¬ A p) →
  Slot B A H b1 d1 x → Slot B A H b2 d2 y → g d1 d2 = some d → (∀ v H', Same H H' → Rep B (cut H' A) d v → Q v H') → r x y H Q
def dBin (g : D → D → Option D) (f1 f2 : Ev) : Ev := fun ρ c => match f1 ρ c with
  | some (d1, c1) => match f2 ρ c1 with
    | some (d2, c2) => match g d1 d2 with
      | some d => some (d, c2)
      | none => none
    | none => none
  | none => none
theorem dBin_some {g : D → D → Option D} {f1 f2 : Ev} {ρ : Rho} {c c' : Cup} {d : D} (h : dBin g f1 f2 ρ c = some (d, c')) : ∃ d1 c1 d2, f1 ρ c = some (d1, c1) ∧ f2 ρ c1 = some (d2, c') ∧ g d1 d2 = some d := by
  unfold dBin at h
  split at h
  · rename_i d1 c1 e1
    split at h
    · rename_i d2 c2 e2
      split at h
      · rename_i d3 e3
        cases h
        exact ⟨d1, c1, d2, e1, e2, e3⟩
      · cases h
    · cases h
  · cases h
section
variable {X : Cx} {κ : Addr} {e a b : Expr} {f g f1 f2 : Ev} {pos : Pos}
theorem tOp_of {r : R2} {g : D → D → Option D} (hr : OpOk (bx X κ) r g) (σ : L2.St) (H : Hp) (Q : VK) (h : tD (bx X κ) (dBin g f1 f2) σ H Q) : tOp r (tP (bx X κ) f1) (tP (bx X κ) f2) σ H Q := by
  obtain ⟨A, ρ, c, d, c', E, hf, q⟩ := h
  obtain ⟨d1, c1, d2, e1, e2, e3⟩ := dBin_some hf
  refine ⟨A, ρ, c, d1, c1, E, e1, fun b1 x H1 x1 hc1 s1 => ?_⟩
  have E1 := E.mono x1 hc1
  refine ⟨A, ρ, c1, d2, c', E1, e2, fun b2 y H2 x2 hc2 s2 => ?_⟩
  have E2 := E1.mono x2 hc2
  refine hr A H2 b1 b2 d1 d2 d x y Q (fun p hp => E2.fresh hp) (s1.mono E.κA x2) s2 e3 fun v H3 sm rp => ?_
  exact q v H3 ((x1.trans x2).trans (Same.ext sm)) (sm _ _ hc2) rp
theorem de_op {op : Operator} {r : R2} {g : D → D → Option D} (ho : OpR X (binaryOp op) r) (hr : OpOk (bx X κ) r g) (ha : DP X κ a f1) (hb : DP X κ b f2) : DE X κ (.BinOp a op b pos) (dBin g f1 f2) :=
  (pe_op ho ha hb).imp fun σ H Q h => tOp_of hr σ H Q h
theorem de_cmp {op : CmpOp} {r : R2} {g : D → D → Option D} (ho : OpR X (compareOp op) r) (hr : OpOk (bx X κ) r g) (ha : DP X κ a f1) (hb : DP X κ b f2) (hm : behindInMarks op b = false) : DE X κ (.Compare a [op] [b] pos) (dBin g f1 f2) :=
  (pe_cmpR ho ha hb hm).imp fun σ H Q h => tOp_of hr σ H Q h
/-- a value that is a bool, as a test -/
def dTest (f : Ev) : EvB := fun ρ c => match f ρ c with
  | some (.bl b, c1) => some (b, c1)
  | _ => none
theorem dTest_some {ρ : Rho} {c c' : Cup} {b : Bool} (h : dTest f ρ c = some (b, c')) : f ρ c = some (.bl b, c') := by
  unfold dTest at h
  split at h
  · rename_i b' c1 e1
    cases h; exact e1
  · cases h
theorem tTest_of {t : TE} (i : ∀ σ H Q, tD (bx X κ) f σ H Q → t σ H Q) (σ : L2.St) (H : Hp) (Q : Bool → Hp → Prop) (h : tDT (bx X κ) (dTest f) σ H Q) : tTest t σ H Q := by
  obtain ⟨A, ρ, c, b, c', E, hf, q⟩ := h
  exact i σ H _ ⟨A, ρ, c, .bl b, c', E, dTest_some hf, fun v H' x hc r => ⟨b, by simpa only [Rep] using r, q H' x hc⟩⟩
theorem dt_cmp {op : CmpOp} {r : R2} {g : D → D → Option D} (ho : OpR X (compareOp op) r) (hr : OpOk (bx X κ) r g) (ha : DP X κ a f1) (hb : DP X κ b f2) (hm : behindInMarks op b = false) : DT X κ (.Compare a [op] [b] pos) (dTest (dBin g f1 f2)) :=
  (pt_cmpR ho ha hb hm).imp fun σ H Q h => tTest_of (fun σ H Q h => tOp_of hr σ H Q h) σ H Q h
theorem dt_val (h : DE X κ e f) (he : ∀ whole, isTrue e X.env whole = (do let v ← whole; standAt e.pos; holding [v] (truthy v)) := by intro _; rfl) : DT X κ e (dTest f) :=
  (pt_val h he).imp fun σ H Q ⟨A, ρ, c, b, c', E, hf, q⟩ => ⟨A, ρ, c, .bl b, c', E, dTest_some hf, fun v H' x hc r => ⟨b, by simpa only [Rep] using r, q H' x hc⟩⟩

/-! ### chains: a <= b <= c -/
def dChain (g g' : D → D → Option D) (f1 f2 f3 : Ev) : Ev := fun ρ c => match f1 ρ c with
  | some (d1, c1) => match f2 ρ c1 with
    | some (d2, c2) => match g d1 d2 with
      | some (.bl true) => match f3 ρ c2 with
        | some (d3, c3) => match g' d2 d3 with
          | some d => some (d, c3)
          | none => none
        | none => none
      | some (.bl false) => some (.bl false, c2)
      | _ => none
    | none => none
  | none => none
theorem tChain_of {c0 : Expr} {f3 : Ev} {r r' : R2} {g g' : D → D → Option D} (hr : OpOk (bx X κ) r g) (hr' : OpOk (bx X κ) r' g') (σ : L2.St) (H : Hp) (Q : VK) (h : tD (bx X κ) (dChain g g' f1 f2 f3) σ H Q) :
    tChain r r' (tP (bx X κ) f1) (tP (bx X κ) f2) (tP (bx X κ) f3) σ H Q := by
  obtain ⟨A, ρ, c, d, c', E, hf, q⟩ := h
  unfold dChain at hf
  split at hf
  · rename_i d1 c1 e1
    split at hf
    · rename_i d2 c2 e2
      refine ⟨A, ρ, c, d1, c1, E, e1, fun b1 x H1 x1 hc1 s1 => ?_⟩
      have E1 := E.mono x1 hc1
      refine ⟨A, ρ, c1, d2, c2, E1, e2, fun b2 y H2 x2 hc2 s2 => ?_⟩
      have E2 := E1.mono x2 hc2
      split at hf
      · rename_i e3
        split at hf
        · rename_i d3 c3 e4
          split at hf
          · rename_i d' e5
            cases hf
            refine hr A H2 b1 b2 d1 d2 _ x y _ (fun p hp => E2.fresh hp) (s1.mono E.κA x2) s2 e3 fun v H3 sm rp => ?_
            have E3 := E2.mono (Same.ext sm) (sm _ _ hc2)
            refine ⟨true, by simpa only [Rep] using rp, ?_⟩
            rw [if_pos rfl]
            refine ⟨A, ρ, c2, d3, _, E3, e4, fun b3 z H4 x4 hc4 s4 => ?_⟩
            have E4 := E3.mono x4 hc4
            refine hr' A H4 b2 b3 d2 d3 _ y z Q (fun p hp => E4.fresh hp) (s2.mono E.κA ((Same.ext sm).trans x4)) s4 e5 fun v5 H5 sm5 rp5 => ?_
            exact q v5 H5 (((x1.trans x2).trans ((Same.ext sm).trans x4)).trans (Same.ext sm5)) (sm5 _ _ hc4) rp5
          · cases hf
        · cases hf
      · rename_i e3
        cases hf
        refine hr A H2 b1 b2 d1 d2 _ x y _ (fun p hp => E2.fresh hp) (s1.mono E.κA x2) s2 e3 fun v H3 sm rp => ?_
        refine ⟨false, by simpa only [Rep] using rp, ?_⟩
        rw [if_neg Bool.false_ne_true]
        exact q _ H3 ((x1.trans x2).trans (Same.ext sm)) (sm _ _ hc2) rep_bl
      · cases hf
    · cases hf
  · cases hf
theorem de_chain {c0 : Expr} {f3 : Ev} {op op' : CmpOp} {r r' : R2} {g g' : D → D → Option D} (ho : OpR X (compareOp op) r) (ho' : OpR X (compareOp op') r') (hr : OpOk (bx X κ) r g) (hr' : OpOk (bx X κ) r' g')
    (ha : DP X κ a f1) (hb : DP X κ b f2) (hc : DP X κ c0 f3) (hm : lastMarks [op, op'] [b, c0] = false := by with_unfolding_all rfl) : DE X κ (.Compare a [op, op'] [b, c0] pos) (dChain g g' f1 f2 f3) :=
  (pe_chain ho ho' ha hb hc hm).imp fun σ H Q h => tChain_of (c0 := c0) hr hr' σ H Q h
theorem dt_chain {c0 : Expr} {f3 : Ev} {op op' : CmpOp} {r r' : R2} {g g' : D → D → Option D} (ho : OpR X (compareOp op) r) (ho' : OpR X (compareOp op') r') (hr : OpOk (bx X κ) r g) (hr' : OpOk (bx X κ) r' g')
    (ha : DP X κ a f1) (hb : DP X κ b f2) (hc : DP X κ c0 f3) (hm : lastMarks [op, op'] [b, c0] = false := by with_unfolding_all rfl) : DT X κ (.Compare a [op, op'] [b, c0] pos) (dTest (dChain g g' f1 f2 f3)) :=
  (pt_chain ho ho' ha hb hc hm).imp fun σ H Q h => tTest_of (fun σ H Q h => tChain_of (c0 := c0) hr hr' σ H Q h) σ H Q h
end

/-! ### + - * // % ** -/
theorem le_add {a b : Nat} : a ≤ a + b := Nat.le_add_right a b
def opAdd : D → D → Option D
  | .int i, .int j => some (.int (i + j))
  | .str s, .str t => if s.length + t.length ≤ lim then some (.str (s ++ t)) else none
  | .tup xs, .tup ys => if xs.length + ys.length ≤ lim then some (.tup (xs ++ ys)) else none
  | .lst xs, .lst ys => if xs.length + ys.length ≤ lim then some (.lst (xs ++ ys)) else none
  | _, _ => none
def rAddD (K : PySem.W.Frag) : R2 := fun x y H Q => rI0 (fun i j => .int (i + j)) x y H Q ∨ (∃ i j, x = .str i ∧ y = .str j ∧ i.length + j.length ≤ sizeLine ∧ Q (.str (i ++ j)) H) ∨ rCatA K x y H Q ∨ rCat x y H Q
theorem op_addD {X : Cx} : OpR X (binaryOp .Add) (rAddD X.K) := op_add.or (op_add_str.or (op_catA.or op_cat))
theorem ok_add {B : Bx} : OpOk B (rAddD B.K) opAdd := by
  intro A H b1 b2 d1 d2 d x y Q fr s1 s2 hg q
  unfold opAdd at hg
  split at hg
  · cases hg
    exact .inl ⟨_, _, s1.int_inv, s2.int_inv, q _ _ (Same.refl _) rep_int⟩
  · split at hg
    · rename_i hl
      cases hg
      exact .inr (.inl ⟨_, _, s1.str_inv, s2.str_inv, lim_line hl, q _ _ (Same.refl _) rep_str⟩)
    · cases hg
  · rename_i xs ys
    split at hg
    · rename_i hl
      cases hg
      obtain ⟨a, vs, e1, h1, r1⟩ := s1.tup_inv
      obtain ⟨b, us, e2, h2, r2⟩ := s2.tup_inv
      have l1 := r1.length
      have l2 := r2.length
      refine .inr (.inr (.inl ⟨a, b, vs, us, e1, e2, h1, h2, lim_line (by omega), fun z => ?_, fun z1 z => ?_, fun _ _ p hp => ?_⟩))
      · subst z
        have : xs = [] := List.eq_nil_of_length_eq_zero l1
        subst this
        exact q _ _ (Same.refl _) (e2 ▸ s2.tup_rep)
      · subst z
        have : ys = [] := List.eq_nil_of_length_eq_zero l2
        subst this
        rw [List.append_nil] at q
        exact q _ _ (Same.refl _) (e1 ▸ s1.tup_rep)
      · exact q _ _ (same_upd hp) (rep_new_tup hp (fr p hp) (r1.append r2))
    · cases hg
  · split at hg
    · rename_i hl
      cases hg
      obtain ⟨a, vs, e1, h1, r1⟩ := s1.lst_inv
      obtain ⟨b, us, e2, h2, r2⟩ := s2.lst_inv
      have l1 := r1.length
      have l2 := r2.length
      exact .inr (.inr (.inr ⟨a, b, vs, us, e1, e2, h1, h2, lim_line (by omega), fun p hp => q _ _ (same_upd hp) (rep_new_lst hp (fr p hp) (r1.append r2))⟩))
    · cases hg
  · cases hg
def opSub : D → D → Option D
  | .int i, .int j => some (.int (i - j))
  | _, _ => none
theorem ok_sub {B : Bx} : OpOk B (rI0 fun i j => .int (i - j)) opSub := by
  intro A H b1 b2 d1 d2 d x y Q fr s1 s2 hg q
  unfold opSub at hg
  split at hg
  · cases hg
    exact ⟨_, _, s1.int_inv, s2.int_inv, q _ _ (Same.refl _) rep_int⟩
  · cases hg
def opFdiv : D → D → Option D
  | .int i, .int j => if 0 < j ∧ j < 1073741824 then some (.int (i / j)) else none
  | _, _ => none
theorem ok_fdiv {B : Bx} : OpOk B (rI CDiv fun i j => .int (i / j)) opFdiv := by
  intro A H b1 b2 d1 d2 d x y Q fr s1 s2 hg q
  unfold opFdiv at hg
  split at hg
  · split at hg
    · rename_i hc
      cases hg
      exact ⟨_, _, s1.int_inv, s2.int_inv, hc, q _ _ (Same.refl _) rep_int⟩
    · cases hg
  · cases hg
def opMod : D → D → Option D
  | .int i, .int j => if 0 < j then some (.int (i % j)) else none
  | _, _ => none
theorem ok_mod {B : Bx} : OpOk B (rI (fun _ j => 0 < j) fun i j => .int (i % j)) opMod := by
  intro A H b1 b2 d1 d2 d x y Q fr s1 s2 hg q
  unfold opMod at hg
  split at hg
  · split at hg
    · rename_i hc
      cases hg
      exact ⟨_, _, s1.int_inv, s2.int_inv, hc, q _ _ (Same.refl _) rep_int⟩
    · cases hg
  · cases hg
def opPow : D → D → Option D
  | .int i, .int j => if 0 ≤ j ∧ j ≤ 1000 ∧ i.natAbs < 2 ^ 64 then some (.int (i ^ j.toNat)) else none
  | _, _ => none
theorem ok_pow {B : Bx} : OpOk B (rI CPow fun i j => .int (i ^ j.toNat)) opPow := by
  intro A H b1 b2 d1 d2 d x y Q fr s1 s2 hg q
  unfold opPow at hg
  split at hg
  · split at hg
    · rename_i hc
      cases hg
      exact ⟨_, _, s1.int_inv, s2.int_inv, ⟨hc.1, by omega, hc.2.2⟩, q _ _ (Same.refl _) rep_int⟩
    · cases hg
  · cases hg

/-! ### comparisons -/
def opLt : D → D → Option D
  | .int i, .int j => some (.bl (decide (i < j)))
  | _, _ => none
def opLe : D → D → Option D
  | .int i, .int j => some (.bl (decide (i ≤ j)))
  | _, _ => none
def opGt : D → D → Option D
  | .int i, .int j => some (.bl (decide (j < i)))
  | _, _ => none
def opGe : D → D → Option D
  | .int i, .int j => some (.bl (decide (j ≤ i)))
  | _, _ => none
theorem ok_lt {B : Bx} : OpOk B (rI0 fun i j => .bl (decide (i < j))) opLt := by
  intro A H b1 b2 d1 d2 d x y Q fr s1 s2 hg q
  unfold opLt at hg
  split at hg
  · cases hg
    exact ⟨_, _, s1.int_inv, s2.int_inv, q _ _ (Same.refl _) rep_bl⟩
  · cases hg
theorem ok_le {B : Bx} : OpOk B (rI0 fun i j => .bl (decide (i ≤ j))) opLe := by
  intro A H b1 b2 d1 d2 d x y Q fr s1 s2 hg q
  unfold opLe at hg
  split at hg
  · cases hg
    exact ⟨_, _, s1.int_inv, s2.int_inv, q _ _ (Same.refl _) rep_bl⟩
  · cases hg
theorem ok_gt {B : Bx} : OpOk B (rI0 fun i j => .bl (decide (j < i))) opGt := by
  intro A H b1 b2 d1 d2 d x y Q fr s1 s2 hg q
  unfold opGt at hg
  split at hg
  · cases hg
    exact ⟨_, _, s1.int_inv, s2.int_inv, q _ _ (Same.refl _) rep_bl⟩
  · cases hg
theorem ok_ge {B : Bx} : OpOk B (rI0 fun i j => .bl (decide (j ≤ i))) opGe := by
  intro A H b1 b2 d1 d2 d x y Q fr s1 s2 hg q
  unfold opGe at hg
  split at hg
  · cases hg
    exact ⟨_, _, s1.int_inv, s2.int_inv, q _ _ (Same.refl _) rep_bl⟩
  · cases hg

/-! == and != -/
mutual
/-- may be compared: no dict, no cup, at most so many levels -/
def D.okEq : Nat → D → Bool
  | _, .non => true
  | _, .bl _ => true
  | _, .int _ => true
  | _, .str s => PyData.strOk s
  | n + 1, .tup ds => D.okEqs n ds
  | n + 1, .lst ds => D.okEqs n ds
  | _, _ => false
def D.okEqs : Nat → List D → Bool
  | _, [] => true
  | n, d :: ds => D.okEq n d && D.okEqs n ds
end
mutual
def D.toData : D → PyData
  | .non => .none
  | .bl b => .bool b
  | .int i => .int i
  | .str s => .str s
  | .tup ds => .tuple (D.toDatas ds)
  | .lst ds => .list (D.toDatas ds)
  | .dic _ _ => .dict []
  | .cup => .none
def D.toDatas : List D → List PyData
  | [] => []
  | d :: ds => D.toData d :: D.toDatas ds
end
mutual
/-- Python's == -/
def D.eqv : D → D → Bool
  | .non, .non => true
  | .bl a, .bl b => a == b
  | .bl a, .int j => (if a then 1 else 0) == j
  | .int i, .bl b => i == (if b then 1 else 0)
  | .int i, .int j => i == j
  | .str x, .str y => x == y
  | .tup xs, .tup ys => D.eqvs xs ys
  | .lst xs, .lst ys => D.eqvs xs ys
  | _, _ => false
def D.eqvs : List D → List D → Bool
  | [], [] => true
  | x :: xs, y :: ys => D.eqv x y && D.eqvs xs ys
  | _, _ => false
end
mutual
theorem okEq_canLay : ∀ (n : Nat) (d : D), D.okEq n d = true → PyData.canLay0 d.toData = true
  | _, .non, _ => rfl
  | _, .bl _, _ => rfl
  | _, .int _, _ => rfl
  | n, .str s, h => by cases n <;> simpa only [D.okEq, D.toData, PyData.canLay0] using h
  | 0, .tup ds, h => by simp [D.okEq] at h
  | n + 1, .tup ds, h => by simp only [D.okEq] at h; simp only [D.toData, PyData.canLay0]; exact okEqs_canLay n ds h
  | 0, .lst ds, h => by simp [D.okEq] at h
  | n + 1, .lst ds, h => by simp only [D.okEq] at h; simp only [D.toData, PyData.canLay0]; exact okEqs_canLay n ds h
  | n, .dic _ _, h => by cases n <;> simp [D.okEq] at h
  | n, .cup, h => by cases n <;> simp [D.okEq] at h
theorem okEqs_canLay : ∀ (n : Nat) (ds : List D), D.okEqs n ds = true → PyData.canLayAll0 (D.toDatas ds) = true
  | _, [], _ => rfl
  | n, d :: ds, h => by
    simp only [D.okEqs, Bool.and_eq_true] at h
    simp only [D.toDatas, PyData.canLayAll0, Bool.and_eq_true]
    exact ⟨okEq_canLay n d h.1, okEqs_canLay n ds h.2⟩
end
mutual
theorem okEq_depth : ∀ (n : Nat) (d : D), D.okEq n d = true → PyData.depth d.toData ≤ n
  | _, .non, _ => Nat.zero_le _
  | _, .bl _, _ => Nat.zero_le _
  | _, .int _, _ => Nat.zero_le _
  | n, .str s, h => Nat.zero_le _
  | 0, .tup ds, h => by simp [D.okEq] at h
  | n + 1, .tup ds, h => by simp only [D.okEq] at h; simp only [D.toData, PyData.depth]; exact Nat.succ_le_succ (okEqs_depth n ds h)
  | 0, .lst ds, h => by simp [D.okEq] at h
  | n + 1, .lst ds, h => by simp only [D.okEq] at h; simp only [D.toData, PyData.depth]; exact Nat.succ_le_succ (okEqs_depth n ds h)
  | n, .dic _ _, h => by cases n <;> simp [D.okEq] at h
  | n, .cup, h => by cases n <;> simp [D.okEq] at h
theorem okEqs_depth : ∀ (n : Nat) (ds : List D), D.okEqs n ds = true → PyData.depthAll (D.toDatas ds) ≤ n
  | _, [], _ => Nat.zero_le _
  | n, d :: ds, h => by
    simp only [D.okEqs, Bool.and_eq_true] at h
    simp only [D.toDatas, PyData.depthAll]
    exact Nat.max_le.mpr ⟨okEq_depth n d h.1, okEqs_depth n ds h.2⟩
end
theorem okEq_shaped {d : D} (h : D.okEq 60 d = true) : SeqAt.shaped d.toData = true := by
  show (d.toData.canLay0 && decide (d.toData.depth ≤ 64)) = true
  rw [Bool.and_eq_true]
  exact ⟨okEq_canLay _ _ h, decide_eq_true (Nat.le_trans (okEq_depth _ _ h) (by decide))⟩
mutual
theorem Rep.dp {B : Bx} {H : Hp} : ∀ (n : Nat) (d : D) (v : V), D.okEq n d = true → Rep B H d v → Dp B.K H v d.toData
  | _, .non, _, _, h => by simp only [Rep] at h; subst h; exact .non
  | _, .bl _, _, _, h => by simp only [Rep] at h; subst h; exact .bl _
  | _, .int _, _, _, h => by simp only [Rep] at h; subst h; exact .int _
  | _, .str _, _, _, h => by simp only [Rep] at h; subst h; exact .str _
  | 0, .tup ds, _, k, _ => by simp [D.okEq] at k
  | n + 1, .tup ds, v, k, h => by
    simp only [Rep] at h
    obtain ⟨a, vs, rfl, q, r⟩ := h
    simp only [D.okEq] at k
    simp only [D.toData]
    exact .tup q (Reps.dp n ds vs k r)
  | 0, .lst ds, _, k, _ => by simp [D.okEq] at k
  | n + 1, .lst ds, v, k, h => by
    simp only [Rep] at h
    obtain ⟨a, vs, rfl, q, r⟩ := h
    simp only [D.okEq] at k
    simp only [D.toData]
    exact .lst (.inl (.inl q)) (Reps.dp n ds vs k r)
  | n, .dic _ _, _, k, _ => by cases n <;> simp [D.okEq] at k
  | n, .cup, _, k, _ => by cases n <;> simp [D.okEq] at k
theorem Reps.dp {B : Bx} {H : Hp} : ∀ (n : Nat) (ds : List D) (vs : List V), D.okEqs n ds = true → Reps B H ds vs → DpAll B.K H vs (D.toDatas ds)
  | _, [], vs, _, h => by rw [h.nil_inv]; exact .nil
  | n, d :: ds, vs, k, h => by
    simp only [D.okEqs, Bool.and_eq_true] at k
    obtain ⟨v, r, rfl, h1, h2⟩ := h.cons_inv
    simp only [D.toDatas]
    exact .cons (Rep.dp n d v k.1 h1) (Reps.dp n ds r k.2 h2)
end
mutual
theorem eqv_data : ∀ (n : Nat) (d e : D), D.okEq n d = true → D.okEq n e = true → PyData.eqv d.toData e.toData = D.eqv d e
  | _, .non, .non, _, _ | _, .non, .bl _, _, _ | _, .non, .int _, _, _ | _, .non, .str _, _, _ | _, .non, .tup _, _, _ | _, .non, .lst _, _, _ => by simp only [D.toData, PyData.eqv, D.eqv]
  | _, .bl _, .non, _, _ | _, .bl _, .bl _, _, _ | _, .bl _, .int _, _, _ | _, .bl _, .str _, _, _ | _, .bl _, .tup _, _, _ | _, .bl _, .lst _, _, _ => by simp only [D.toData, PyData.eqv, D.eqv]
  | _, .int _, .non, _, _ | _, .int _, .bl _, _, _ | _, .int _, .int _, _, _ | _, .int _, .str _, _, _ | _, .int _, .tup _, _, _ | _, .int _, .lst _, _, _ => by simp only [D.toData, PyData.eqv, D.eqv]
  | _, .str _, .non, _, _ | _, .str _, .bl _, _, _ | _, .str _, .int _, _, _ | _, .str _, .str _, _, _ | _, .str _, .tup _, _, _ | _, .str _, .lst _, _, _ => by simp only [D.toData, PyData.eqv, D.eqv]
  | _, .tup _, .non, _, _ | _, .tup _, .bl _, _, _ | _, .tup _, .int _, _, _ | _, .tup _, .str _, _, _ | _, .tup _, .lst _, _, _ => by simp only [D.toData, PyData.eqv, D.eqv]
  | _, .lst _, .non, _, _ | _, .lst _, .bl _, _, _ | _, .lst _, .int _, _, _ | _, .lst _, .str _, _, _ | _, .lst _, .tup _, _, _ => by simp only [D.toData, PyData.eqv, D.eqv]
  | 0, .tup _, .tup _, h, _ => by simp [D.okEq] at h
  | 0, .lst _, .lst _, h, _ => by simp [D.okEq] at h
  | n + 1, .tup xs, .tup ys, h, k => by
    simp only [D.okEq] at h k
    simp only [D.toData, PyData.eqv, D.eqv]
    exact eqvs_data n xs ys h k
  | n + 1, .lst xs, .lst ys, h, k => by
    simp only [D.okEq] at h k
    simp only [D.toData, PyData.eqv, D.eqv]
    exact eqvs_data n xs ys h k
  | n, .dic _ _, _, h, _ => by cases n <;> simp [D.okEq] at h
  | n, .cup, _, h, _ => by cases n <;> simp [D.okEq] at h
  | n, _, .dic _ _, _, h => by cases n <;> simp [D.okEq] at h
  | n, _, .cup, _, h => by cases n <;> simp [D.okEq] at h
theorem eqvs_data : ∀ (n : Nat) (ds es : List D), D.okEqs n ds = true → D.okEqs n es = true → PyData.eqvAll (D.toDatas ds) (D.toDatas es) = D.eqvs ds es
  | _, [], [], _, _ => by simp only [D.toDatas, PyData.eqvAll, D.eqvs]
  | _, [], _ :: _, _, _ => by simp only [D.toDatas, PyData.eqvAll, D.eqvs]
  | _, _ :: _, [], _, _ => by simp only [D.toDatas, PyData.eqvAll, D.eqvs]
  | n, d :: ds, e :: es, h, k => by
    simp only [D.okEqs, Bool.and_eq_true] at h k
    simp only [D.toDatas, PyData.eqvAll, D.eqvs]
    rw [eqv_data n d e h.1 k.1, eqvs_data n ds es h.2 k.2]
end
def opEq (d e : D) : Option D := if D.okEq 60 d && D.okEq 60 e then some (.bl (D.eqv d e)) else none
def opNe (d e : D) : Option D := if D.okEq 60 d && D.okEq 60 e then some (.bl (!D.eqv d e)) else none
theorem ok_eq {B : Bx} : OpOk B (rEqD B.K) opEq := by
  intro A H b1 b2 d1 d2 d x y Q fr s1 s2 hg q
  unfold opEq at hg
  split at hg
  · rename_i h
    cases hg
    rw [Bool.and_eq_true] at h
    exact ⟨_, _, Rep.dp 60 _ _ h.1 s1.rep, Rep.dp 60 _ _ h.2 s2.rep, okEq_shaped h.1, okEq_shaped h.2, q _ _ (Same.refl _) (by rw [eqv_data 60 _ _ h.1 h.2]; exact rep_bl)⟩
  · cases hg
theorem ok_ne {B : Bx} : OpOk B (rNeD B.K) opNe := by
  intro A H b1 b2 d1 d2 d x y Q fr s1 s2 hg q
  unfold opNe at hg
  split at hg
  · rename_i h
    cases hg
    rw [Bool.and_eq_true] at h
    exact ⟨_, _, Rep.dp 60 _ _ h.1 s1.rep, Rep.dp 60 _ _ h.2 s2.rep, okEq_shaped h.1, okEq_shaped h.2, q _ _ (Same.refl _) (by rw [eqv_data 60 _ _ h.1 h.2]; exact rep_bl)⟩
  · cases hg

/-! ### is: None, True, False -/
def isD (d e : D) : Option Bool := match e with
  | .non => some (match d with | .non => true | _ => false)
  | .bl b => some (match d with | .bl a => a == b | _ => false)
  | _ => none
def opIs (d e : D) : Option D := (isD d e).map .bl
def opIsNot (d e : D) : Option D := (isD d e).map fun b => .bl (!b)
def rIsS (neg : Bool) : R2 := fun x y H Q => (y = .non ∧ Q (.bl (decide (x = .non) != neg)) H) ∨ ∃ b, y = .bl b ∧ Q (.bl (decide (x = .bl b) != neg)) H
theorem RelV.bl_iff {x : V} {v : Value} {b : Bool} (r : RelV x v) : (v == Value.bool b) = decide (x = .bl b) := by
  cases x with
  | non => cases r; rfl
  | bl a => cases r; cases a <;> cases b <;> rfl
  | int _ => obtain ⟨t, rfl⟩ := r; rfl
  | str _ => obtain ⟨t, rfl⟩ := r; rfl
  | byt _ => obtain ⟨t, rfl⟩ := r; rfl
  | flt _ => obtain ⟨t, rfl⟩ := r; rfl
  | ref _ => cases r; rfl
  | ty _ => cases r; rfl
theorem is_bool_gen {M : Model} {A : Around} {E : Value → Shared → Prop} {s : Shared} {Q : Value → Shared → Prop} {x : V} {v : Value} {b : Bool} (r : RelV x v) (h : Q (.bool (v == .bool b)) s) : wpAny M A (compareOp .Is v (.bool b)) Q E s := by
  cases x with
  | non => cases r; exact wpAny_pure h
  | bl a => cases r; exact wpAny_pure h
  | int _ => obtain ⟨t, rfl⟩ := r; exact wpAny_pure h
  | str _ => obtain ⟨t, rfl⟩ := r; exact wpAny_pure h
  | byt _ => obtain ⟨t, rfl⟩ := r; exact wpAny_pure h
  | flt _ => obtain ⟨t, rfl⟩ := r; exact wpAny_pure h
  | ref _ => cases r; exact wpAny_pure h
  | ty _ => cases r; exact wpAny_pure h
theorem isnot_bool_gen {M : Model} {A : Around} {E : Value → Shared → Prop} {s : Shared} {Q : Value → Shared → Prop} {x : V} {v : Value} {b : Bool} (r : RelV x v) (h : Q (.bool (!(v == .bool b))) s) : wpAny M A (compareOp .IsNot v (.bool b)) Q E s := by
  cases x with
  | non => cases r; exact wpAny_pure h
  | bl a => cases r; exact wpAny_pure h
  | int _ => obtain ⟨t, rfl⟩ := r; exact wpAny_pure h
  | str _ => obtain ⟨t, rfl⟩ := r; exact wpAny_pure h
  | byt _ => obtain ⟨t, rfl⟩ := r; exact wpAny_pure h
  | flt _ => obtain ⟨t, rfl⟩ := r; exact wpAny_pure h
  | ref _ => cases r; exact wpAny_pure h
  | ty _ => cases r; exact wpAny_pure h
theorem bne_f (b : Bool) : (b != false) = b := by cases b <;> rfl
theorem bne_t (b : Bool) : (b != true) = !b := by cases b <;> rfl
theorem op_isS {X : Cx} : OpR X (compareOp .Is) (rIsS false) := by
  intro pins s σ H x y v u Q I rx ry h
  rcases h with ⟨rfl, q⟩ | ⟨b, rfl, q⟩
  · cases ry
    exact is_none_gen (fin_bl I q (by rw [rx.none_iff, bne_f]))
  · cases ry
    exact is_bool_gen rx (fin_bl I q (by rw [RelV.bl_iff rx, bne_f]))
theorem op_isNotS {X : Cx} : OpR X (compareOp .IsNot) (rIsS true) := by
  intro pins s σ H x y v u Q I rx ry h
  rcases h with ⟨rfl, q⟩ | ⟨b, rfl, q⟩
  · cases ry
    exact isnot_none_gen (fin_bl I q (by rw [rx.none_iff, bne_t]))
  · cases ry
    exact isnot_bool_gen rx (fin_bl I q (by rw [RelV.bl_iff rx, bne_t]))
theorem Rep.isV {B : Bx} {H : Hp} {d e : D} {x y : V} {r : Bool} (h1 : Rep B H d x) (h2 : Rep B H e y) (h : isD d e = some r) : (y = .non ∧ decide (x = .non) = r) ∨ ∃ b, y = .bl b ∧ decide (x = .bl b) = r := by
  unfold isD at h
  split at h
  · simp only [Rep] at h2
    refine .inl ⟨h2, ?_⟩
    cases h
    cases d <;> simp only [Rep] at h1
    · subst h1; rfl
    · subst h1; rfl
    · subst h1; rfl
    · subst h1; rfl
    · obtain ⟨a, _, rfl, _⟩ := h1; rfl
    · obtain ⟨a, _, rfl, _⟩ := h1; rfl
    · obtain ⟨a, _, rfl, _⟩ := h1; rfl
    · subst h1; rfl
  · rename_i b
    simp only [Rep] at h2
    refine .inr ⟨b, h2, ?_⟩
    cases h
    cases d <;> simp only [Rep] at h1
    · subst h1; rfl
    · rename_i a
      subst h1
      cases a <;> cases b <;> rfl
    · subst h1; rfl
    · subst h1; rfl
    · obtain ⟨a, _, rfl, _⟩ := h1; rfl
    · obtain ⟨a, _, rfl, _⟩ := h1; rfl
    · obtain ⟨a, _, rfl, _⟩ := h1; rfl
    · subst h1; rfl
  · cases h
theorem ok_is {B : Bx} : OpOk B (rIsS false) opIs := by
  intro A H b1 b2 d1 d2 d x y Q fr s1 s2 hg q
  unfold opIs at hg
  obtain ⟨r, hr, rfl⟩ := Option.map_eq_some_iff.mp hg
  rcases Rep.isV s1.rep s2.rep hr with ⟨e, z⟩ | ⟨b, e, z⟩
  · exact .inl ⟨e, by rw [z, bne_f]; exact q _ _ (Same.refl _) rep_bl⟩
  · exact .inr ⟨b, e, by rw [z, bne_f]; exact q _ _ (Same.refl _) rep_bl⟩
theorem ok_isNot {B : Bx} : OpOk B (rIsS true) opIsNot := by
  intro A H b1 b2 d1 d2 d x y Q fr s1 s2 hg q
  unfold opIsNot at hg
  obtain ⟨r, hr, rfl⟩ := Option.map_eq_some_iff.mp hg
  rcases Rep.isV s1.rep s2.rep hr with ⟨e, z⟩ | ⟨b, e, z⟩
  · exact .inl ⟨e, by rw [z, bne_t]; exact q _ _ (Same.refl _) rep_bl⟩
  · exact .inr ⟨b, e, by rw [z, bne_t]; exact q _ _ (Same.refl _) rep_bl⟩
end DL
end
section
/-! DLd: dicts with keys of any depth. -/
namespace DL
open PySem PySem.Spec PyProof.Rows L2

def kD : Key → D
  | .inl i => .int i
  | .inr s => .str s
theorem skey_kD : ∀ k : Key, skey (kD k) = some k
  | .inl _ => rfl
  | .inr _ => rfl
theorem kD_of {d : D} {k : Key} (h : skey d = some k) : d = kD k := by
  cases d <;> simp only [skey] at h <;> cases h <;> rfl
theorem hash_kD (w : World) : ∀ k : Key, hashD w (kD k) = keyH w k
  | .inl _ => rfl
  | .inr _ => rfl
theorem key_kD_inj : ∀ {a b : Key}, (kD a).key = (kD b).key → a = b
  | .inl a, .inl b, h => by
    have : NestedKey.num a = NestedKey.num b := Option.some.inj h
    cases this; rfl
  | .inr a, .inr b, h => by
    have : NestedKey.text a = NestedKey.text b := Option.some.inj h
    cases this; rfl
  | .inl a, .inr b, h => by
    have : NestedKey.num a = NestedKey.text b := Option.some.inj h
    cases this
  | .inr a, .inl b, h => by
    have : NestedKey.text a = NestedKey.num b := Option.some.inj h
    cases this

/-! ### a key's value in the heap -/
section
variable {X : Cx} {pins : List (Addr × Obj)} {σ : L2.St} {H : Hp} {s : Shared} {κ : Addr}
mutual
theorem nested_of_rep (I : Inv X pins σ H s) : ∀ (d : D) (v : V) (u : Value) (k : NestedKey), Rep (bx X κ) H d v → RelV v u → d.key = some k → NestedIs s.heap k u
  | .non, _, _, _, h, r, e => by simp only [Rep] at h; subst h; cases r; simp only [D.key] at e; cases e; exact .none
  | .bl b, _, _, _, h, r, e => by simp only [Rep] at h; subst h; cases r; simp only [D.key] at e; cases e; exact .bool rfl
  | .int i, _, _, _, h, r, e => by simp only [Rep] at h; subst h; obtain ⟨t, rfl⟩ := r; simp only [D.key] at e; cases e; exact .int i t
  | .str i, _, _, _, h, r, e => by simp only [Rep] at h; subst h; obtain ⟨t, rfl⟩ := r; simp only [D.key] at e; cases e; exact .text i t
  | .tup ds, v, u, k, h, r, e => by
    simp only [Rep] at h
    obtain ⟨a, vs, rfl, q, rs⟩ := h
    simp only [D.key] at e
    obtain ⟨ks, e1, rfl⟩ := Option.map_eq_some_iff.mp e
    cases (show u = Value.ref a from r)
    obtain ⟨its, rv, ⟨o, ho, hc, n, hd⟩, _⟩ := I.tuple q
    exact .tup ho hc hd (by simpa using nesteds_of_reps I ds vs its ks rs rv e1)
  | .lst _, _, _, _, _, _, e => by simp only [D.key] at e; cases e
  | .dic _ _, _, _, _, _, _, e => by simp only [D.key] at e; cases e
  | .cup, _, _, _, _, _, e => by simp only [D.key] at e; cases e
theorem nesteds_of_reps (I : Inv X pins σ H s) : ∀ (ds : List D) (vs : List V) (us : List Value) (ks : List NestedKey), Reps (bx X κ) H ds vs → Vals vs us → D.keys ds = some ks → NestedAll s.heap ks us
  | [], vs, us, ks, h, r, e => by
    rw [h.nil_inv] at r
    cases r
    simp only [D.keys] at e
    cases e
    exact .nil
  | d :: ds, vs, us, ks, h, r, e => by
    obtain ⟨v, vr, rfl, h1, h2⟩ := h.cons_inv
    cases r with
    | cons r1 r2 =>
      simp only [D.keys] at e
      split at e
      · rename_i k1 ks1 e1 e2
        cases e
        exact .cons (nested_of_rep I d v _ _ h1 r1 e1) (nesteds_of_reps I ds vr _ _ h2 r2 e2)
      · cases e
end
theorem dict_raw {a : Addr} {xs : List (D × V × V)} (I : Inv X pins σ H s) (h : DicAt (bx X κ) H a xs) : (a == sysModules) = false ∧ xs.length ≤ sizeLine ∧ ∃ es ep, s.heap.DictRaw a es ep ∧ Paired (DEnt X.w) xs es.toList := by
  rcases h with ⟨ep, h⟩ | ⟨o, es, ep, h1, h2, h3, h4, h5, h6⟩
  · obtain ⟨⟨h1, h2, es, h3, h4⟩, _⟩ := I.hok a _ h
    exact ⟨h1, h2, es, ep, h3, h4⟩
  · exact ⟨h5, h6, es, ep, ⟨o, I.kIn a o h1, h2, h3⟩, h4⟩
theorem DicP.obj {w : World} {P : Program} {H : Hp} {h : Heap} {a : Addr} {xs : List (D × V × V)} {ep : Nat} (x : DicP w a xs ep h) : ObjOk P w H h a (dO w a xs ep) := by
  refine ⟨x, ?_, fun h1 h2 x1 k => ?_⟩
  · obtain ⟨es, ⟨o, ho, _⟩, _⟩ := x.raw
    exact ⟨o, ho⟩
  · obtain ⟨es, r, p⟩ := x1.raw
    exact ⟨x1.sys, x1.len, es, r.at k, p⟩
end

/-! ### keys that are ints and texts -/
structure SRelK (x : D × V × V) (p : Key × Value) : Prop where
  d : x.1 = kD p.1
  v : x.2.1 = kV p.1
  r : RelV x.2.2 p.2
section
variable {P : Program} {w : World}
theorem build_scal : ∀ {xs : List (D × V × V)} {es : List DictEntry}, Paired (DEnt w) xs es → (∀ x ∈ xs, ∃ k, x.1 = kD k ∧ x.2.1 = kV k) →
    ∃ vs : List (Key × Value), Paired SRelK xs vs ∧ Pairs (mixKind P w) es vs ∧ ∀ e ∈ es, ∃ k, (mixKind P w).is k e.key = true ∧ e.hash = (mixKind P w).hash k
  | _, _, .nil, _ => ⟨[], .nil, .nil, fun _ h => by cases h⟩
  | _, _, .cons (a := x) (b := e) h t, hk => by
    obtain ⟨k, e1, e2⟩ := hk x List.mem_cons_self
    obtain ⟨vs, h1, h2, h3⟩ := build_scal t fun y hy => hk y (List.mem_cons_of_mem _ hy)
    have hkey : (mixKind P w).is k e.key = true := kV_is (by rw [← e2]; exact h.k)
    refine ⟨(k, e.val) :: vs, .cons ⟨e1, e2, h.v⟩ h1, .cons hkey rfl h2, fun e' he => ?_⟩
    rcases List.mem_cons.mp he with rfl | he
    · exact ⟨k, hkey, by rw [h.h, e1, hash_kD]; rfl⟩
    · exact h3 e' he
theorem unbuild_scal : ∀ {es : List DictEntry} {xs : List (D × V × V)} {vs : List (Key × Value)}, Pairs (mixKind P w) es vs → Paired SRelK xs vs → (∀ e ∈ es, ∃ k, (mixKind P w).is k e.key = true ∧ e.hash = (mixKind P w).hash k) → Paired (DEnt w) xs es
  | _, _, _, .nil, .nil, _ => .nil
  | _, _, _, .cons (e := e) h1 h2 t, .cons (a := x) q t', hk => by
    refine .cons ?_ (unbuild_scal t t' fun e' he => hk e' (List.mem_cons_of_mem _ he))
    obtain ⟨k, h3, h4⟩ := hk e List.mem_cons_self
    have ek := (mixKind P w).inj _ _ _ h1 h3
    subst ek
    refine ⟨by rw [h4, q.d, hash_kD]; rfl, ?_, by rw [h2]; exact q.r⟩
    rw [q.v]
    rcases keyIs_shape (show keyIs _ e.key = true from h1) with ⟨i, t, e1, e2⟩ | ⟨y, t, e1, e2⟩
    · rw [e1, e2]; exact ⟨t, rfl⟩
    · rw [e1, e2]; exact ⟨t, rfl⟩
end

/-! ### keys that are tuples -/
structure TRelK (x : D × V × V) (p : NestedKey × Addr × Value) : Prop where
  d : x.1.key = some p.1
  v : x.2.1 = .ref p.2.1
  r : RelV x.2.2 p.2.2
section
variable {P : Program} {w : World}
theorem build_tup : ∀ {xs : List (D × V × V)} {es : List DictEntry}, Paired (DEnt w) xs es → (∀ x ∈ xs, ∃ k b, x.1.key = some k ∧ x.2.1 = V.ref b) →
    ∃ ys : List (NestedKey × Addr × Value), Paired TRelK xs ys ∧ es = ys.map (entryOfKey (nestedKind P w))
  | _, _, .nil, _ => ⟨[], .nil, rfl⟩
  | _, _, .cons (a := x) (b := e) h t, hk => by
    obtain ⟨k, b, e1, e2⟩ := hk x List.mem_cons_self
    obtain ⟨ys, h1, h2⟩ := build_tup t fun y hy => hk y (List.mem_cons_of_mem _ hy)
    refine ⟨(k, b, e.val) :: ys, .cons ⟨e1, e2, h.v⟩ h1, ?_⟩
    rw [List.map_cons, ← h2]
    have hk1 : e.key = Value.ref b := by
      have := h.k
      rw [e2] at this
      exact this
    have hh : e.hash = k.hash w := by
      rw [h.h]
      unfold hashD
      rw [e1]
    obtain ⟨eh, ek, ev⟩ := e
    simp only at hk1 hh
    subst hk1 hh
    rfl
theorem unbuild_tup : ∀ {xs : List (D × V × V)} {ys : List (NestedKey × Addr × Value)}, Paired TRelK xs ys → Paired (DEnt w) xs (ys.map (entryOfKey (nestedKind P w)))
  | _, _, .nil => .nil
  | _, _, .cons (a := x) (b := y) q t => by
    refine .cons ⟨?_, ?_, q.r⟩ (unbuild_tup t)
    · show y.1.hash w = _
      unfold hashD
      rw [q.d]
    · rw [q.v]; rfl
end

/-! ### looking, putting, dropping: plain -/
def kLook : List D → List D → D → Option D
  | k :: ks, v :: vs, d => if k.key = d.key then some v else kLook ks vs d
  | _, _, _ => none
def kHas (ks : List D) (d : D) : Bool := ks.any fun k => decide (k.key = d.key)
def kRepl : List D → List D → D → D → List D
  | k :: ks, v :: vs, d, e => (if k.key = d.key then e else v) :: kRepl ks vs d e
  | _, vs, _, _ => vs
def kDropV : List D → List D → D → List D
  | k :: ks, v :: vs, d => if k.key = d.key then kDropV ks vs d else v :: kDropV ks vs d
  | _, _, _ => []
def kDropK (ks : List D) (d : D) : List D := ks.filter fun k => decide (k.key ≠ d.key)
/-- a key that may stand among these -/
def keyFits (ks : List D) (d : D) : Bool := match d with
  | .int _ => ks.all fun k => (skey k).isSome
  | .str _ => ks.all fun k => (skey k).isSome
  | .tup ds => ks.all D.isTup && (match D.key (.tup ds) with | some k => decide (k.depth ≤ 8) | none => false)
  | _ => false
/-! by values -/
def vLook (xs : List (D × V × V)) (d : D) : Option V := (xs.find? fun x => decide (x.1.key = d.key)).map (·.2.2)
def vPut (xs : List (D × V × V)) (d : D) (y v : V) : List (D × V × V) := if xs.any (fun x => decide (x.1.key = d.key)) then xs.map (fun x => if x.1.key = d.key then (x.1, x.2.1, v) else x) else xs ++ [(d, y, v)]
def vDrop (xs : List (D × V × V)) (d : D) : List (D × V × V) := xs.filter fun x => decide (x.1.key ≠ d.key)
theorem vLook_nil (d : D) : vLook [] d = none := rfl
theorem vLook_cons (x : D × V × V) (xs : List (D × V × V)) (d : D) : vLook (x :: xs) d = if x.1.key = d.key then some x.2.2 else vLook xs d := by
  unfold vLook
  rw [List.find?_cons]
  by_cases h : x.1.key = d.key
  · rw [if_pos h, decide_eq_true h]; rfl
  · rw [if_neg h, decide_eq_false h]
section
variable {B : Bx} {G : Hp}
theorem look_rel : ∀ {xs : List (D × V × V)} {ds : List D} (d : D), Reps B G ds (xs.map (·.2.2)) → (∀ e, kLook (xs.map (·.1)) ds d = some e → ∃ v, vLook xs d = some v ∧ Rep B G e v) ∧ (kLook (xs.map (·.1)) ds d = none → vLook xs d = none)
  | [], ds, d, h => by
    have e : ds = [] := List.eq_nil_of_length_eq_zero (by rw [h.length]; rfl)
    subst e
    exact ⟨fun e h => by simp [kLook] at h, fun _ => rfl⟩
  | x :: xs, ds, d, h => by
    cases ds with
    | nil => exact absurd h.length (by simp)
    | cons e0 ds =>
      obtain ⟨v, r, e1, h1, h2⟩ := h.cons_inv
      have e1 : x.2.2 :: xs.map (·.2.2) = v :: r := e1
      injection e1 with ea eb
      subst ea eb
      obtain ⟨i1, i2⟩ := look_rel d h2
      rw [List.map_cons, vLook_cons]
      simp only [kLook]
      by_cases hk : x.1.key = d.key
      · rw [if_pos hk, if_pos hk]
        exact ⟨fun e he => by cases he; exact ⟨_, rfl, h1⟩, fun he => by cases he⟩
      · rw [if_neg hk, if_neg hk]
        exact ⟨i1, i2⟩
theorem kHas_iff (ks : List D) (d : D) : kHas ks d = true ↔ d.key ∈ ks.map D.key := by
  unfold kHas
  rw [List.any_eq_true, List.mem_map]
  constructor
  · rintro ⟨k, h1, h2⟩; exact ⟨k, h1, of_decide_eq_true h2⟩
  · rintro ⟨k, h1, h2⟩; exact ⟨k, h1, decide_eq_true h2⟩
theorem any_has (xs : List (D × V × V)) (d : D) : (xs.any fun x => decide (x.1.key = d.key)) = kHas (xs.map (·.1)) d := by
  unfold kHas
  rw [List.any_map]; rfl
theorem vPut_keys (xs : List (D × V × V)) (d : D) (y v : V) : (vPut xs d y v).map (·.1) = if kHas (xs.map (·.1)) d then xs.map (·.1) else xs.map (·.1) ++ [d] := by
  unfold vPut
  rw [any_has]
  split
  · rw [List.map_map]
    refine List.map_congr_left fun x _ => ?_
    show (if x.1.key = d.key then (x.1, x.2.1, v) else x).1 = x.1
    split <;> rfl
  · rw [List.map_append]; rfl
theorem vPut_kv (xs : List (D × V × V)) (d : D) (y v : V) : (vPut xs d y v).map (·.2.1) = if kHas (xs.map (·.1)) d then xs.map (·.2.1) else xs.map (·.2.1) ++ [y] := by
  unfold vPut
  rw [any_has]
  split
  · rw [List.map_map]
    refine List.map_congr_left fun x _ => ?_
    show (if x.1.key = d.key then (x.1, x.2.1, v) else x).2.1 = x.2.1
    split <;> rfl
  · rw [List.map_append]; rfl
theorem repl_rel {d e : D} {v : V} (r : Rep B G e v) : ∀ {xs : List (D × V × V)} {ds : List D}, Reps B G ds (xs.map (·.2.2)) →
    Reps B G (kRepl (xs.map (·.1)) ds d e) ((xs.map fun x => if x.1.key = d.key then (x.1, x.2.1, v) else x).map (·.2.2))
  | [], ds, h => by
    have e : ds = [] := List.eq_nil_of_length_eq_zero (by rw [h.length]; rfl)
    subst e
    exact .nil
  | x :: xs, ds, h => by
    cases ds with
    | nil => exact absurd h.length (by simp)
    | cons e0 ds =>
      obtain ⟨u, q, e1, h1, h2⟩ := h.cons_inv
      have e1 : x.2.2 :: xs.map (·.2.2) = u :: q := e1
      injection e1 with ea eb
      subst ea eb
      rw [List.map_cons, List.map_cons, List.map_cons]
      simp only [kRepl]
      refine .cons ?_ (repl_rel r h2)
      by_cases hk : x.1.key = d.key
      · rw [if_pos hk, if_pos hk]; exact r
      · rw [if_neg hk, if_neg hk]; exact h1
def kPutD (ks ds : List D) (d e : D) : D := if kHas ks d then .dic ks (kRepl ks ds d e) else .dic (ks ++ [d]) (ds ++ [e])
theorem kOk_put {ks : List D} {d : D} (h : KOk ks) (f : keyFits ks d = true) : KOk (if kHas ks d then ks else ks ++ [d]) := by
  split
  · exact h
  · rename_i hn
    have hn' : d.key ∉ ks.map D.key := fun q => hn ((kHas_iff ks d).mpr q)
    have hk : (∃ k, d.key = some k ∧ k.depth ≤ 8) ∧ (((∀ e ∈ ks, e.isTup = true) ∧ d.isTup = true) ∨ ((∀ e ∈ ks, (skey e).isSome = true) ∧ (skey d).isSome = true)) := by
      cases d with
      | int i => exact ⟨⟨.num i, rfl, Nat.zero_le _⟩, .inr ⟨by simpa [keyFits] using f, rfl⟩⟩
      | str i => exact ⟨⟨.text i, rfl, Nat.zero_le _⟩, .inr ⟨by simpa [keyFits] using f, rfl⟩⟩
      | tup ds =>
        simp only [keyFits, Bool.and_eq_true, List.all_eq_true] at f
        obtain ⟨f1, f2⟩ := f
        split at f2
        · rename_i k e
          exact ⟨⟨k, e, of_decide_eq_true f2⟩, .inl ⟨f1, rfl⟩⟩
        · cases f2
      | non => simp [keyFits] at f
      | bl _ => simp [keyFits] at f
      | lst _ => simp [keyFits] at f
      | dic _ _ => simp [keyFits] at f
      | cup => simp [keyFits] at f
    obtain ⟨k1, k2⟩ := hk
    refine ⟨fun e he => ?_, ?_, ?_⟩
    · rcases List.mem_append.mp he with he | he
      · exact h.keyed e he
      · have : e = d := by simpa using he
        subst this; exact k1
    · rw [List.map_append, List.nodup_append]
      refine ⟨h.nd, by simp, fun a ha b hb => ?_⟩
      have : b = d.key := by simpa using hb
      subst this
      intro q; subst q; exact hn' ha
    · rcases k2 with ⟨q1, q2⟩ | ⟨q1, q2⟩
      · refine .inl fun e he => ?_
        rcases List.mem_append.mp he with he | he
        · exact q1 e he
        · have : e = d := by simpa using he
          subst this; exact q2
      · refine .inr fun e he => ?_
        rcases List.mem_append.mp he with he | he
        · exact q1 e he
        · have : e = d := by simpa using he
          subst this; exact q2
theorem put_reps {xs : List (D × V × V)} {ks ds : List D} {d e : D} {y v : V} (ek : xs.map (·.1) = ks) (rk : Reps B G ks (xs.map (·.2.1))) (rd : Reps B G ds (xs.map (·.2.2))) (ry : Rep B G d y) (rv : Rep B G e v) :
    ∃ ks' ds', kPutD ks ds d e = .dic ks' ds' ∧ ks' = (if kHas ks d then ks else ks ++ [d]) ∧ (vPut xs d y v).map (·.1) = ks' ∧ Reps B G ks' ((vPut xs d y v).map (·.2.1)) ∧ Reps B G ds' ((vPut xs d y v).map (·.2.2)) := by
  subst ek
  rw [vPut_keys, vPut_kv]
  unfold kPutD
  by_cases h : kHas (xs.map (·.1)) d = true
  · simp only [h, if_true]
    refine ⟨_, _, rfl, rfl, rfl, rk, ?_⟩
    unfold vPut
    rw [any_has, if_pos h]
    exact repl_rel rv rd
  · rw [Bool.not_eq_true] at h
    simp only [h, Bool.false_eq_true, if_false]
    refine ⟨_, _, rfl, rfl, rfl, rk.append (.cons ry .nil), ?_⟩
    unfold vPut
    rw [any_has, h, if_neg Bool.false_ne_true, List.map_append]
    exact rd.append (.cons rv .nil)
end

/-! ### the operations -/
theorem Paired.mem_left {α β : Type} {F : α → β → Prop} : ∀ {xs : List α} {ys : List β}, Paired F xs ys → ∀ x ∈ xs, ∃ y ∈ ys, F x y
  | _, _, .nil, _, h => by cases h
  | _, _, .cons r t, x, h => by
    rcases List.mem_cons.mp h with rfl | h
    · exact ⟨_, List.mem_cons_self, r⟩
    · obtain ⟨y, h1, h2⟩ := Paired.mem_left t x h
      exact ⟨y, List.mem_cons_of_mem _ h1, h2⟩
theorem Paired.mem_right {α β : Type} {F : α → β → Prop} : ∀ {xs : List α} {ys : List β}, Paired F xs ys → ∀ y ∈ ys, ∃ x ∈ xs, F x y
  | _, _, .nil, _, h => by cases h
  | _, _, .cons r t, x, h => by
    rcases List.mem_cons.mp h with rfl | h
    · exact ⟨_, List.mem_cons_self, r⟩
    · obtain ⟨y, h1, h2⟩ := Paired.mem_right t x h
      exact ⟨y, List.mem_cons_of_mem _ h1, h2⟩
theorem reps_mem {B : Bx} {G : Hp} : ∀ {xs : List (D × V × V)}, Reps B G (xs.map (·.1)) (xs.map (·.2.1)) → ∀ x ∈ xs, Rep B G x.1 x.2.1
  | [], _, _, h => by cases h
  | x :: xs, r, y, h => by
    obtain ⟨v, q, e, h1, h2⟩ := r.cons_inv
    have e : x.2.1 :: xs.map (·.2.1) = v :: q := e
    injection e with ea eb
    subst ea eb
    rcases List.mem_cons.mp h with rfl | h
    · exact h1
    · exact reps_mem h2 y h
theorem rep_kD {B : Bx} {G : Hp} : ∀ {k : Key} {v : V}, Rep B G (kD k) v → v = kV k
  | .inl _, _, h => by simp only [kD, Rep] at h; subst h; rfl
  | .inr _, _, h => by simp only [kD, Rep] at h; subst h; rfl
theorem rep_isTup {B : Bx} {G : Hp} {d : D} {v : V} (h : d.isTup = true) (r : Rep B G d v) : ∃ b, v = .ref b := by
  cases d <;> simp only [D.isTup] at h <;> try cases h
  simp only [Rep] at r
  obtain ⟨a, _, e, _⟩ := r
  exact ⟨a, e⟩
theorem scal_keys : ∀ {xs : List (D × V × V)} {vs : List (Key × Value)}, Paired SRelK xs vs → (xs.map (·.1)).map D.key = vs.map fun p => (kD p.1).key
  | _, _, .nil => rfl
  | _, _, .cons r t => by simp only [List.map_cons, scal_keys t, r.d]
theorem tup_keys : ∀ {xs : List (D × V × V)} {ys : List (NestedKey × Addr × Value)}, Paired TRelK xs ys → (xs.map (·.1)).map D.key = (ys.map (·.1)).map some
  | _, _, .nil => rfl
  | _, _, .cons r t => by simp only [List.map_cons, tup_keys t, r.d]
/-- what a dict is, for an operation by the key d -/
inductive DicCase (X : Cx) (h : Heap) (a : Addr) (xs : List (D × V × V)) (d : D) (y : V) : Prop
  | scal (k : Key) (vs : List (Key × Value)) (e : d = kD k) (ey : y = kV k) (p : Paired SRelK xs vs) (m : h.DictOf (mixKind X.prog X.w) a vs)
  | tup (k : NestedKey) (b : Addr) (ys : List (NestedKey × Addr × Value)) (e : d.key = some k) (ey : y = .ref b) (hk : (nestedKind X.prog X.w).is h k b) (p : Paired TRelK xs ys) (m : h.DictOfH (nestedKind X.prog X.w) a ys)
section
variable {X : Cx} {pins : List (Addr × Obj)} {σ : L2.St} {H : Hp} {s : Shared} {κ : Addr} {a : Addr} {xs : List (D × V × V)} {ks : List D}
theorem scal_dictOf (I : Inv X pins σ H s) (h : DicAt (bx X κ) H a xs) (nd : (ks.map D.key).Nodup) (ek : xs.map (·.1) = ks) (rk : Reps (bx X κ) H ks (xs.map (·.2.1))) (hs : ∀ d ∈ ks, (skey d).isSome = true) :
    ∃ vs : List (Key × Value), Paired SRelK xs vs ∧ s.heap.DictOf (mixKind X.prog X.w) a vs := by
  obtain ⟨_, _, es, ep, ⟨o, ho, hc, hd⟩, p⟩ := dict_raw I h
  subst ek
  obtain ⟨vs, h1, h2, h3⟩ := build_scal (P := X.prog) p fun x hx => by
    obtain ⟨k, hk⟩ := Option.isSome_iff_exists.mp (hs x.1 (List.mem_map_of_mem hx))
    have r := reps_mem rk x hx
    rw [kD_of hk] at r
    exact ⟨k, kD_of hk, rep_kD r⟩
  refine ⟨vs, h1, o, es, ep, ho, hc, hd, fun e he => h3 e (by simpa using he), h2, ?_⟩
  rw [scal_keys h1] at nd
  have e2 : (vs.map fun p : Key × Value => (kD p.1).key) = (vs.map (·.1)).map fun k => (kD k).key := by rw [List.map_map]; rfl
  rw [e2] at nd
  exact List.Pairwise.of_map (fun k => (kD k).key) (fun a b hne e => hne (by rw [e])) nd
theorem tup_dictOf (I : Inv X pins σ H s) (h : DicAt (bx X κ) H a xs) (kok : KOk ks) (ek : xs.map (·.1) = ks) (rk : Reps (bx X κ) H ks (xs.map (·.2.1))) (hs : ∀ d ∈ ks, d.isTup = true) :
    ∃ ys : List (NestedKey × Addr × Value), Paired TRelK xs ys ∧ s.heap.DictOfH (nestedKind X.prog X.w) a ys := by
  obtain ⟨_, _, es, ep, ⟨o, ho, hc, hd⟩, p⟩ := dict_raw I h
  subst ek
  obtain ⟨ys, h1, h2⟩ := build_tup (P := X.prog) p fun x hx => by
    have hm : x.1 ∈ xs.map (·.1) := List.mem_map_of_mem hx
    obtain ⟨k, hk, _⟩ := kok.keyed x.1 hm
    obtain ⟨b, hb⟩ := rep_isTup (hs x.1 hm) (reps_mem rk x hx)
    exact ⟨k, b, hk, hb⟩
  refine ⟨ys, h1, o, es, ep, ho, hc, hd, h2, fun y hy => ?_, ?_⟩
  · obtain ⟨x, hx, r⟩ := Paired.mem_right h1 y hy
    obtain ⟨k, hk, hdep⟩ := kok.keyed x.1 (List.mem_map_of_mem hx)
    have e1 : k = y.1 := Option.some.inj (hk.symm.trans r.d)
    subst e1
    refine ⟨nested_of_rep I x.1 x.2.1 (.ref y.2.1) _ (reps_mem rk x hx) (by rw [r.v]; rfl) hk, hdep⟩
  · have nd := kok.nd
    rw [tup_keys h1] at nd
    exact List.Pairwise.of_map some (fun a b hne e => hne (by rw [e])) nd
theorem dic_case (I : Inv X pins σ H s) (h : DicAt (bx X κ) H a xs) (kok : KOk ks) (ek : xs.map (·.1) = ks) (rk : Reps (bx X κ) H ks (xs.map (·.2.1))) {d : D} {y : V} (ry : Rep (bx X κ) H d y) (f : keyFits ks d = true) : DicCase X s.heap a xs d y := by
  have sc : ∀ k : Key, d = kD k → ks.all (fun k => (skey k).isSome) = true → DicCase X s.heap a xs d y := fun k e q => by
    obtain ⟨vs, h1, h2⟩ := scal_dictOf I h kok.nd ek rk (fun d hd => (List.all_eq_true.mp q) d hd)
    rw [e] at ry
    exact .scal k vs e (rep_kD ry) h1 h2
  cases d with
  | int i => exact sc (.inl i) rfl f
  | str i => exact sc (.inr i) rfl f
  | tup ds =>
    simp only [keyFits, Bool.and_eq_true] at f
    obtain ⟨f1, f2⟩ := f
    obtain ⟨ys, h1, h2⟩ := tup_dictOf I h kok ek rk (fun d hd => (List.all_eq_true.mp f1) d hd)
    split at f2
    · rename_i k e
      obtain ⟨b, hb⟩ := rep_isTup rfl ry
      subst hb
      exact .tup k b ys e rfl ⟨nested_of_rep I _ _ _ _ ry rfl e, of_decide_eq_true f2⟩ h1 h2
    · cases f2
  | non => simp [keyFits] at f
  | bl _ => simp [keyFits] at f
  | lst _ => simp [keyFits] at f
  | dic _ _ => simp [keyFits] at f
  | cup => simp [keyFits] at f
theorem scal_look (k : Key) : ∀ {xs : List (D × V × V)} {vs : List (Key × Value)}, Paired SRelK xs vs → RelO (vLook xs (kD k)) (valueAt vs k)
  | _, _, .nil => trivial
  | _, _, .cons (a := x) (b := p) r t => by
    rw [vLook_cons]
    have ih := scal_look k t
    unfold valueAt at ih ⊢
    rw [List.find?_cons]
    by_cases h : p.1 = k
    · rw [if_pos (by rw [r.d, h]), decide_eq_true h]; exact r.r
    · rw [if_neg (fun e => h (key_kD_inj (by rw [← r.d]; exact e))), decide_eq_false h]; exact ih
theorem tup_look {d : D} {k : NestedKey} (e : d.key = some k) : ∀ {xs : List (D × V × V)} {ys : List (NestedKey × Addr × Value)}, Paired TRelK xs ys → RelO (vLook xs d) ((atKey ys k).map (·.2))
  | _, _, .nil => trivial
  | _, _, .cons (a := x) (b := p) r t => by
    rw [vLook_cons]
    have ih := tup_look e t
    unfold atKey at ih ⊢
    rw [List.find?_cons]
    by_cases h : p.1 = k
    · rw [if_pos (by rw [r.d, e, h]), decide_eq_true h]; exact r.r
    · rw [if_neg (fun q => h (Option.some.inj (by rw [← r.d, ← e]; exact q))), decide_eq_false h]; exact ih
variable {A : Around} {E : Value → Shared → Prop} {d : D} {y v : V} {u : Value}
theorem room8 {A : Around} (hu : A.units + 9 < cLine) : (nestedKind X.prog X.w).room A.in1 := by
  show A.units + 1 + 8 < cLine
  omega
theorem dic_getItem {Q : Value → Shared → Prop} (hu : A.units + 9 < cLine) (I : Inv X pins σ H s) (c : DicCase X s.heap a xs d y) (ru : RelV y u) (l : vLook xs d = some v) (h : ∀ w' s', Inv X pins σ H s' → RelV v w' → Q w' s') :
    wpAny (model X.prog X.w) A (getItem (.ref a) u) Q E s := by
  cases c with
  | scal k vs e ey p m =>
    subst e ey
    have q := scal_look k p
    rw [l] at q
    obtain ⟨w', hw, rw'⟩ := RelO.some_of q
    exact wpAny_getItem_of (kV_is ru) m.mapOf hw (h w' _ (I.tok _) rw')
  | tup k b ys e ey hk p m =>
    subst ey
    cases (show u = Value.ref b from ru)
    have q := tup_look e p
    rw [l] at q
    obtain ⟨w', hw, rw'⟩ := RelO.some_of q
    obtain ⟨z, hz, hz2⟩ := Option.map_eq_some_iff.mp hw
    refine wpAny_getItem_heap (room8 hu) hk m hz ?_
    rw [hz2]
    exact h w' _ (I.tok _) rw'
theorem dic_in {Q : Value → Shared → Prop} (hu : A.units + 9 < cLine) (I : Inv X pins σ H s) (hd : (a == sysModules) = false) (c : DicCase X s.heap a xs d y) (ru : RelV y u) (h : ∀ s', Inv X pins σ H s' → Q (.bool (vLook xs d).isSome) s') :
    wpAny (model X.prog X.w) A (compareOp .In u (.ref a)) Q E s := by
  cases c with
  | scal k vs e ey p m =>
    subst e ey
    refine wpAny_in_of (kV_is ru) hd m.mapOf ?_
    rw [← (scal_look k p).isSome_eq]
    exact h _ (I.tok _)
  | tup k b ys e ey hk p m =>
    subst ey
    cases (show u = Value.ref b from ru)
    refine wpAny_in_heap (room8 hu) hk hd m ?_
    have q := (tup_look e p).isSome_eq
    rw [Option.isSome_map] at q
    rw [← q]
    exact h _ (I.tok _)
theorem dic_notIn {Q : Value → Shared → Prop} (hu : A.units + 9 < cLine) (I : Inv X pins σ H s) (hd : (a == sysModules) = false) (c : DicCase X s.heap a xs d y) (ru : RelV y u) (h : ∀ s', Inv X pins σ H s' → Q (.bool (!(vLook xs d).isSome)) s') :
    wpAny (model X.prog X.w) A (compareOp .NotIn u (.ref a)) Q E s := by
  cases c with
  | scal k vs e ey p m =>
    subst e ey
    refine wpAny_notIn_of (kV_is ru) hd m.mapOf ?_
    rw [← (scal_look k p).isSome_eq]
    exact h _ (I.tok _)
  | tup k b ys e ey hk p m =>
    subst ey
    cases (show u = Value.ref b from ru)
    refine wpAny_notIn_heap (room8 hu) hk hd m ?_
    have q := (tup_look e p).isSome_eq
    rw [Option.isSome_map] at q
    rw [← q]
    exact h _ (I.tok _)
theorem dic_get1 {Q : Value → Shared → Prop} (hu : A.units + 9 < cLine) (I : Inv X pins σ H s) (hd : (a == sysModules) = false) (c : DicCase X s.heap a xs d y) (ru : RelV y u) (h : ∀ w' s', Inv X pins σ H s' → RelV ((vLook xs d).getD .non) w' → Q w' s') :
    wpAny (model X.prog X.w) A (call (.builtin "dict.get") [.ref a, u]) Q E s := by
  cases c with
  | scal k vs e ey p m =>
    subst e ey
    exact call_meetsIn PySem.F.slot_dict_get m.typeIs PySem.F.entry_dict_get (PySem.F.args_dict_get_2 _ _) (meets_dict_get (mixKind X.prog X.w) a (kV_is ru) hd) ⟨_, m.mapOf, h _ _ (I.tok _) ((scal_look k p).getD rfl)⟩
  | tup k b ys e ey hk p m =>
    subst ey
    cases (show u = Value.ref b from ru)
    exact call_meetsIn PySem.F.slot_dict_get m.typeIs PySem.F.entry_dict_get (PySem.F.args_dict_get_2 _ _) (meetsH_dict_get (nestedKind X.prog X.w) a b hd) ⟨room8 hu, k, ys, hk, m, h _ _ (I.tok _) ((tup_look e p).getD rfl)⟩
theorem dic_get2 {Q : Value → Shared → Prop} {z : V} {r : Value} (hu : A.units + 9 < cLine) (I : Inv X pins σ H s) (hd : (a == sysModules) = false) (c : DicCase X s.heap a xs d y) (ru : RelV y u) (rz : RelV z r)
    (h : ∀ w' s', Inv X pins σ H s' → RelV ((vLook xs d).getD z) w' → Q w' s') : wpAny (model X.prog X.w) A (call (.builtin "dict.get") [.ref a, u, r]) Q E s := by
  cases c with
  | scal k vs e ey p m =>
    subst e ey
    exact call_meetsIn PySem.F.slot_dict_get m.typeIs PySem.F.entry_dict_get (PySem.F.args_dict_get_3 _ _ _) (meets_dict_get_default (mixKind X.prog X.w) a (kV_is ru) hd r) ⟨_, m.mapOf, h _ _ (I.tok _) ((scal_look k p).getD rz)⟩
  | tup k b ys e ey hk p m =>
    subst ey
    cases (show u = Value.ref b from ru)
    exact call_meetsIn PySem.F.slot_dict_get m.typeIs PySem.F.entry_dict_get (PySem.F.args_dict_get_3 _ _ _) (meetsH_dict_get_default (nestedKind X.prog X.w) a b hd r) ⟨room8 hu, k, ys, hk, m, h _ _ (I.tok _) ((tup_look e p).getD rz)⟩

/-! a dict is changed -/
theorem scal_put (k : Key) {v : V} {r : Value} (rv : RelV v r) {xs : List (D × V × V)} {vs : List (Key × Value)} (p : Paired SRelK xs vs) : Paired SRelK (vPut xs (kD k) (kV k) v) (stored vs k r) := by
  have ha : (xs.any fun x => decide (x.1.key = (kD k).key)) = vs.any fun kv => decide (kv.1 = k) := by
    induction p with
    | nil => rfl
    | @cons x q _ _ h t ih =>
      rw [List.any_cons, List.any_cons, ih]
      congr 1
      by_cases e : q.1 = k
      · rw [decide_eq_true e, decide_eq_true (by rw [h.d, e])]
      · rw [decide_eq_false e, decide_eq_false fun z => e (key_kD_inj (by rw [← h.d]; exact z))]
  unfold vPut stored
  rw [ha]
  split
  · clear ha
    rename_i hh
    clear hh
    induction p with
    | nil => exact .nil
    | @cons x q _ _ h t ih =>
      rw [List.map_cons, List.map_cons]
      refine .cons ?_ ih
      by_cases e : q.1 = k
      · rw [if_pos e, if_pos (by rw [h.d, e])]; exact ⟨h.d, h.v, rv⟩
      · rw [if_neg e, if_neg fun z => e (key_kD_inj (by rw [← h.d]; exact z))]; exact h
  · exact Paired.snoc p ⟨rfl, rfl, rv⟩
theorem tup_put {d : D} {k : NestedKey} (e : d.key = some k) {b : Addr} {v : V} {r : Value} (rv : RelV v r) {xs : List (D × V × V)} {ys : List (NestedKey × Addr × Value)} (p : Paired TRelK xs ys) : Paired TRelK (vPut xs d (.ref b) v) (storedH ys k b r) := by
  have ha : (xs.any fun x => decide (x.1.key = d.key)) = (atKey ys k).isSome := by
    clear rv
    induction p with
    | nil => rfl
    | @cons x q _ _ h t ih =>
      rw [List.any_cons, ih]
      unfold atKey
      rw [List.find?_cons]
      by_cases z : q.1 = k
      · rw [decide_eq_true (by rw [h.d, e, z]), decide_eq_true z]; rfl
      · rw [decide_eq_false fun z' => z (Option.some.inj (by rw [← h.d, ← e]; exact z')), decide_eq_false z, Bool.false_or]
  unfold vPut storedH
  rw [ha]
  split
  · clear ha
    rename_i hh
    clear hh
    induction p with
    | nil => exact .nil
    | @cons x q _ _ h t ih =>
      rw [List.map_cons, List.map_cons]
      refine .cons ?_ ih
      unfold putAt
      by_cases z : q.1 = k
      · rw [if_pos z, if_pos (by rw [h.d, e, z])]; exact ⟨h.d, h.v, rv⟩
      · rw [if_neg z, if_neg fun z' => z (Option.some.inj (by rw [← h.d, ← e]; exact z'))]; exact h
  · exact Paired.snoc p ⟨e, rfl, rv⟩
theorem vPut_len (xs : List (D × V × V)) (d : D) (y v : V) : (vPut xs d y v).length ≤ xs.length + 1 := by
  unfold vPut
  split <;> simp
/-- the new object of a changed dict -/
theorem scal_new {h : Heap} {vs : List (Key × Value)} {P : Program} {w : World} (hd : (a == sysModules) = false) (hl : xs.length ≤ sizeLine) (p : Paired SRelK xs vs) (m : h.DictOf (mixKind P w) a vs) : ∃ ep, DicP w a xs ep h := by
  obtain ⟨o, es, ep, ho, hc, hdt, hk, hp, hn⟩ := m
  exact ⟨ep, hd, hl, es, ⟨o, ho, hc, hdt⟩, unbuild_scal hp p fun e he => hk e (by simpa using he)⟩
theorem tup_new {h : Heap} {ys : List (NestedKey × Addr × Value)} {P : Program} {w : World} (hd : (a == sysModules) = false) (hl : xs.length ≤ sizeLine) (p : Paired TRelK xs ys) (m : h.DictOfH (nestedKind P w) a ys) : ∃ ep, DicP w a xs ep h := by
  obtain ⟨o, es, ep, ho, hc, hdt, he, _, _⟩ := m
  exact ⟨ep, hd, hl, es, ⟨o, ho, hc, hdt⟩, by rw [he]; exact unbuild_tup p⟩
theorem dic_setItem {Q : Unit → Shared → Prop} {r : Value} {ep : Nat} (hu : A.units + 9 < cLine) (I : Inv X pins σ H s) (hH : H a = some (dO X.w a xs ep)) (c : DicCase X s.heap a xs d y) (ru : RelV y u) (rv : RelV v r) (hl : xs.length < sizeLine)
    (h : ∀ s' ep', Inv X pins σ (upd H a (dO X.w a (vPut xs d y v) ep')) s' → Q () s') : wpAny (model X.prog X.w) A (setItem (.ref a) u r) Q E s := by
  obtain ⟨x, _⟩ := I.hok a _ hH
  have hz := vPut_len xs d y v
  cases c with
  | scal k vs e ey p m =>
    subst e ey
    refine wpAny_setItem_pairs (hsz := by rw [← Paired.length p]; omega) (kV_is ru) m fun h' m' hs => ?_
    obtain ⟨ep', q⟩ := scal_new x.sys (by omega) (scal_put k rv p) m'
    exact h _ ep' (d_write I (by rw [hH]; exact True.intro) hs (let ⟨o, _, _, ho, _⟩ := m'; ⟨o, ho⟩) q.obj)
  | tup k b ys e ey hk p m =>
    subst ey
    cases (show u = Value.ref b from ru)
    refine wpAny_setItem_heap (hsz := by rw [← Paired.length p]; omega) (room8 hu) hk m fun h' m' hs => ?_
    obtain ⟨ep', q⟩ := tup_new x.sys (by omega) (tup_put e rv p) m'
    exact h _ ep' (d_write I (by rw [hH]; exact True.intro) hs (let ⟨o, _, _, ho, _⟩ := m'; ⟨o, ho⟩) q.obj)
theorem dic_dictSet {Q : Unit → Shared → Prop} {r : Value} {ep : Nat} (hu : A.units + 9 < cLine) (I : Inv X pins σ H s) (hH : H a = some (dO X.w a xs ep)) (c : DicCase X s.heap a xs d y) (ru : RelV y u) (rv : RelV v r) (hl : xs.length < sizeLine)
    (h : ∀ s' ep', Inv X pins σ (upd H a (dO X.w a (vPut xs d y v) ep')) s' → Q () s') : wpAny (model X.prog X.w) A (dictSet a u r) Q E s := by
  obtain ⟨x, _⟩ := I.hok a _ hH
  have hz := vPut_len xs d y v
  cases c with
  | scal k vs e ey p m =>
    subst e ey
    refine wpAny_dictSet_pairs (hsz := by rw [← Paired.length p]; omega) (kV_is ru) m fun h' m' hs => ?_
    obtain ⟨ep', q⟩ := scal_new x.sys (by omega) (scal_put k rv p) m'
    exact h _ ep' (d_write I (by rw [hH]; exact True.intro) hs (let ⟨o, _, _, ho, _⟩ := m'; ⟨o, ho⟩) q.obj)
  | tup k b ys e ey hk p m =>
    subst ey
    cases (show u = Value.ref b from ru)
    refine wpAny_dictSet_heap (hsz := by rw [← Paired.length p]; omega) (show A.units + 8 < cLine by omega) hk m fun h' m' hs => ?_
    obtain ⟨ep', q⟩ := tup_new x.sys (by omega) (tup_put e rv p) m'
    exact h _ ep' (d_write I (by rw [hH]; exact True.intro) hs (let ⟨o, _, _, ho, _⟩ := m'; ⟨o, ho⟩) q.obj)
theorem dicP_empty (w : World) (h : Heap) (hb : sysModules < h.objs.size) : DicP w h.objs.size [] 0 (h.push { cls := .type "dict", data := .dict #[] }) :=
  ⟨beq_eq_false_iff_ne.mpr (Ne.symm (Nat.ne_of_lt hb)), Nat.zero_le _, #[], ⟨_, Heap.get?_push_size _ rfl, ⟨rfl, rfl, rfl⟩, rfl⟩, .nil⟩
theorem kOk_nil : KOk [] := ⟨fun _ h => (by cases h), List.nodup_nil, .inl fun _ h => (by cases h)⟩
end
end DL
end
section
/-! DLe: in, subscripts, slices, built-in functions over plain values. -/
namespace DL
open PySem PySem.Spec PyProof.Rows L2

/-- an operator's reading by plain values -/
def rD (B : Bx) (g : D → D → Option D) : R2 := fun x y H Q => ∃ (A : Addr → Prop) (b1 b2 : Bool) (d1 d2 d : D), (∀ p, H p = none → ¬ A p) ∧ Slot B A H b1 d1 x ∧ Slot B A H b2 d2 y ∧ g d1 d2 = some d ∧
  ∀ v H', Same H H' → Rep B (cut H' A) d v → Q v H'
theorem ok_D {B : Bx} {g : D → D → Option D} : OpOk B (rD B g) g := fun A H b1 b2 d1 d2 d x y Q fr s1 s2 hg q => ⟨A, b1, b2, d1, d2, d, fr, s1, s2, hg, q⟩
theorem Slot.dic_full {B : Bx} {A : Addr → Prop} {H : Hp} {b : Bool} {v : V} {ks ds : List D} (h : Slot B A H b (.dic ks ds) v) :
    ∃ a xs, v = .ref a ∧ DicAt B H a xs ∧ KOk ks ∧ xs.map (·.1) = ks ∧ Reps B H ks (xs.map (·.2.1)) ∧ Reps B (cut H A) ds (xs.map (·.2.2)) := by
  obtain ⟨a, xs, e, q, k, ek, r1, r2⟩ := h.dic_inv
  exact ⟨a, xs, e, q, k, ek, Reps.mono cut_same _ _ r1, r2⟩

/-! ### in -/
def strIn (s t : Str) : Bool := !(Builtin.Str.occurrences t s 0 t.length 1).isEmpty
theorem strIn_one (c : Nat) (t : Str) : strIn ⟨#[c]⟩ t = decide (c ∈ t.cps.toList) := PySem.StrLaws.found_one t c
def inD : D → D → Option Bool
  | .str s, .str t => some (strIn s t)
  | x, .lst ds => if D.okEq 60 x && D.okEq 60 (.lst ds) then some (ds.any fun z => D.eqv z x) else none
  | x, .tup ds => if D.okEq 60 x && D.okEq 60 (.tup ds) then some (ds.any fun z => D.eqv z x) else none
  | x, .dic ks _ => if keyFits ks x then some (kHas ks x) else none
  | _, _ => none
def opIn (d e : D) : Option D := (inD d e).map .bl
def opNotIn (d e : D) : Option D := (inD d e).map fun b => .bl (!b)
mutual
theorem okm : ∀ (m n : Nat), m ≤ n → ∀ (d : D), D.okEq m d = true → D.okEq n d = true
  | _, n, _, .non, _ => by cases n <;> rfl
  | _, n, _, .bl _, _ => by cases n <;> rfl
  | _, n, _, .int _, _ => by cases n <;> rfl
  | m, n, _, .str s, q => by cases m <;> cases n <;> simpa only [D.okEq] using q
  | 0, _, _, .tup _, q => by simp [D.okEq] at q
  | m + 1, 0, h, .tup _, _ => absurd h (by omega)
  | m + 1, n + 1, h, .tup ds, q => by simp only [D.okEq] at q ⊢; exact okms m n (Nat.le_of_succ_le_succ h) ds q
  | 0, _, _, .lst _, q => by simp [D.okEq] at q
  | m + 1, 0, h, .lst _, _ => absurd h (by omega)
  | m + 1, n + 1, h, .lst ds, q => by simp only [D.okEq] at q ⊢; exact okms m n (Nat.le_of_succ_le_succ h) ds q
  | m, _, _, .dic _ _, q => by cases m <;> simp [D.okEq] at q
  | m, _, _, .cup, q => by cases m <;> simp [D.okEq] at q
theorem okms : ∀ (m n : Nat), m ≤ n → ∀ (ds : List D), D.okEqs m ds = true → D.okEqs n ds = true
  | _, _, _, [], _ => rfl
  | m, n, h, d :: ds, q => by
    simp only [D.okEqs, Bool.and_eq_true] at q ⊢
    exact ⟨okm m n h d q.1, okms m n h ds q.2⟩
end
theorem any_data : ∀ (n : Nat) (ds : List D) (d : D), D.okEqs n ds = true → D.okEq 60 d = true → n ≤ 60 → ((D.toDatas ds).any fun z => PyData.eqv z d.toData) = ds.any fun z => D.eqv z d
  | _, [], _, _, _, _ => rfl
  | n, z :: ds, d, h, k, hn => by
    simp only [D.okEqs, Bool.and_eq_true] at h
    simp only [D.toDatas, List.any_cons]
    rw [any_data n ds d h.2 k hn, eqv_data 60 z d (okm n 60 hn z h.1) k]
theorem has_look (xs : List (D × V × V)) (d : D) : (vLook xs d).isSome = kHas (xs.map (·.1)) d := by
  rw [← any_has]
  unfold vLook
  rw [Option.isSome_map]
  induction xs with
  | nil => rfl
  | cons x xs ih =>
    rw [List.find?_cons, List.any_cons]
    cases decide (x.1.key = d.key) with
    | true => rfl
    | false => rw [Bool.false_or]; exact ih
section
variable {X : Cx} {κ : Addr}
theorem op_inD' (hu : X.A.units + 65 < cLine) : OpR X (compareOp .In) (rD (bx X κ) opIn) := by
  rintro pins s σ H x y v u Q I rx ry ⟨A, b1, b2, d1, d2, d, fr, s1, s2, hg, q⟩
  obtain ⟨r, hr, rfl⟩ := Option.map_eq_some_iff.mp hg
  have fin : ∀ {s' : Shared}, Inv X pins σ H s' → EP X pins σ Q (.bool r) s' := fun I' => ⟨.bl r, H, I', rfl, q _ _ (Same.refl _) rep_bl⟩
  unfold inD at hr
  split at hr
  · cases hr
    rw [s1.str_inv] at rx
    rw [s2.str_inv] at ry
    obtain ⟨t, rfl⟩ := rx
    obtain ⟨t', rfl⟩ := ry
    exact PyProof.Rows.in_str (fin I)
  · split at hr
    · rename_i ds hk
      cases hr
      rw [Bool.and_eq_true] at hk
      have hk2 : D.okEqs 59 ds = true := by simpa only [D.okEq] using hk.2
      obtain ⟨as, r1⟩ := Dp.reads I _ _ _ (Rep.dp 60 _ _ hk.1 s1.rep) rx
      obtain ⟨bs, r2⟩ := Dp.reads I _ _ _ (Rep.dp 60 _ _ hk.2 s2.rep) ry
      refine SeqAt.in_list_reads r2 r1 (okEqs_canLay 59 ds hk2) (okEq_canLay 60 _ hk.1) (room_in_shaped (okEq_shaped hk.1) hu) ?_
      rw [any_data 59 ds d1 hk2 hk.1 (by decide)]
      exact fin I
    · cases hr
  · split at hr
    · rename_i ds hk
      cases hr
      rw [Bool.and_eq_true] at hk
      have hk2 : D.okEqs 59 ds = true := by simpa only [D.okEq] using hk.2
      obtain ⟨as, r1⟩ := Dp.reads I _ _ _ (Rep.dp 60 _ _ hk.1 s1.rep) rx
      obtain ⟨bs, r2⟩ := Dp.reads I _ _ _ (Rep.dp 60 _ _ hk.2 s2.rep) ry
      refine SeqAt.in_tuple_reads r2 r1 (okEqs_canLay 59 ds hk2) (okEq_canLay 60 _ hk.1) (room_in_shaped (okEq_shaped hk.1) hu) ?_
      rw [any_data 59 ds d1 hk2 hk.1 (by decide)]
      exact fin I
    · cases hr
  · split at hr
    · rename_i ks ds hk
      cases hr
      obtain ⟨a, xs, rfl, at', kok, ek, rk, _⟩ := s2.dic_full
      cases (show u = Value.ref a from ry)
      obtain ⟨hd, _⟩ := dict_raw I at'
      refine dic_in (by omega) I hd (dic_case I at' kok ek rk s1.rep hk) rx fun s' I' => ?_
      rw [has_look, ek]
      exact fin I'
    · cases hr
  · cases hr
theorem op_notInD' (hu : X.A.units + 65 < cLine) : OpR X (compareOp .NotIn) (rD (bx X κ) opNotIn) := by
  rintro pins s σ H x y v u Q I rx ry ⟨A, b1, b2, d1, d2, d, fr, s1, s2, hg, q⟩
  obtain ⟨r, hr, rfl⟩ := Option.map_eq_some_iff.mp hg
  have fin : ∀ {s' : Shared}, Inv X pins σ H s' → EP X pins σ Q (.bool (!r)) s' := fun I' => ⟨.bl (!r), H, I', rfl, q _ _ (Same.refl _) rep_bl⟩
  unfold inD at hr
  split at hr
  · cases hr
    rw [s1.str_inv] at rx
    rw [s2.str_inv] at ry
    obtain ⟨t, rfl⟩ := rx
    obtain ⟨t', rfl⟩ := ry
    exact PyProof.Rows.notIn_str (fin I)
  · split at hr
    · rename_i ds hk
      cases hr
      rw [Bool.and_eq_true] at hk
      have hk2 : D.okEqs 59 ds = true := by simpa only [D.okEq] using hk.2
      obtain ⟨as, r1⟩ := Dp.reads I _ _ _ (Rep.dp 60 _ _ hk.1 s1.rep) rx
      obtain ⟨bs, r2⟩ := Dp.reads I _ _ _ (Rep.dp 60 _ _ hk.2 s2.rep) ry
      refine SeqAt.notIn_list_reads r2 r1 (okEqs_canLay 59 ds hk2) (okEq_canLay 60 _ hk.1) (room_in_shaped (okEq_shaped hk.1) hu) ?_
      rw [any_data 59 ds d1 hk2 hk.1 (by decide)]
      exact fin I
    · cases hr
  · split at hr
    · rename_i ds hk
      cases hr
      rw [Bool.and_eq_true] at hk
      have hk2 : D.okEqs 59 ds = true := by simpa only [D.okEq] using hk.2
      obtain ⟨as, r1⟩ := Dp.reads I _ _ _ (Rep.dp 60 _ _ hk.1 s1.rep) rx
      obtain ⟨bs, r2⟩ := Dp.reads I _ _ _ (Rep.dp 60 _ _ hk.2 s2.rep) ry
      refine SeqAt.notIn_tuple_reads r2 r1 (okEqs_canLay 59 ds hk2) (okEq_canLay 60 _ hk.1) (room_in_shaped (okEq_shaped hk.1) hu) ?_
      rw [any_data 59 ds d1 hk2 hk.1 (by decide)]
      exact fin I
    · cases hr
  · split at hr
    · rename_i ks ds hk
      cases hr
      obtain ⟨a, xs, rfl, at', kok, ek, rk, _⟩ := s2.dic_full
      cases (show u = Value.ref a from ry)
      obtain ⟨hd, _⟩ := dict_raw I at'
      refine dic_notIn (by omega) I hd (dic_case I at' kok ek rk s1.rep hk) rx fun s' I' => ?_
      rw [has_look, ek]
      exact fin I'
    · cases hr
  · cases hr

/-! ### subscripts -/
theorem reps_atI {B : Bx} {G : Hp} {ds : List D} {vs : List V} {i : Int} {d : D} (r : Reps B G ds vs) (h : atI ds i = some d) : ∃ v, atI vs i = some v ∧ Rep B G d v := by
  unfold atI at h ⊢
  rw [← r.length]
  cases e : ixN ds.length i with
  | none => rw [e] at h; cases h
  | some j =>
    rw [e] at h
    exact r.get (i := j) h
def opIx : D → D → Option D
  | .lst ds, .int i => atI ds i
  | .tup ds, .int i => atI ds i
  | .str s, .int i => if s.length ≤ lim then (atI s.cps.toList i).map fun c => .str ⟨#[c]⟩ else none
  | .dic ks ds, d => if keyFits ks d then kLook ks ds d else none
  | _, _ => none
theorem ix_D (hu : X.A.units + 65 < cLine) : IxR X (rD (bx X κ) opIx) := by
  rintro value slice pins s σ H x y v u Q I rx ry ⟨A, b1, b2, d1, d2, d, fr, s1, s2, hg, q⟩ hs
  unfold opIx at hg
  split at hg
  · obtain ⟨a, vs, e1, h1, r1⟩ := s1.lst_inv
    obtain ⟨w', h2, r2⟩ := reps_atI r1 hg
    exact ix_list value slice pins s σ H x y v u Q I rx ry ⟨a, vs, _, w', e1, s2.int_inv, SqL.of h1, h2, q _ _ (Same.refl _) r2⟩ hs
  · obtain ⟨a, vs, e1, h1, r1⟩ := s1.tup_inv
    obtain ⟨w', h2, r2⟩ := reps_atI r1 hg
    exact ix_tup value slice pins s σ H x y v u Q I rx ry ⟨a, vs, _, w', e1, s2.int_inv, h1, h2, q _ _ (Same.refl _) r2⟩ hs
  · split at hg
    · rename_i hl
      obtain ⟨c, hc, rfl⟩ := Option.map_eq_some_iff.mp hg
      exact ix_str value slice pins s σ H x y v u Q I rx ry ⟨_, _, c, s1.str_inv, s2.int_inv, lim_line hl, hc, q _ _ (Same.refl _) rep_str⟩ hs
    · cases hg
  · split at hg
    · rename_i ks ds hk
      obtain ⟨a, xs, rfl, at', kok, ek, rk, rd⟩ := s1.dic_full
      cases (show v = Value.ref a from rx)
      obtain ⟨hd, _, es, ep, raw, _⟩ := dict_raw I at'
      subst ek
      obtain ⟨w', hw, rw'⟩ := (look_rel d2 rd).1 _ hg
      exact tail_any raw.typeIs PySem.F.slot_dict_getitem.lookup (dic_getItem (by omega) I (dic_case I at' kok rfl rk s2.rep hk) ry hw fun w2 s' I' r2 => ⟨w', H, I', r2, q _ _ (Same.refl _) rw'⟩) hs
    · cases hg
  · cases hg
theorem de_ix {a b : Expr} {f1 f2 : Ev} {pos : Pos} (hu : X.A.units + 65 < cLine) (ha : DP X κ a f1) (hb : DP X κ b f2) (hs : PlainIx b := by intro _ _; rfl) : DE X κ (.Subscript a b pos) (dBin opIx f1 f2) :=
  (pe_ix (ix_D hu) ha hb hs).imp fun σ H Q h => tOp_of ok_D σ H Q h

/-! ### slices -/
abbrev EvO := Rho → Cup → Option (Option Int × Cup)
def tDO (B : Bx) (f : EvO) : L2.TO := fun σ H Q => ∃ A ρ c o c', ERel B A σ H ρ c ∧ f ρ c = some (o, c') ∧ ∀ H', Ext B.κ H H' → H' B.κ = some (cupO c') → Q o H'
abbrev DO (X : Cx) (κ : Addr) (e : Option Expr) (f : EvO) : Prop := PO X e (tDO (bx X κ) f)
theorem _root_.L2.PO.imp {e : Option Expr} {t t' : L2.TO} (h : PO X e t) (i : ∀ σ H Q, t' σ H Q → t σ H Q) : PO X e t' := ⟨fun pins s σ H Q I q => h.run pins s σ H Q I (i σ H Q q)⟩
def dNoPart : EvO := fun _ c => some (none, c)
def dPart (f : Ev) : EvO := fun ρ c => match f ρ c with
  | some (.int i, c1) => some (some i, c1)
  | _ => none
theorem do_none : DO X κ none dNoPart := po_none.imp fun σ H Q ⟨A, ρ, c, o, c', E, hf, q⟩ => by
  cases hf
  exact q H .refl E.cup
theorem do_some {e : Expr} {f : Ev} (h : DP X κ e f) : DO X κ (some e) (dPart f) := (po_some h).imp fun σ H Q ⟨A, ρ, c, o, c', E, hf, q⟩ => by
  unfold dPart at hf
  split at hf
  · rename_i i c1 e1
    cases hf
    exact ⟨A, ρ, c, .int i, _, E, e1, fun b v H1 x hc sl => ⟨i, sl.int_inv, q H1 x hc⟩⟩
  · cases hf
def dCut (ds : List D) (lo hi : Option Int) : List D := (ds.drop (HT.sIx ds.length 0 lo)).take (HT.sIx ds.length ds.length hi - HT.sIx ds.length 0 lo)
theorem reps_cut {B : Bx} {G : Hp} {ds : List D} {vs : List V} (r : Reps B G ds vs) (lo hi : Option Int) : Reps B G (dCut ds lo hi) (cutV vs lo hi) := by
  unfold dCut cutV
  rw [← r.length]
  exact (r.drop _).take _
def slD (d : D) (lo hi : Option Int) : Option D := match d with
  | .lst ds => some (.lst (dCut ds lo hi))
  | .tup ds => some (.tup (dCut ds lo hi))
  | .str s => if s.length ≤ lim then some (.str (cutS s lo hi)) else none
  | _ => none
def rSlD (B : Bx) : V → Option Int → Option Int → Hp → VK → Prop := fun x lo hi H Q => ∃ (A : Addr → Prop) (b : Bool) (d d' : D), (∀ p, H p = none → ¬ A p) ∧ Slot B A H b d x ∧ slD d lo hi = some d' ∧
  ∀ v H', Same H H' → Rep B (cut H' A) d' v → Q v H'
theorem sl_D : SlR X (rSlD (bx X κ)) := by
  rintro pins s σ H x v vl vu lo hi sl Q I rx hs pl pu ⟨A, b, d, d', fr, s1, hg, q⟩
  unfold slD at hg
  split at hg
  · cases hg
    obtain ⟨a, vs, e1, h1, r1⟩ := s1.lst_inv
    exact sl_list pins s σ H x v vl vu lo hi sl Q I rx hs pl pu ⟨a, vs, e1, SqL.of h1, fun p hp => q _ _ (same_upd hp) (rep_new_lst hp (fr p hp) (reps_cut r1 lo hi))⟩
  · cases hg
    obtain ⟨a, vs, e1, h1, r1⟩ := s1.tup_inv
    refine sl_tupA pins s σ H x v vl vu lo hi sl Q I rx hs pl pu ⟨a, vs, e1, h1, fun z => ?_, fun z p hp => q _ _ (same_upd hp) (rep_new_tup hp (fr p hp) (reps_cut r1 lo hi))⟩
    have e2 := reps_cut r1 lo hi
    rename_i ds
    have e3 : dCut ds lo hi = ds := by
      unfold dCut
      rw [r1.length, z.1, z.2]
      rw [List.drop_zero, Nat.sub_zero, ← r1.length, List.take_length]
    rw [e3] at q
    exact q _ _ (Same.refl _) (e1 ▸ s1.tup_rep)
  · split at hg
    · rename_i hl
      cases hg
      exact sl_str pins s σ H x v vl vu lo hi sl Q I rx hs pl pu ⟨_, s1.str_inv, lim_line hl, q _ _ (Same.refl _) rep_str⟩
    · cases hg
  · cases hg
def dSl (f : Ev) (lo hi : EvO) : Ev := fun ρ c => match f ρ c with
  | some (d, c1) => match lo ρ c1 with
    | some (l, c2) => match hi ρ c2 with
      | some (h, c3) => match slD d l h with
        | some d' => some (d', c3)
        | none => none
      | none => none
    | none => none
  | none => none
theorem de_slice {e : Expr} {lo hi : Option Expr} {f : Ev} {fl fh : EvO} {pos p2 : Pos} (he : DP X κ e f) (hl : DO X κ lo fl) (hh : DO X κ hi fh) : DE X κ (.Subscript e (.Slice lo hi none p2) pos) (dSl f fl fh) :=
  (pe_slice (sl_D (κ := κ)) he hl hh).imp fun σ H Q ⟨A, ρ, c, d, c', E, hf, q⟩ => by
    unfold dSl at hf
    split at hf
    · rename_i d1 c1 e1
      split at hf
      · rename_i l c2 e2
        split at hf
        · rename_i h c3 e3
          split at hf
          · rename_i d2 e4
            cases hf
            refine ⟨A, ρ, c, d1, c1, E, e1, fun b v H1 x1 hc1 s1 => ⟨A, ρ, c1, l, c2, E.mono x1 hc1, e2, fun H2 x2 hc2 => ⟨A, ρ, c2, h, _, (E.mono x1 hc1).mono x2 hc2, e3, fun H3 x3 hc3 => ?_⟩⟩⟩
            have E3 := ((E.mono x1 hc1).mono x2 hc2).mono x3 hc3
            exact ⟨A, b, d1, _, fun p hp => E3.fresh hp, (s1.mono E.κA x2).mono E.κA x3, e4, fun w H4 sm rp => q w H4 (((x1.trans x2).trans x3).trans (Same.ext sm)) (sm _ _ hc3) rp⟩
          · cases hf
        · cases hf
      · cases hf
    · cases hf
end
end DL
end
section
/-! DLf: calls of defs, what is walked, comprehensions. -/
namespace DL
open PySem PySem.Spec PyProof.Rows L2

/-! ### data without containers stays what it is -/
section
variable {B : Bx} {G G' : Hp}
/-- the tuples of G stand in G' -/
def Tups (G G' : Hp) : Prop := ∀ a xs, Rd G a (.tup xs) → Rd G' a (.tup xs)
mutual
theorem Rep.tups (t : Tups G G') : ∀ (d : D) (v : V), d.imm = true → Rep B G d v → Rep B G' d v
  | .non, _, _, h => by simpa only [Rep] using h
  | .bl _, _, _, h => by simpa only [Rep] using h
  | .int _, _, _, h => by simpa only [Rep] using h
  | .str _, _, _, h => by simpa only [Rep] using h
  | .cup, _, i, _ => by simp [D.imm] at i
  | .lst _, _, i, _ => by simp [D.imm] at i
  | .dic _ _, _, i, _ => by simp [D.imm] at i
  | .tup ds, v, i, h => by
    simp only [Rep] at h ⊢
    simp only [D.imm] at i
    obtain ⟨a, vs, e, q, r⟩ := h
    exact ⟨a, vs, e, q.elim (fun q => .inl (t _ _ q)) .inr, Reps.tups t ds vs i r⟩
theorem Reps.tups (t : Tups G G') : ∀ (ds : List D) (vs : List V), D.imms ds = true → Reps B G ds vs → Reps B G' ds vs
  | [], _, _, h => by simpa only [Reps] using h
  | d :: ds, vs, i, h => by
    simp only [Reps] at h ⊢
    simp only [D.imms, Bool.and_eq_true] at i
    obtain ⟨v, r, e, h1, h2⟩ := h
    exact ⟨v, r, e, Rep.tups t d v i.1 h1, Reps.tups t ds r i.2 h2⟩
end
theorem tups_cut {H : Hp} {A A' : Addr → Prop} (h : ∀ a, A a → ∃ o, H a = some o ∧ Mut (some o)) : Tups (cut H A') (cut H A) := fun a xs r => by
  have key : ∀ o, cut H A' a = some o → ¬ Mut (some o) → cut H A a = some o := fun o e m => by
    obtain ⟨_, e⟩ := of_cut e
    refine cut_of (fun q => ?_) e
    obtain ⟨o', e', m'⟩ := h a q
    rw [e] at e'; cases e'
    exact m m'
  rcases r with r | ⟨o, r⟩
  · exact .inl (key _ r fun z => z)
  · exact .inr ⟨o, key _ r fun z => z⟩
end

/-! ### defs -/
/-- a def's promise: called with plain arguments and the cup c it hands back g's value, the cup is g's; all else is kept -/
def spD (P : Program) (w : World) (K : PySem.W.Frag) (g : List D → Cup → Option (D × Cup)) : Sp := fun vs H Q _ => ∃ (κ : Addr) (A : Addr → Prop) (ds : List D) (c : Cup) (d : D) (c' : Cup), A κ ∧ H κ = some (cupO c) ∧
  (∀ a, A a → ∃ o, H a = some o ∧ Mut (some o)) ∧ Reps ⟨P, w, K, κ⟩ (cut H A) ds vs ∧ g ds c = some (d, c') ∧
  ∀ v H', Ext κ H H' → H' κ = some (cupO c') → Rep ⟨P, w, K, κ⟩ (cut H' A) d v → Q v H'
def dCall (g : List D → Cup → Option (D × Cup)) (fs : EvL) : Ev := fun ρ c => match fs ρ c with
  | some (ds, c1) => g ds c1
  | none => none
/-- .. with containers of one's own handed out for the time of the call -/
def dCallB (g : List D → Cup → Option (D × Cup)) (fs : EvL) : Ev := fun ρ c => match fs ρ c with
  | some (ds, c1) => match g ds c1 with
    | some (d, c2) => if d.imm then some (d, c2) else none
    | none => none
  | none => none
section
variable {X : Cx} {κ : Addr} {e : Expr} {es : List Expr} {fs : EvL} {g : List D → Cup → Option (D × Cup)} {k : Nat} {f : Addr} {fd : FuncData} {ps : List Str} {x : Str} {p pos : Pos}
theorem de_call (F : FnOk X.prog X.w X.K X.mg X.base CX0 k f fd ps (spD X.prog X.w X.K g)) (hr : Room k X.A) (hg : Gl X x) (hm : X.mg x = some (.ref f)) (hk : PySem.W.keepIn X.K (.ref f) = true) (hb : Binds X.K fd ps [])
    (ha : DA X κ (e :: es) fs) (hdb : (x == ("__debug__" : Str)) = false := by decide) (he : starEach (e :: es) X.env = (false, eval e X.env) :: starEach es X.env := by rfl) (hpl : (backTo pos (starEach es X.env)).any (·.1) = false := by rfl) :
    DE X κ (.Call (.Name x p) (e :: es) [] pos) (dCall g fs) := (pe_call F hr hg hm hk hb .nil pass0 ha hdb he hpl).imp fun σ H Q ⟨A, ρ, c, d, c', E, hf, q⟩ => by
  unfold dCall at hf
  split at hf
  · rename_i ds c1 e1
    refine ⟨A, ρ, c, ds, c1, E, e1, fun vs H1 x1 hc1 r1 => ?_⟩
    have E1 := E.mono x1 hc1
    show spD X.prog X.w X.K g (vs ++ []) H1 Q E0
    rw [List.append_nil]
    exact ⟨κ, A, ds, c1, d, c', E1.κA, E1.cup, E1.trk, r1, hf, fun v H2 x2 hc2 r2 => q v H2 (x1.trans x2) hc2 r2⟩
  · cases hf
theorem de_call0 (F : FnOk X.prog X.w X.K X.mg X.base CX0 k f fd ps (spD X.prog X.w X.K g)) (hr : Room k X.A) (hg : Gl X x) (hm : X.mg x = some (.ref f)) (hk : PySem.W.keepIn X.K (.ref f) = true) (hb : Binds X.K fd ps [])
    (hdb : (x == ("__debug__" : Str)) = false := by decide) :
    DE X κ (.Call (.Name x p) [] [] pos) (dCall g dNil) := (pe_call0 F hr hg hm hk hb .nil pass0 hdb).imp fun σ H Q ⟨A, ρ, c, d, c', E, hf, q⟩ => by
  refine ⟨κ, A, [], c, d, c', E.κA, E.cup, E.trk, .nil, hf, fun v H2 x2 hc2 r2 => q v H2 x2 hc2 r2⟩
theorem slots_reps {B : Bx} {A : Addr → Prop} {H : Hp} (S : Addr → Prop) : ∀ {ds : List D} {vs : List V}, Paired (fun d v => ∃ b, Slot B A H b d v) ds vs → (∀ a, S a → A a) → (∀ v ∈ vs, ∀ a, v = V.ref a → a ≠ B.κ → ¬ S a) → Reps B (cut H S) ds vs
  | _, _, .nil, _, _ => .nil
  | _, _, .cons (a := d) (b := v) ⟨b, s⟩ t, hs, hv => by
    refine .cons ?_ (slots_reps S t hs fun u hu => hv u (List.mem_cons_of_mem _ hu))
    cases b with
    | false => exact Rep.mono (cut_sub hs) d v s
    | true =>
      obtain ⟨a, rfl, hA, hn, o⟩ := s
      have nS : ¬ S a := hv _ List.mem_cons_self a rfl hn
      exact (o.mono (fun _ q => q) (cut_sub hs)).rep (cut_at nS)
theorem de_callB (F : FnOk X.prog X.w X.K X.mg X.base CX0 k f fd ps (spD X.prog X.w X.K g)) (hr : Room k X.A) (hg : Gl X x) (hm : X.mg x = some (.ref f)) (hk : PySem.W.keepIn X.K (.ref f) = true) (hb : Binds X.K fd ps [])
    (ha : DPA X κ (e :: es) fs) (hdb : (x == ("__debug__" : Str)) = false := by decide) (he : starEach (e :: es) X.env = (false, eval e X.env) :: starEach es X.env := by rfl) (hpl : (backTo pos (starEach es X.env)).any (·.1) = false := by rfl) :
    DE X κ (.Call (.Name x p) (e :: es) [] pos) (dCallB g fs) := (pe_call F hr hg hm hk hb .nil pass0 ha hdb he hpl).imp fun σ H Q ⟨A, ρ, c, d, c', E, hf, q⟩ => by
  unfold dCallB at hf
  split at hf
  · rename_i ds c1 e1
    split at hf
    · rename_i d2 c2 e2
      split at hf
      · rename_i hi
        cases hf
        refine ⟨A, ρ, c, ds, c1, E, e1, fun vs H1 x1 hc1 r1 => ?_⟩
        have E1 := E.mono x1 hc1
        show spD X.prog X.w X.K g (vs ++ []) H1 Q E0
        rw [List.append_nil]
        refine ⟨κ, fun a => A a ∧ (a = κ ∨ ∀ v ∈ vs, v ≠ V.ref a), ds, c1, d, c', ⟨E1.κA, .inl rfl⟩, E1.cup, fun a h => E1.trk a h.1, ?_, e2, fun v H2 x2 hc2 r2 => ?_⟩
        · refine slots_reps _ r1 (fun a h => h.1) fun v hv a ev hn h => ?_
          rcases h.2 with h | h
          · exact hn h
          · exact h v hv ev
        · have E2 := E1.mono x2 hc2
          exact q v H2 (x1.trans x2) hc2 (Rep.tups (tups_cut E2.trk) d v hi r2)
      · cases hf
    · cases hf
  · cases hf
end

/-! ### what is walked -/
/-- the walk yields these, as long as what stands in G stands -/
def ItD (B : Bx) (G : Hp) (ds : List D) (J : It) : Prop := ∀ (A : Addr → Prop) (H : Hp), Same G (cut H A) → (∀ p, H p = none → ¬ A p) → ∀ i : Nat, (ds.length ≤ i → J.stop i H) ∧
  ∀ d, ds[i]? = some d → J.go i H ∧ ∀ x H', J.yld i H x H' → Same H H' ∧ Rep B (cut H' A) d x
def tI (B : Bx) (g : EvL) : TI := fun σ H R => ∃ A ρ c ds c', ERel B A σ H ρ c ∧ g ρ c = some (ds, c') ∧
  ∀ J H', Ext B.κ H H' → H' B.κ = some (cupO c') → ItD B (cut H' A) ds J → R J H'
abbrev DI (X : Cx) (κ : Addr) (tg e : Expr) (g : EvL) : Prop := PI X tg e (tI (bx X κ) g)
theorem _root_.L2.PI.imp {X : Cx} {tg e : Expr} {t t' : TI} (h : PI X tg e t) (i : ∀ σ H R, t' σ H R → t σ H R) : PI X tg e t' := ⟨fun pins s σ H R I q => h.run pins s σ H R I (i σ H R q)⟩
section
variable {B : Bx} {G : Hp} {a : Addr}
theorem itD_list {ds : List D} {vs : List V} (h : G a = some (.lst vs)) (r : Reps B G ds vs) : ItD B G ds (Itl B.K a) := fun A H sm _ i => by
  obtain ⟨_, e⟩ := of_cut (sm _ _ h)
  have hl := r.length
  refine ⟨fun hi => ⟨vs, SqL.of e, by omega⟩, fun d hd => ?_⟩
  obtain ⟨v, hv, rv⟩ := r.get hd
  refine ⟨⟨vs, v, SqL.of e, hv⟩, fun x H' y => ?_⟩
  obtain ⟨rfl, y⟩ := y
  have := y vs (SqL.of e)
  rw [hv] at this; cases this
  exact ⟨Same.refl _, Rep.mono sm _ _ rv⟩
theorem itD_tup {ds : List D} {vs : List V} (h : SqT B.K G a vs) (r : Reps B G ds vs) : ItD B G ds (Itt B.K a) := fun A H sm _ i => by
  have e : SqT B.K H a vs := SqT_same cut_same (SqT_same sm h)
  have hl := r.length
  refine ⟨fun hi => ⟨vs, e, by omega⟩, fun d hd => ?_⟩
  obtain ⟨v, hv, rv⟩ := r.get hd
  refine ⟨⟨vs, v, e, hv⟩, fun x H' y => ?_⟩
  obtain ⟨rfl, y⟩ := y
  have := y vs e
  rw [hv] at this; cases this
  exact ⟨Same.refl _, Rep.mono sm _ _ rv⟩
def signs (s : Str) : List D := s.cps.toList.map fun c => .str ⟨#[c]⟩
theorem itD_str (s : Str) : ItD B G (signs s) (Its s) := fun A H sm _ i => by
  have hl : (signs s).length = s.cps.size := by simp [signs]
  refine ⟨fun hi => (show s.cps.size ≤ i by omega), fun d hd => ?_⟩
  have hi : i < s.cps.size := by rw [← hl]; exact (List.getElem?_eq_some_iff.mp hd).1
  refine ⟨hi, fun x H' y => ?_⟩
  obtain ⟨rfl, c, hc, rfl⟩ := y
  have : d = .str ⟨#[c]⟩ := by
    unfold signs at hd
    rw [List.getElem?_map, Array.getElem?_toList, hc] at hd
    exact (Option.some.inj hd).symm
  subst this
  exact ⟨Same.refl _, rep_str⟩
def intsD (lo : Int) (n : Nat) : List D := (List.range n).map fun (i : Nat) => .int (lo + (i : Int))
theorem itD_range (lo : Int) (n : Nat) : ItD B G (intsD lo n) (Itr lo n) := fun A H sm _ i => by
  have hl : (intsD lo n).length = n := by simp [intsD]
  refine ⟨fun hi => (show n ≤ i by omega), fun d hd => ?_⟩
  have hi : i < n := by rw [← hl]; exact (List.getElem?_eq_some_iff.mp hd).1
  refine ⟨hi, fun x H' y => ?_⟩
  obtain ⟨rfl, rfl⟩ := y
  have : d = .int (lo + (i : Int)) := by
    unfold intsD at hd
    rw [List.getElem?_map, List.getElem?_range hi] at hd
    exact (Option.some.inj hd).symm
  subst this
  exact ⟨Same.refl _, rep_int⟩
end
/-! the keys of a dict -/
def DEp (B : Bx) (G : Hp) (a : Addr) (xs : List (D × V × V)) (ep : Nat) : Prop :=
  G a = some (dO B.w a xs ep) ∨
    ∃ (o : Obj) (es : Array DictEntry), B.K.lookup a = some o ∧ o.ExactDict ∧ o.data = .dict es ep ∧ Paired (DEnt B.w) xs es.toList ∧ (a == sysModules) = false ∧ xs.length ≤ sizeLine
theorem DicAt.ep {B : Bx} {G : Hp} {a : Addr} {xs : List (D × V × V)} (h : DicAt B G a xs) : ∃ ep, DEp B G a xs ep := by
  rcases h with ⟨ep, h⟩ | ⟨o, es, ep, h1, h2, h3, h4, h5, h6⟩
  · exact ⟨ep, .inl h⟩
  · exact ⟨ep, .inr ⟨o, es, h1, h2, h3, h4, h5, h6⟩⟩
theorem DEp.same {B : Bx} {G G' : Hp} {a : Addr} {xs : List (D × V × V)} {ep : Nat} (s : Same G G') (h : DEp B G a xs ep) : DEp B G' a xs ep := h.elim (fun h => .inl (s _ _ h)) .inr
theorem DEp.raw {X : Cx} {pins : List (Addr × Obj)} {σ : L2.St} {H : Hp} {s : Shared} {κ : Addr} {a : Addr} {xs : List (D × V × V)} {ep : Nat} (I : Inv X pins σ H s) (h : DEp (bx X κ) H a xs ep) :
    (a == sysModules) = false ∧ ∃ (o : Obj) (es : Array DictEntry), s.heap.get? a = some o ∧ o.ExactDict ∧ o.data = .dict es ep ∧ es.size = xs.length ∧ Paired (DEnt X.w) xs es.toList := by
  rcases h with h | ⟨o, es, h1, h2, h3, h4, h5, h6⟩
  · obtain ⟨⟨h1, h2, es, ⟨o, ho, hc, hd⟩, h4⟩, _⟩ := I.hok a _ h
    exact ⟨h1, o, es, ho, hc, hd, by rw [← Array.length_toList]; exact (Paired.length h4).symm, h4⟩
  · exact ⟨h5, o, es, I.kIn a o h1, h2, h3, by rw [← Array.length_toList]; exact (Paired.length h4).symm, h4⟩
def Itdk (B : Bx) (a : Addr) (xs : List (D × V × V)) (ep : Nat) : It :=
  ⟨fun i H => DEp B H a xs ep ∧ i < xs.length, fun i H x H' => H' = H ∧ ∃ e, xs[i]? = some e ∧ x = e.2.1, fun i H => DEp B H a xs ep ∧ xs.length ≤ i⟩
theorem turn_dkeys {P : Program} {w : World} {K : PySem.W.Frag} {κ : Addr} {tg : Expr} (a it : Addr) (xs : List (D × V × V)) (ep : Nat) : Turn P w K tg (Itdk ⟨P, w, K, κ⟩ a xs ep) [it] it (fun i h => h.IsKeyIter it a i xs.length ep) where
  mem := by simp
  obj := fun i h st b hb => by
    have e : b = it := by simpa using hb
    subst e
    obtain ⟨oi, e, c, dd⟩ := st
    exact ⟨oi, e, fun v z => by rw [dd] at z; cases z⟩
  keep := fun i h h' st k => st.at fun oi e => k it (by simp) oi e
  item := by
    intro X hP hw hK hc i pins s σ H E I hf st hg
    subst hP hw hK
    obtain ⟨hd, hi⟩ := hg
    obtain ⟨f0, f1, f2, f3, f4, f5⟩ := hf it (by simp)
    obtain ⟨_, o, es, ho, hx, hdt, hsz, pr⟩ := hd.raw I
    have hxi : xs[i]? = some xs[i] := List.getElem?_eq_getElem hi
    obtain ⟨en, hen, ent⟩ := paired_get pr hxi
    refine next_key_item st ho hdt hsz (by rw [← Array.getElem?_toList]; exact hen) fun h' st' sb => ?_
    have I1 : Inv X pins σ H { s with heap := h' } := I.turned (t' := s.toks) (fun b o hb e => (sb.2 b hb).trans e) f0 f1 f3 f4 f5
    obtain ⟨oi, e, cc, dd⟩ := id st'
    exact ⟨_, rfl, go_of (s := { s with heap := h' }) e cc dd (by decide) ⟨xs[i].2.1, H, I1, ent.k, ⟨rfl, _, hxi, rfl⟩, st', fun b hb => (hf b hb).1⟩⟩
  done := by
    intro X hP hw hK hc i pins s σ H E I hf st hg
    subst hP hw hK
    obtain ⟨hd, hi⟩ := hg
    obtain ⟨f0, f1, f2, f3, f4, f5⟩ := hf it (by simp)
    obtain ⟨_, o, es, ho, hx, hdt, hsz, pr⟩ := hd.raw I
    exact next_key_end (I.ok.hd hc) st ho hdt hsz hi fun h' eb => ⟨rfl, I.turned (t' := s.toks) (fun b o hb e => eb b o hb e) f0 f1 f3 f4 f5⟩
  self := fun A i s Q E st h => PySem.wpAny_pyIter_keyiter st h
theorem itD_keys {B : Bx} {G : Hp} {a : Addr} {xs : List (D × V × V)} {ks : List D} {ep : Nat} (h : DEp B G a xs ep) (r : Reps B G ks (xs.map (·.2.1))) : ItD B G ks (Itdk B a xs ep) := fun A H sm _ i => by
  have e : DEp B H a xs ep := (h.same sm).same cut_same
  have hl := r.length
  rw [List.length_map] at hl
  refine ⟨fun hi => ⟨e, by omega⟩, fun d hd => ?_⟩
  obtain ⟨v, hv, rv⟩ := r.get hd
  have hi : i < xs.length := by rw [← hl]; exact (List.getElem?_eq_some_iff.mp hd).1
  refine ⟨⟨e, hi⟩, fun x H' y => ?_⟩
  obtain ⟨rfl, z, hz, rfl⟩ := y
  rw [List.getElem?_map, hz] at hv
  cases hv
  exact ⟨Same.refl _, Rep.mono sm _ _ rv⟩

/-- what a value yields when it is walked -/
def itemsD : D → Option (List D)
  | .lst ds => some ds
  | .tup ds => some ds
  | .str s => some (signs s)
  | .dic ks _ => some ks
  | _ => none
def dItems (f : Ev) : EvL := fun ρ c => match f ρ c with
  | some (d, c1) => match itemsD d with
    | some ds => some (ds, c1)
    | none => none
  | none => none
section
variable {X : Cx} {κ : Addr} {tg e : Expr} {f : Ev} {pos p : Pos}
/-- for .. in a value that is no container of the frame's own -/
theorem di_val (h : DE X κ e f) : DI X κ tg e (dItems f) := by
  refine ⟨fun pins s σ H R I q => ?_⟩
  obtain ⟨A, ρ, c, ds, c', E, hf, q⟩ := q
  unfold dItems at hf
  split at hf
  · rename_i d c1 e1
    split at hf
    · rename_i ds' e2
      cases hf
      have run := fun (Q : VK) => h.run pins s σ H Q I
      unfold itemsD at e2
      split at e2
      · cases e2
        exact (pi_list h).run pins s σ H R I ⟨A, ρ, c, _, _, E, e1, fun v H1 x1 hc1 r1 => by
          simp only [Rep] at r1
          obtain ⟨a, vs, e, q1, r⟩ := r1
          exact ⟨a, e, ⟨vs, SqL.of (of_cut q1).2⟩, q _ H1 x1 hc1 (itD_list q1 r)⟩⟩
      · cases e2
        exact (pi_tup h).run pins s σ H R I ⟨A, ρ, c, _, _, E, e1, fun v H1 x1 hc1 r1 => by
          simp only [Rep] at r1
          obtain ⟨a, vs, e, q1, r⟩ := r1
          exact ⟨a, e, ⟨vs, SqT_same cut_same q1⟩, q _ H1 x1 hc1 (itD_tup q1 r)⟩⟩
      · cases e2
        exact (pi_str h).run pins s σ H R I ⟨A, ρ, c, _, _, E, e1, fun v H1 x1 hc1 r1 => by
          simp only [Rep] at r1
          exact ⟨_, r1, q _ H1 x1 hc1 (itD_str _)⟩⟩
      · cases e2
        refine thn (run (fun v H1 => ∃ a xs, v = V.ref a ∧ DicAt (bx X κ) (cut H1 A) a xs ∧ Reps (bx X κ) (cut H1 A) ds (xs.map (·.2.1)) ∧ Ext κ H H1 ∧ H1 κ = some (cupO c')) ⟨A, ρ, c, _, _, E, e1, fun v H1 x1 hc1 r1 => by
          simp only [Rep] at r1
          obtain ⟨a, xs, e, q1, k, ek, r1, r2⟩ := r1
          exact ⟨a, xs, e, q1, r1, x1, hc1⟩⟩) fun v s1 ⟨x, H1, I1, rx, a, xs, ex, q1, r1, x1, hc1⟩ => ?_
        subst ex
        cases (show v = Value.ref a from rx)
        obtain ⟨ep, hep⟩ := q1.ep
        obtain ⟨hs, o, es, ho, hx, hdt, hsz, pr⟩ := (hep.same cut_same).raw I1
        refine iter_keys hs ho hx hdt ?_
        rw [hsz]
        refine ⟨s1.heap.objs.size, [s1.heap.objs.size], _, _, H1, rfl, I1.kept (t' := s1.toks) fun b o e => Heap.get?_push_of_some _ e, turn_dkeys (κ := κ) a _ xs ep, ⟨_, Heap.get?_push_size _ rfl, rfl, rfl⟩, fun b hb => ?_, q _ H1 x1 hc1 (itD_keys hep r1)⟩
        have e : b = s1.heap.objs.size := by simpa using hb
        subst e
        exact I1.fpOk (Nat.le_refl _) (I1.hok.fresh (Nat.le_refl _))
      · cases e2
    · cases hf
  · cases hf
/-- range(n), range(a, b) -/
def dRng1 (fs : EvL) : EvL := fun ρ c => match fs ρ c with
  | some ([.int j], c1) => if -lim ≤ j ∧ j ≤ lim then some (intsD 0 j.toNat, c1) else none
  | _ => none
def dRng2 (fs : EvL) : EvL := fun ρ c => match fs ρ c with
  | some ([.int i, .int j], c1) => if -lim ≤ i ∧ i ≤ lim ∧ -lim ≤ j ∧ j ≤ lim then some (intsD i (j - i).toNat, c1) else none
  | _ => none
theorem slots1 {B : Bx} {A : Addr → Prop} {H : Hp} {d : D} {vs : List V} (h : Paired (fun d v => ∃ b, Slot B A H b d v) [d] vs) : ∃ b v, vs = [v] ∧ Slot B A H b d v := by
  cases h with
  | cons h t =>
    cases t
    obtain ⟨b, h⟩ := h
    exact ⟨b, _, rfl, h⟩
theorem slots2 {B : Bx} {A : Addr → Prop} {H : Hp} {d1 d2 : D} {vs : List V} (h : Paired (fun d v => ∃ b, Slot B A H b d v) [d1, d2] vs) : ∃ b1 b2 v1 v2, vs = [v1, v2] ∧ Slot B A H b1 d1 v1 ∧ Slot B A H b2 d2 v2 := by
  cases h with
  | cons h t =>
    obtain ⟨b, h⟩ := h
    obtain ⟨b2, v2, rfl, h2⟩ := slots1 t
    exact ⟨b, b2, _, v2, rfl, h, h2⟩
end
end DL
end
section
/-! DLg: targets, comprehensions, statements, the body of a def. -/
namespace DL
open PySem PySem.Spec PyProof.Rows L2

section
variable {X : Cx} {κ : Addr} {tg e : Expr} {f : Ev} {pos p : Pos}
theorem di_range1 {a : Expr} {fs : EvL} (hg : Gl X "range") (hm : X.mg "range" = none) (ha : DPA X κ [a] fs) (hs : starEach [a] X.env = [(false, eval a X.env)] := by rfl) : DI X κ tg (.Call (.Name "range" p) [a] [] pos) (dRng1 fs) :=
  (pi_range1 hg hm ha hs).imp fun σ H R ⟨A, ρ, c, ds, c', E, hf, q⟩ => by
    unfold dRng1 at hf
    split at hf
    · rename_i j c1 e1
      split at hf
      · rename_i hj
        cases hf
        refine ⟨A, ρ, c, _, _, E, e1, fun vs H1 x1 hc1 r1 => ?_⟩
        obtain ⟨b, v, rfl, s1⟩ := slots1 r1
        rw [s1.int_inv]
        have hl : (lim : Int) = 1000000 := rfl
        exact ⟨j, rfl, by omega, by omega, q _ H1 x1 hc1 (itD_range 0 j.toNat)⟩
      · cases hf
    · cases hf
theorem di_range2 {a b : Expr} {fs : EvL} (hg : Gl X "range") (hm : X.mg "range" = none) (ha : DPA X κ [a, b] fs) (hs : starEach [a, b] X.env = [(false, eval a X.env), (false, eval b X.env)] := by rfl) (hs2 : starEach [b] X.env = [(false, eval b X.env)] := by rfl) :
    DI X κ tg (.Call (.Name "range" p) [a, b] [] pos) (dRng2 fs) :=
  (pi_range2 hg hm ha hs hs2).imp fun σ H R ⟨A, ρ, c, ds, c', E, hf, q⟩ => by
    unfold dRng2 at hf
    split at hf
    · rename_i i j c1 e1
      split at hf
      · rename_i hj
        cases hf
        refine ⟨A, ρ, c, _, _, E, e1, fun vs H1 x1 hc1 r1 => ?_⟩
        obtain ⟨b1, b2, v1, v2, rfl, s1, s2⟩ := slots2 r1
        rw [s1.int_inv, s2.int_inv]
        have hl : (lim : Int) = 1000000 := rfl
        exact ⟨i, j, rfl, by omega, q _ H1 x1 hc1 (itD_range i (j - i).toNat)⟩
      · cases hf
    · cases hf
end

/-! ### targets -/
abbrev Bd := Rho → D → Option Rho
abbrev Bds := Rho → List D → Option Rho
/-- behind a store: the slots sl may have changed; what is one's own is as it was -/
structure Stored (sl : List Nat) (σ σ' : L2.St) (ρ ρ' : Rho) : Prop where
  len : σ'.length = σ.length
  rest : ∀ (j : Nat), j ∉ sl → σ'[j]? = σ[j]?
  own : ∀ (j : Nat) (d : D), ρ'[j]? = some (some (true, d)) → j ∉ sl ∧ ρ[j]? = some (some (true, d))
theorem Stored.refl {σ : L2.St} {ρ : Rho} : Stored [] σ σ ρ ρ := ⟨rfl, fun _ _ => rfl, fun _ _ h => ⟨by simp, h⟩⟩
theorem Stored.trans {s1 s2 : List Nat} {σ σ1 σ2 : L2.St} {ρ ρ1 ρ2 : Rho} (a : Stored s1 σ σ1 ρ ρ1) (b : Stored s2 σ1 σ2 ρ1 ρ2) : Stored (s1 ++ s2) σ σ2 ρ ρ2 :=
  ⟨b.len.trans a.len, fun j h => (b.rest j fun q => h (List.mem_append_right _ q)).trans (a.rest j fun q => h (List.mem_append_left _ q)), fun j d h => by
    obtain ⟨n2, h2⟩ := b.own j d h
    obtain ⟨n1, h1⟩ := a.own j d h2
    exact ⟨fun q => (List.mem_append.mp q).elim n1 n2, h1⟩⟩
def tGD (B : Bx) (sl : List Nat) (bd : Bd) : TG := fun v σ H Q => ∃ A ρ c d ρ', ERel B A σ H ρ c ∧ Rep B (cut H A) d v ∧ bd ρ d = some ρ' ∧ ∀ σ', Stored sl σ σ' ρ ρ' → ERel B A σ' H ρ' c → Q σ' H
def tGDs (B : Bx) (sl : List Nat) (bd : Bds) : TGs := fun vs σ H Q => ∃ A ρ c ds ρ', ERel B A σ H ρ c ∧ Reps B (cut H A) ds vs ∧ bd ρ ds = some ρ' ∧ ∀ σ', Stored sl σ σ' ρ ρ' → ERel B A σ' H ρ' c → Q σ' H
abbrev DG (X : Cx) (κ : Addr) (e : Expr) (sl : List Nat) (bd : Bd) : Prop := PG X e (tGD (bx X κ) sl bd)
abbrev DGs (X : Cx) (κ : Addr) (es : List Expr) (sl : List Nat) (bd : Bds) : Prop := PGs X es (tGDs (bx X κ) sl bd)
theorem _root_.L2.PG.imp {X : Cx} {e : Expr} {t t' : TG} (h : PG X e t) (i : ∀ v σ H Q, t' v σ H Q → t v σ H Q) : PG X e t' := ⟨fun pins s σ H v u Q I r q => h.run pins s σ H v u Q I r (i v σ H Q q)⟩
theorem _root_.L2.PGs.imp {X : Cx} {e : List Expr} {t t' : TGs} (h : PGs X e t) (i : ∀ v σ H Q, t' v σ H Q → t v σ H Q) : PGs X e t' := ⟨fun pins s σ H v u Q I r q => h.run pins s σ H v u Q I r (i v σ H Q q)⟩
def bName (i : Nat) : Bd := fun ρ d => if i < ρ.length then some (ρ.set i (some (false, d))) else none
def bNil : Bds := fun ρ ds => match ds with
  | [] => some ρ
  | _ => none
def bCons (b : Bd) (r : Bds) : Bds := fun ρ ds => match ds with
  | d :: ds => match b ρ d with
    | some ρ1 => r ρ1 ds
    | none => none
  | [] => none
def bTup (n : Nat) (r : Bds) : Bd := fun ρ d => match d with
  | .tup ds => if ds.length = n then r ρ ds else none
  | _ => none
section
variable {B : Bx} {A : Addr → Prop} {σ : L2.St} {H : Hp} {ρ : Rho} {c : Cup}
/-- a name is given a value -/
theorem ERel.store (E : ERel B A σ H ρ c) {i : Nat} (hi : i < ρ.length) {d : D} {v : V} (r : Rep B (cut H A) d v) : ERel B A (σ.set i (some v)) H (ρ.set i (some (false, d))) c where
  len := by rw [List.length_set, List.length_set]; exact E.len
  κA := E.κA
  cup := E.cup
  trk := E.trk
  slot := fun j b d' h => by
    by_cases hj : i = j
    · subst hj
      rw [List.getElem?_set_self hi] at h
      cases h
      exact ⟨v, List.getElem?_set_self (by rw [← E.len]; exact hi), r⟩
    · rw [List.getElem?_set_ne hj] at h
      rw [List.getElem?_set_ne hj]
      exact E.slot j b d' h
theorem Stored.name {i : Nat} (hi : i < ρ.length) {d : D} {v : V} : Stored [i] σ (σ.set i (some v)) ρ (ρ.set i (some (false, d))) :=
  ⟨List.length_set .., fun j h => List.getElem?_set_ne (by intro e; exact h (by simp [e])), fun j d' h => by
    by_cases hj : i = j
    · subst hj
      rw [List.getElem?_set_self hi] at h
      cases h
    · rw [List.getElem?_set_ne hj] at h
      exact ⟨by intro q; exact hj (List.mem_singleton.mp q).symm, h⟩⟩
end
section
variable {X : Cx} {κ : Addr} {pos : Pos}
theorem dg_name {i : Nat} {x : Str} (hN : X.N.Nodup) (hi : X.N[i]? = some x := by rfl) (hx : Loc X.env.scope x := by first | exact Or.inl rfl | exact Or.inr rfl) (hf : X.fn x = true ∨ X.env.scope.names.lookup x = some .local := by first | exact .inl rfl | exact .inr rfl | assumption) :
    DG X κ (.Name x pos) [i] (bName i) := (pg_name hN hi hx hf).imp fun v σ H Q ⟨A, ρ, c, d, ρ', E, r, hb, q⟩ => by
  unfold bName at hb
  split at hb
  · rename_i hl
    cases hb
    exact q _ (Stored.name hl) (E.store hl r)
  · cases hb
theorem dgs_nil : DGs X κ [] [] bNil := pgs_nil.imp fun vs σ H Q ⟨A, ρ, c, ds, ρ', E, r, hb, q⟩ => by
  unfold bNil at hb
  split at hb
  · cases hb
    exact ⟨r.nil_inv, q σ Stored.refl E⟩
  · cases hb
theorem dgs_cons {e : Expr} {es : List Expr} {s1 s2 : List Nat} {b : Bd} {r : Bds} (h1 : DG X κ e s1 b) (h2 : DGs X κ es s2 r) (hs : (assignEach (e :: es) X.env).map (·.2) = assign e X.env :: (assignEach es X.env).map (·.2) := by rfl) :
    DGs X κ (e :: es) (s1 ++ s2) (bCons b r) := (pgs_cons h1 h2 hs).imp fun vs σ H Q ⟨A, ρ, c, ds, ρ', E, rp, hb, q⟩ => by
  unfold bCons at hb
  split at hb
  · split at hb
    · rename_i d ds' _ ρ1 e1
      obtain ⟨v, rest, rfl, r1, r2⟩ := rp.cons_inv
      exact ⟨v, rest, rfl, A, ρ, c, d, ρ1, E, r1, e1, fun σ1 st1 E1 => ⟨A, ρ1, c, ds', ρ', E1, r2, hb, fun σ2 st2 E2 => q σ2 (st1.trans st2) E2⟩⟩
    · cases hb
  · cases hb
theorem dg_tup {es : List Expr} {k n : Nat} {sl : List Nat} {r : Bds} (hc : X.calm = true) (h : DGs X κ es sl r) (hn : (assignEach es X.env).length = n := by rfl) (hst : (assignEach es X.env).findIdx? (·.1) = none := by rfl) :
    DG X κ (.Tuple es k pos) sl (bTup n r) := (pg_tup hc h hn hst).imp fun v σ H Q ⟨A, ρ, c, d, ρ', E, rp, hb, q⟩ => by
  unfold bTup at hb
  split at hb
  · split at hb
    · rename_i ds hl
      simp only [Rep] at rp
      obtain ⟨a, vs, rfl, e1, r1⟩ := rp
      exact ⟨a, vs, rfl, SqT_same cut_same e1, by rw [← r1.length]; exact hl, A, ρ, c, ds, ρ', E, r1, hb, q⟩
    · cases hb
  · cases hb
end

/-! ### list comprehensions -/
def wipeD (ρ : Rho) : List Nat → Rho
  | [] => ρ
  | v :: vs => (wipeD ρ vs).set v none
theorem wipeD_some {ρ : Rho} {i : Nat} {x : Bool × D} : ∀ {vs : List Nat}, (wipeD ρ vs)[i]? = some (some x) → ρ[i]? = some (some x) ∧ i ∉ vs
  | [], h => ⟨h, by simp⟩
  | v :: vs, h => by
    unfold wipeD at h
    by_cases hi : v = i
    · subst hi
      by_cases hv : v < (wipeD ρ vs).length
      · rw [List.getElem?_set_self hv] at h; cases h
      · rw [List.getElem?_eq_none (by simpa using hv)] at h; cases h
    · rw [List.getElem?_set_ne hi] at h
      obtain ⟨h1, h2⟩ := wipeD_some h
      exact ⟨h1, by simp only [List.mem_cons, not_or]; exact ⟨fun e => hi e.symm, h2⟩⟩
theorem wipeD_length (ρ : Rho) : ∀ vs : List Nat, (wipeD ρ vs).length = ρ.length
  | [] => rfl
  | v :: vs => by unfold wipeD; rw [List.length_set, wipeD_length ρ vs]
theorem ERel.wipe {B : Bx} {A : Addr → Prop} {σ : L2.St} {H : Hp} {ρ : Rho} {c : Cup} (E : ERel B A σ H ρ c) (vs : List Nat) : ERel B A (L2.wipe σ vs) H (wipeD ρ vs) c where
  len := by rw [wipeD_length, wipe_length]; exact E.len
  κA := E.κA
  cup := E.cup
  trk := E.trk
  slot := fun j b d h => by
    obtain ⟨h1, h2⟩ := wipeD_some h
    obtain ⟨v, h3, h4⟩ := E.slot j b d h1
    exact ⟨v, by rw [wipe_out h2]; exact h3, h4⟩
theorem wipe_at {σ : L2.St} {i : Nat} (hi : i < σ.length) : ∀ {vs : List Nat}, i ∈ vs → (L2.wipe σ vs)[i]? = some none
  | [], h => by cases h
  | v :: vs, h => by
    unfold L2.wipe
    by_cases e : v = i
    · subst e
      exact List.getElem?_set_self (by rw [wipe_length]; exact hi)
    · rw [List.getElem?_set_ne e]
      exact wipe_at hi (by simpa [Ne.symm e] using h)
theorem wipe_congr {σ σ' : L2.St} {vs : List Nat} (hl : σ'.length = σ.length) (h : ∀ (j : Nat), j ∉ vs → σ'[j]? = σ[j]?) : L2.wipe σ' vs = L2.wipe σ vs := by
  apply List.ext_getElem?
  intro j
  by_cases hj : j ∈ vs
  · by_cases hlt : j < σ.length
    · rw [wipe_at hlt hj, wipe_at (by rw [hl]; exact hlt) hj]
    · rw [List.getElem?_eq_none (by rw [wipe_length, hl]; omega), List.getElem?_eq_none (by rw [wipe_length]; omega)]
  · rw [wipe_out hj, wipe_out hj]
    exact h j hj
def cmpGo (bd : Bd) (test : EvB) (elt : Ev) (ρ0 : Rho) : List D → Cup → Option (List D × Cup)
  | [], c => some ([], c)
  | d :: ds, c => match bd ρ0 d with
    | some ρ => match test ρ c with
      | some (true, c1) => match elt ρ c1 with
        | some (e, c2) => match cmpGo bd test elt ρ0 ds c2 with
          | some (r, c3) => some (e :: r, c3)
          | none => none
        | none => none
      | some (false, c1) => cmpGo bd test elt ρ0 ds c1
      | none => none
    | none => none
def dYes : EvB := fun _ c => some (true, c)
def dLc (vs : List Nat) (it : EvL) (bd : Bd) (test : EvB) (elt : Ev) : Ev := fun ρ c => match it ρ c with
  | some (ds, c1) => if ds.length ≤ lim then match cmpGo bd test elt (wipeD ρ vs) ds c1 with
    | some (r, c2) => some (.lst r, c2)
    | none => none
    else none
  | none => none
theorem drop_at {α : Type} {l : List α} {i : Nat} {x : α} (h : l[i]? = some x) : l.drop i = x :: l.drop (i + 1) := by
  obtain ⟨hi, e⟩ := List.getElem?_eq_some_iff.mp h
  rw [List.drop_eq_getElem_cons hi, e]
section
variable {X : Cx} {κ : Addr} {pos : Pos}
abbrev DTs (X : Cx) (κ : Addr) (es : List Expr) (f : EvB) : Prop := PTs X es (tDT (bx X κ) f)
theorem dts_nil : DTs X κ [] dYes := ⟨fun pins s σ H Q I ⟨A, ρ, c, b, c', E, hf, q⟩ => by
  cases hf
  exact pts_nil.run pins s σ H Q I (q H .refl E.cup)⟩
theorem dts_one {e : Expr} {f : EvB} (h : DT X κ e f) : DTs X κ [e] f := pts_one h
theorem lc_imp {own : List (Str × Nat)} {sl : List Nat} {it : EvL} {bd : Bd} {test : EvB} {fe : Ev} (hsl : ∀ j ∈ sl, j ∈ own.map (·.2)) (σ : L2.St) (H : Hp) (Q : VK) (q0 : tN (bx X κ) (dLc (own.map (·.2)) it bd test fe) σ H Q) :
    tLc (tI (bx X κ) it) (tGD (bx X κ) sl bd) (tDT (bx X κ) test) (tD (bx X κ) fe) (own.map (·.2)) σ H Q := by
  obtain ⟨A, ρ, c, d, c', E, hf, q⟩ := q0
  unfold dLc at hf
  split at hf
  · rename_i ds c1 e1
    split at hf
    · rename_i hlim
      split at hf
      · rename_i out c2 e2
        cases hf
        refine ⟨A, ρ, c, ds, c1, E, e1, fun J H1 x1 hc1 itd La hD => ?_⟩
        have E1 := E.mono x1 hc1
        have nAD : ¬ A La := E1.fresh hD
        have hD0 : H La = none := by
          cases e : H La with
          | none => rfl
          | some o =>
            by_cases hk : La = κ
            · subst hk; rw [hD] at hc1; cases hc1
            · rw [x1 La o hk e] at hD; cases hD
        -- within the block the new list is one's own
        let A' : Addr → Prop := fun a => A a ∨ a = La
        have κLa : κ ≠ La := ne_of_none hc1 hD
        have Erel : ∀ {H2 : Hp} {acc : List V} {cc : Cup}, Ext κ (upd H1 La (.lst [])) (upd H2 La (.lst [])) → H2 κ = some (cupO cc) → H2 La = some (.lst acc) → ERel (bx X κ) A' (L2.wipe σ (own.map (·.2))) H2 (wipeD ρ (own.map (·.2))) cc := fun {H2 acc cc} xx hk hd => by
          have E1w := E1.wipe (own.map (·.2))
          have up : ∀ a o, a ≠ κ → H1 a = some o → H2 a = some o := fun a o hn e => by
            have hne : a ≠ La := ne_of_none e hD
            have := xx a o hn (by rw [upd_ne hne]; exact e)
            rw [upd_ne hne] at this
            exact this
          have sm : Same (cut H1 A) (cut H2 A') := fun a o e => by
            obtain ⟨na, e⟩ := of_cut e
            have hne : a ≠ La := ne_of_none e hD
            exact cut_of (fun z => z.elim na hne) (up a o (fun z => na (z ▸ E.κA)) e)
          refine ⟨E1w.len, .inl E.κA, hk, fun a h => ?_, fun i b d hslot => ?_⟩
          · rcases h with h | h
            · by_cases hak : a = κ
              · subst hak; exact ⟨_, hk, trivial⟩
              · obtain ⟨o, e, m⟩ := E1.trk a h
                exact ⟨o, up a o hak e, m⟩
            · subst h; exact ⟨_, hd, trivial⟩
          · obtain ⟨v, h1, h2⟩ := E1w.slot i b d hslot
            refine ⟨v, h1, ?_⟩
            cases b with
            | false => exact Rep.mono sm d v h2
            | true =>
              obtain ⟨a, rfl, ha, hn, o⟩ := h2
              exact ⟨a, rfl, .inl ha, hn, o.mono (fun o q => up a o hn q) sm⟩
        refine ⟨fun i m H2 => m = ds.length - i ∧ i ≤ ds.length ∧ ∃ (acc : List D) (vs : List V) (cc : Cup) (rest : List D), H2 La = some (.lst vs) ∧ acc.length ≤ i ∧ Reps (bx X κ) (cut H2 A') acc vs ∧ H2 κ = some (cupO cc) ∧ Ext κ (upd H1 La (.lst [])) (upd H2 La (.lst [])) ∧
            cmpGo bd test fe (wipeD ρ (own.map (·.2))) (ds.drop i) cc = some (rest, c') ∧ out = acc ++ rest, ⟨ds.length, by simp, Nat.zero_le _, [], [], c1, out, upd_same, Nat.zero_le _, .nil, ?_, ?_, ?_, rfl⟩, ?_⟩
        · rw [upd_ne κLa]; exact hc1
        · rw [upd_upd]; exact .refl
        · rw [List.drop_zero]; exact e2
        · rintro i m H2 ⟨rfl, hil, acc, vs, cc, rest, hd, hal, ra, hk, xx, hgo, hout⟩
          have E2 := Erel xx hk hd
          have smG : Same (cut H1 A) (cut H2 A') := fun a o e => by
            obtain ⟨na, e⟩ := of_cut e
            have hne : a ≠ La := ne_of_none e hD
            have := xx a o (fun z => na (z ▸ E.κA)) (by rw [upd_ne hne]; exact e)
            rw [upd_ne hne] at this
            exact cut_of (fun z => z.elim na hne) this
          obtain ⟨istop, igo⟩ := itd A' H2 smG (fun p hp h => by
            obtain ⟨o, e, _⟩ := E2.trk p h
            rw [hp] at e; cases e) i
          by_cases hlt : i < ds.length
          · have hdi : ds[i]? = some ds[i] := List.getElem?_eq_getElem hlt
            obtain ⟨go, yld⟩ := igo _ hdi
            rw [drop_at hdi] at hgo
            refine .inr ⟨go, fun H3 => ∃ (acc : List D) (vs : List V) (cc : Cup) (rest : List D), H3 La = some (.lst vs) ∧ acc.length ≤ i + 1 ∧ Reps (bx X κ) (cut H3 A') acc vs ∧ H3 κ = some (cupO cc) ∧ Ext κ (upd H1 La (.lst [])) (upd H3 La (.lst [])) ∧
              cmpGo bd test fe (wipeD ρ (own.map (·.2))) (ds.drop (i + 1)) cc = some (rest, c') ∧ out = acc ++ rest, fun H' h => ⟨ds.length - (i + 1), by omega, rfl, hlt, h⟩, fun x H3 y => ?_⟩
            obtain ⟨sm3, rx⟩ := yld x H3 y
            have E3 := E2.mono (Same.ext sm3) (sm3 _ _ hk)
            simp only [cmpGo] at hgo
            split at hgo
            · rename_i ρ1 hb
              refine ⟨A', wipeD ρ (own.map (·.2)), cc, _, ρ1, E3, rx, hb, fun σ' st E4 => ⟨?_, ?_⟩⟩
              · rw [wipe_congr (σ := L2.wipe σ (own.map (·.2))) st.len fun j hj => st.rest j fun z => hj (hsl j z)]
                exact wipe_congr (wipe_length _ _) fun j hj => wipe_out hj
              · have xD : ∀ {H4 : Hp}, Ext κ H3 H4 → Ext κ (upd H1 La (.lst [])) (upd H4 La (.lst [])) := fun {H4} x4 a o hn e => by
                  by_cases ha : a = La
                  · subst ha; rw [upd_same] at e ⊢; exact e
                  · have e2 := xx a o hn e
                    rw [upd_ne ha] at e2 ⊢
                    exact x4 a o hn (sm3 a o e2)
                split at hgo
                · rename_i c3 ht3
                  refine ⟨A', ρ1, cc, true, c3, E4, ht3, fun H4 x4 hk4 => ?_⟩
                  refine iteT ?_
                  have E5 := E4.mono x4 hk4
                  split at hgo
                  · rename_i ev c4 he4
                    split at hgo
                    · rename_i r5 c5 hgo5
                      cases hgo
                      refine ⟨A', ρ1, c3, ev, c4, E5, he4, fun v5 H5 x5 hk5 r5' => ?_⟩
                      have hdD : H5 La = some (.lst vs) := x5 La _ (Ne.symm κLa) (x4 La _ (Ne.symm κLa) (sm3 _ _ hd))
                      have ra5 : Reps (bx X κ) (cut H5 A') acc vs := Reps.mono (((Same.ext sm3).trans (x4.trans x5)).cut (.inl E.κA)) _ _ ra
                      have smU : Same (cut H5 A') (cut (upd H5 La (.lst (vs ++ [v5]))) A') := fun a o e => by
                        obtain ⟨na, e⟩ := of_cut e
                        exact cut_of na (by rw [upd_ne fun z => na (.inr z)]; exact e)
                      refine ⟨vs, hdD, ?_, acc ++ [ev], vs ++ [v5], c4, _, upd_same, ?_, Reps.mono smU _ _ (ra5.append (.cons r5' .nil)), ?_, ?_, hgo5, ?_⟩
                      · rw [← ra.length]
                        have := sizeLine_eq
                        have : lim = 1000000 := rfl
                        omega
                      · rw [List.length_append]; show acc.length + 1 ≤ i + 1; omega
                      · rw [upd_ne κLa]; exact hk5
                      · rw [upd_upd]; exact xD (x4.trans x5)
                      · rw [hout, List.append_assoc]; rfl
                    · cases hgo
                  · cases hgo
                · rename_i c3 ht3
                  refine ⟨A', ρ1, cc, false, c3, E4, ht3, fun H4 x4 hk4 => ?_⟩
                  refine iteF ?_
                  exact ⟨acc, vs, c3, rest, x4 La _ (Ne.symm κLa) (sm3 _ _ hd), by omega, Reps.mono (((Same.ext sm3).trans x4).cut (.inl E.κA)) _ _ ra, hk4, xD x4, hgo, hout⟩
                · cases hgo
            · cases hgo
          · have hi' : i = ds.length := by omega
            refine .inl ⟨istop (by omega), ?_⟩
            rw [hi', List.drop_length] at hgo
            simp only [cmpGo] at hgo
            cases hgo
            rw [List.append_nil] at hout
            subst hout
            have xF : Ext κ H H2 := fun a o hn e => by
              have hne : a ≠ La := ne_of_none e hD0
              have := xx a o hn (by rw [upd_ne hne]; exact x1 a o hn e)
              rw [upd_ne hne] at this
              exact this
            exact q La H2 xF hk hD0 ⟨vs, hd, ra⟩ ⟨_, hd, trivial⟩
      · cases hf
    · cases hf
  · cases hf
theorem dn_lc {elt tg iter : Expr} {ifs : List Expr} {scope : Scope} {own : List (Str × Nat)} {sl : List Nat} {it : EvL} {bd : Bd} {test : EvB} {fe : Ev} (hc : X.calm = true) (hN : X.N.Nodup) (hi : DI X κ tg iter it) (ok : BlkOk X.N X.env.scope scope own)
    (hsl : ∀ j ∈ sl, j ∈ own.map (·.2))
    (hg : ∀ (s : Shared) (H : Hp) (C : Addr) (cl : List (Str × Addr)) (fp : List Addr), DG (X.blk s H scope (compEnvC scope cl C X.env) fp) κ tg sl bd) (ht : ∀ (s : Shared) (H : Hp) (C : Addr) (cl : List (Str × Addr)) (fp : List Addr), DTs (X.blk s H scope (compEnvC scope cl C X.env) fp) κ ifs test)
    (he : ∀ (s : Shared) (H : Hp) (C : Addr) (cl : List (Str × Addr)) (fp : List Addr), DE (X.blk s H scope (compEnvC scope cl C X.env) fp) κ elt fe) (hs : ∀ x, foldedSetIterable iter X.env x = pure x := by intro _; rfl) :
    DN X κ (.ListComp elt [⟨tg, iter, ifs, 0⟩] scope pos) (dLc (own.map (·.2)) it bd test fe) := by
  have hg' : ∀ (s : Shared) (H : Hp) (C : Addr) (cl : List (Str × Addr)) (fp : List Addr), PG (X.blk s H scope (compEnvC scope cl C X.env) fp) tg (tGD (bx X κ) sl bd) := hg
  have ht' : ∀ (s : Shared) (H : Hp) (C : Addr) (cl : List (Str × Addr)) (fp : List Addr), PTs (X.blk s H scope (compEnvC scope cl C X.env) fp) ifs (tDT (bx X κ) test) := ht
  have he' : ∀ (s : Shared) (H : Hp) (C : Addr) (cl : List (Str × Addr)) (fp : List Addr), PE (X.blk s H scope (compEnvC scope cl C X.env) fp) elt (tD (bx X κ) fe) := he
  exact (pe_lc hc hN hi ok hg' ht' he' hs).imp (lc_imp hsl)
end
end DL
end
section
/-! DLh: statements, the body of a def. -/
namespace DL
open PySem PySem.Spec PyProof.Rows L2

inductive Out where
  | nx (ρ : Rho) (c : Cup) | rt (d : D) (c : Cup) | bk (ρ : Rho) (c : Cup) | ct (ρ : Rho) (c : Cup)
abbrev SF := Rho → Cup → Option Out
/-- the frame since the entry (A0, H0) -/
structure SR (B : Bx) (A0 : Addr → Prop) (H0 : Hp) (A : Addr → Prop) (σ : L2.St) (H : Hp) (ρ : Rho) (c : Cup) : Prop where
  E : ERel B A σ H ρ c
  h1 : ∀ a, A0 a → A a
  h2 : ∀ a, A a → A0 a ∨ H0 a = none
  own : ∀ (i : Nat) (d : D) (a : Addr), ρ[i]? = some (some (true, d)) → σ[i]? = some (some (.ref a)) → H0 a = none
  dis : ∀ (i j : Nat) (d e : D) (a : Addr), ρ[i]? = some (some (true, d)) → ρ[j]? = some (some (true, e)) → σ[i]? = some (some (.ref a)) → σ[j]? = some (some (.ref a)) → i = j
  ext : Ext B.κ H0 H
  a0 : ∀ a, A0 a → ∃ o, H0 a = some o
def SRel (B : Bx) (A0 : Addr → Prop) (H0 : Hp) (σ : L2.St) (H : Hp) (ρ : Rho) (c : Cup) : Prop := ∃ A, SR B A0 H0 A σ H ρ c
/-- what is wanted of an end -/
def Fin (B : Bx) (A0 : Addr → Prop) (H0 : Hp) (E : Ends) : Out → Prop
  | .nx ρ c => ∀ σ H, SRel B A0 H0 σ H ρ c → E.nx σ H
  | .bk ρ c => ∀ σ H, SRel B A0 H0 σ H ρ c → E.bk σ H
  | .ct ρ c => ∀ σ H, SRel B A0 H0 σ H ρ c → E.ct σ H
  | .rt d c => ∀ v H, Ext B.κ H0 H → H B.κ = some (cupO c) → Rep B (cut H A0) d v → E.rt v H
def tS (B : Bx) (F : SF) : TS := fun E σ H => ∃ A0 H0 ρ c o, SRel B A0 H0 σ H ρ c ∧ F ρ c = some o ∧ Fin B A0 H0 E o
abbrev DS (X : Cx) (κ : Addr) (st : Stmt) (F : SF) : Prop := PS X st (tS (bx X κ) F)
abbrev DSs (X : Cx) (κ : Addr) (st : List Stmt) (F : SF) : Prop := PSs X st (tS (bx X κ) F)
theorem _root_.L2.PS.imp {X : Cx} {st : Stmt} {t t' : TS} (h : PS X st t) (i : ∀ E σ H, t' E σ H → t E σ H) : PS X st t' := ⟨fun pins s σ H E I q => h.run pins s σ H E I (i E σ H q)⟩
theorem _root_.L2.PSs.imp {X : Cx} {st : List Stmt} {t t' : TS} (h : PSs X st t) (i : ∀ E σ H, t' E σ H → t E σ H) : PSs X st t' := ⟨fun pins s σ H E I q => h.run pins s σ H E I (i E σ H q)⟩

section
variable {B : Bx} {A0 : Addr → Prop} {H0 H H' : Hp} {σ σ' : L2.St} {ρ ρ' : Rho} {c c' : Cup}
/-- an expression has been reckoned; what is new may be tracked -/
theorem SR.eval {A A' : Addr → Prop} (S : SR B A0 H0 A σ H ρ c) (x : Ext B.κ H H') (E : ERel B A' σ H' ρ c') (g1 : ∀ a, A a → A' a) (g2 : ∀ a, A' a → A a ∨ H a = none) : SR B A0 H0 A' σ H' ρ c' where
  E := E
  h1 := fun a h => g1 a (S.h1 a h)
  h2 := fun a h => (g2 a h).elim (S.h2 a) fun n => by
    right
    cases e : H0 a with
    | none => rfl
    | some o =>
      have nκ : a ≠ B.κ := by intro z; subst z; rw [S.E.cup] at n; cases n
      have := S.ext a o nκ e
      rw [n] at this; cases this
  own := S.own
  dis := S.dis
  ext := S.ext.trans x
  a0 := S.a0
theorem SR.new0 {A : Addr → Prop} (S : SR B A0 H0 A σ H ρ c) {a : Addr} (n : H a = none) : H0 a = none := by
  cases e : H0 a with
  | none => rfl
  | some o =>
    have nκ : a ≠ B.κ := by intro z; subst z; rw [S.E.cup] at n; cases n
    have := S.ext a o nκ e
    rw [n] at this; cases this
/-- no slot of one's own holds v -/
def Fr (σ : L2.St) (ρ : Rho) (b : Bool) (v : V) : Prop := b = true → ∀ (j : Nat) (d : D) (a : Addr), ρ[j]? = some (some (true, d)) → σ[j]? = some (some (.ref a)) → v ≠ .ref a
theorem ERel.fr {A : Addr → Prop} (E : ERel B A σ H ρ c) {b : Bool} {v : V} (h : b = true → ∀ a, v = .ref a → H a = none) : Fr σ ρ b v := fun e j d a e1 e2 e3 => by
  obtain ⟨w, h3, a', e4, hA, _⟩ := E.slot j true d e1
  rw [e2] at h3; cases h3; cases e4
  obtain ⟨o, q, _⟩ := E.trk a hA
  rw [h e a e3] at q; cases q
theorem SR.set {A : Addr → Prop} (S : SR B A0 H0 A σ H ρ c) {i : Nat} (hi : i < ρ.length) {b : Bool} {d : D} {v : V} (r : Slot B A H b d v) (f : Fr σ ρ b v) (n : b = true → ∀ a, v = .ref a → H0 a = none) :
    SR B A0 H0 A (σ.set i (some v)) H (ρ.set i (some (b, d))) c := by
  have hiσ : i < σ.length := by rw [← S.E.len]; exact hi
  refine ⟨⟨by rw [List.length_set, List.length_set]; exact S.E.len, S.E.κA, S.E.cup, S.E.trk, fun j b' d' h => ?_⟩, S.h1, S.h2, fun j d' a e1 e2 => ?_, fun j k d' e' a e1 e2 e3 e4 => ?_, S.ext, S.a0⟩
  · by_cases hj : i = j
    · subst hj
      rw [List.getElem?_set_self hi] at h
      cases h
      exact ⟨v, List.getElem?_set_self hiσ, r⟩
    · rw [List.getElem?_set_ne hj] at h
      rw [List.getElem?_set_ne hj]
      exact S.E.slot j b' d' h
  · by_cases hj : i = j
    · subst hj
      rw [List.getElem?_set_self hiσ] at e2
      rw [List.getElem?_set_self hi] at e1
      cases e1; cases e2
      exact n rfl a rfl
    · rw [List.getElem?_set_ne hj] at e1 e2
      exact S.own j d' a e1 e2
  · by_cases hj : i = j
    · subst hj
      rw [List.getElem?_set_self hiσ] at e3
      rw [List.getElem?_set_self hi] at e1
      cases e1; cases e3
      by_cases hk : i = k
      · exact hk
      · rw [List.getElem?_set_ne hk] at e2 e4
        exact absurd rfl (f rfl k e' a e2 e4)
    · rw [List.getElem?_set_ne hj] at e1 e3
      by_cases hk : i = k
      · subst hk
        rw [List.getElem?_set_self hiσ] at e4
        rw [List.getElem?_set_self hi] at e2
        cases e2; cases e4
        exact absurd rfl (f rfl j d' a e1 e3)
      · rw [List.getElem?_set_ne hk] at e2 e4
        exact S.dis j k d' e' a e1 e2 e3 e4
theorem Fr.set {b b' : Bool} {v w : V} {i : Nat} {d : D} (f : Fr σ ρ b w) (h : b = true → b' = true → w ≠ v) : Fr (σ.set i (some v)) (ρ.set i (some (b', d))) b w := fun e j d' a e1 e2 => by
  by_cases hj : i = j
  · subst hj
    by_cases hi : i < σ.length
    · rw [List.getElem?_set_self hi] at e2
      cases e2
      by_cases hr : i < ρ.length
      · rw [List.getElem?_set_self hr] at e1
        cases e1
        exact h e rfl
      · rw [List.getElem?_eq_none (by rw [List.length_set]; omega)] at e1; cases e1
    · rw [List.getElem?_eq_none (by rw [List.length_set]; omega)] at e2; cases e2
  · rw [List.getElem?_set_ne hj] at e1 e2
    exact f e j d' a e1 e2
/-- targets were stored to -/
theorem SR.stored {sl : List Nat} {A : Addr → Prop} (S : SR B A0 H0 A σ H ρ c) (st : Stored sl σ σ' ρ ρ') (E : ERel B A σ' H ρ' c) : SR B A0 H0 A σ' H ρ' c where
  E := E
  h1 := S.h1
  h2 := S.h2
  own := fun i d a e1 e2 => by
    obtain ⟨n, e⟩ := st.own i d e1
    rw [st.rest i n] at e2
    exact S.own i d a e e2
  dis := fun i j d e a e1 e2 e3 e4 => by
    obtain ⟨n, f⟩ := st.own i d e1
    obtain ⟨m, g⟩ := st.own j e e2
    rw [st.rest i n] at e3
    rw [st.rest j m] at e4
    exact S.dis i j d e a f g e3 e4
  ext := S.ext
  a0 := S.a0
/-- the own container at slot i is changed -/
theorem SR.change {A : Addr → Prop} (S : SR B A0 H0 A σ H ρ c) {i : Nat} {d d' : D} {a : Addr} {ob : HO} (hρ : ρ[i]? = some (some (true, d))) (hσ : σ[i]? = some (some (.ref a))) (hm : Mut (some ob)) (hn : a ≠ B.κ)
    (o : Own B (upd H a ob) (cut (upd H a ob) A) d' a) : SR B A0 H0 A σ (upd H a ob) (ρ.set i (some (true, d'))) c := by
  have E := S.E
  have h1 := S.h1
  have h2 := S.h2
  obtain ⟨v, e3, a', e4, hA, _, ow⟩ := E.slot i true d hρ
  rw [hσ] at e3; cases e3; cases e4
  have hi : i < ρ.length := (List.getElem?_eq_some_iff.mp hρ).1
  have sm : Same (cut H A) (cut (upd H a ob) A) := fun b o' e => by
    obtain ⟨n, e⟩ := of_cut e
    exact cut_of n (by rw [upd_ne (by rintro rfl; exact n hA)]; exact e)
  refine ⟨⟨by rw [List.length_set]; exact E.len, E.κA, by rw [upd_ne (Ne.symm hn)]; exact E.cup, fun b h => ?_, fun j b d2 h => ?_⟩, h1, h2, fun j d2 b e1 e2 => ?_, fun j k d2 e' b e1 e2 e3 e4 => ?_, fun b o' hb e => ?_, S.a0⟩
  · by_cases hb : b = a
    · subst hb; exact ⟨ob, upd_same, hm⟩
    · rw [upd_ne hb]; exact E.trk b h
  · by_cases hj : i = j
    · subst hj
      rw [List.getElem?_set_self hi] at h
      cases h
      exact ⟨.ref a, hσ, a, rfl, hA, hn, o⟩
    · rw [List.getElem?_set_ne hj] at h
      obtain ⟨v, h3, h4⟩ := E.slot j b d2 h
      refine ⟨v, h3, ?_⟩
      cases b with
      | false => exact Rep.mono sm d2 v h4
      | true =>
        obtain ⟨a2, e, hA2, hn2, ow2⟩ := h4
        subst e
        have ne : a2 ≠ a := fun z => hj (S.dis i j d d2 a hρ h hσ (by rw [h3, z]))
        exact ⟨a2, rfl, hA2, hn2, ow2.mono (fun o' q => by rw [upd_ne ne]; exact q) sm⟩
  · by_cases hj : i = j
    · subst hj
      rw [hσ] at e2; cases e2
      exact S.own i d a hρ hσ
    · rw [List.getElem?_set_ne hj] at e1
      exact S.own j d2 b e1 e2
  · by_cases hj : i = j
    · subst hj
      by_cases hk : i = k
      · exact hk
      · rw [List.getElem?_set_ne hk] at e2
        exact S.dis i k d e' b hρ e2 e3 e4
    · rw [List.getElem?_set_ne hj] at e1
      by_cases hk : i = k
      · subst hk
        exact S.dis j i d2 d b e1 hρ e3 e4
      · rw [List.getElem?_set_ne hk] at e2
        exact S.dis j k d2 e' b e1 e2 e3 e4
  · have h0 := S.own i d a hρ hσ
    have hba : b ≠ a := fun z => by subst z; rw [h0] at e; cases e
    rw [upd_ne hba]
    exact S.ext b o' hb e
/-- a container of one's own becomes a plain value -/
def frz (i : Nat) (ρ : Rho) : Rho := match ρ[i]? with
  | some (some (_, d)) => ρ.set i (some (false, d))
  | _ => ρ
theorem SRel.frz (S0 : SRel B A0 H0 σ H ρ c) (i : Nat) : SRel B A0 H0 σ H (DL.frz i ρ) c := by
  obtain ⟨A, S⟩ := S0
  unfold DL.frz
  split
  · rename_i b d hρ
    cases b with
    | false =>
      have : ρ.set i (some (false, d)) = ρ := by
        apply List.ext_getElem?
        intro j
        by_cases hj : i = j
        · subst hj; rw [List.getElem?_set_self (List.getElem?_eq_some_iff.mp hρ).1, hρ]
        · rw [List.getElem?_set_ne hj]
      rw [this]; exact ⟨A, S⟩
    | true =>
      have E := S.E
      have h1 := S.h1
      have h2 := S.h2
      obtain ⟨v, e3, a, rfl, hA, hn, ow⟩ := E.slot i true d hρ
      have hi : i < ρ.length := (List.getElem?_eq_some_iff.mp hρ).1
      have h0 := S.own i d a hρ e3
      have n0 : ¬ A0 a := fun h => by
        obtain ⟨o, e⟩ := S.a0 a h
        rw [h0] at e; cases e
      have sm : Same (cut H A) (cut H fun b => A b ∧ b ≠ a) := cut_sub fun b h => h.1
      refine ⟨fun b => A b ∧ b ≠ a, ⟨by rw [List.length_set]; exact E.len, ⟨E.κA, Ne.symm hn⟩, E.cup, fun b h => E.trk b h.1, fun j b d2 h => ?_⟩, fun b h => ⟨h1 b h, fun z => n0 (z ▸ h)⟩, fun b h => h2 b h.1, fun j d2 b e1 e2 => ?_, fun j k d2 e' b e1 e2 e3 e4 => ?_, S.ext, S.a0⟩
      · by_cases hj : i = j
        · subst hj
          rw [List.getElem?_set_self hi] at h
          cases h
          exact ⟨.ref a, e3, (ow.mono (fun _ q => q) sm).rep (cut_at fun z => z.2 rfl)⟩
        · rw [List.getElem?_set_ne hj] at h
          obtain ⟨v, h3, h4⟩ := E.slot j b d2 h
          refine ⟨v, h3, ?_⟩
          cases b with
          | false => exact Rep.mono sm d2 v h4
          | true =>
            obtain ⟨a2, e, hA2, hn2, ow2⟩ := h4
            subst e
            have ne : a2 ≠ a := fun z => hj (S.dis i j d d2 a hρ h e3 (by rw [h3, z]))
            exact ⟨a2, rfl, ⟨hA2, ne⟩, hn2, ow2.mono (fun _ q => q) sm⟩
      · by_cases hj : i = j
        · subst hj
          rw [List.getElem?_set_self hi] at e1; cases e1
        · rw [List.getElem?_set_ne hj] at e1
          exact S.own j d2 b e1 e2
      · by_cases hj : i = j
        · subst hj
          rw [List.getElem?_set_self hi] at e1; cases e1
        · by_cases hk : i = k
          · subst hk
            rw [List.getElem?_set_self hi] at e2; cases e2
          · rw [List.getElem?_set_ne hj] at e1
            rw [List.getElem?_set_ne hk] at e2
            exact S.dis j k d2 e' b e1 e2 e3 e4
  · exact ⟨A, S⟩
end
end DL
end
section
/-! DLi: statements. -/
namespace DL
open PySem PySem.Spec PyProof.Rows L2

/-- an expression's value: plain (false) or a new container (true) -/
def tX (B : Bx) (b : Bool) (f : Ev) : TE := fun σ H Q => ∃ A ρ c d c', ERel B A σ H ρ c ∧ f ρ c = some (d, c') ∧
  ∀ v H' A', Ext B.κ H H' → H' B.κ = some (cupO c') → (∀ a, A a → A' a) → (∀ a, A' a → A a ∨ H a = none) → ERel B A' σ H' ρ c' → Slot B A' H' b d v → (b = true → ∀ a, v = .ref a → H a = none) → Q v H'
abbrev DX (X : Cx) (κ : Addr) (b : Bool) (e : Expr) (f : Ev) : Prop := PE X e (tX (bx X κ) b f)
theorem ERel.add {B : Bx} {A : Addr → Prop} {σ : L2.St} {H H' : Hp} {ρ : Rho} {c c' : Cup} (E : ERel B A σ H ρ c) (x : Ext B.κ H H') (hc : H' B.κ = some (cupO c')) {p : Addr} (hp : H p = none) (hm : ∃ o, H' p = some o ∧ Mut (some o)) : ERel B (fun a => A a ∨ a = p) σ H' ρ c' := by
  have E' := E.mono x hc
  have sm : Same (cut H A) (cut H' fun a => A a ∨ a = p) := fun a o e => by
    obtain ⟨n, e⟩ := of_cut e
    exact cut_of (fun z => z.elim n (ne_of_none e hp)) (x a o (fun z => n (z ▸ E.κA)) e)
  refine ⟨E.len, .inl E.κA, hc, fun a h => ?_, fun j b d h => ?_⟩
  · rcases h with h | h
    · exact E'.trk a h
    · subst h; exact hm
  · obtain ⟨v, h1, h2⟩ := E.slot j b d h
    refine ⟨v, h1, ?_⟩
    cases b with
    | false => exact Rep.mono sm d v h2
    | true =>
      obtain ⟨a, rfl, ha, hn, o⟩ := h2
      exact ⟨a, rfl, .inl ha, hn, o.mono (fun o q => x a o hn q) sm⟩
section
variable {X : Cx} {κ : Addr} {e e1 e2 e3 : Expr} {f f1 f2 f3 : Ev} {pos : Pos} {b b1 b2 b3 : Bool}
theorem DE.dx (h : DE X κ e f) : DX X κ false e f := h.imp fun σ H Q ⟨A, ρ, c, d, c', E, hf, q⟩ =>
  ⟨A, ρ, c, d, c', E, hf, fun v H' x hc r => q v H' A x hc (fun _ h => h) (fun _ h => .inl h) (E.mono x hc) r (fun z => by cases z)⟩
theorem DN.dx (h : DN X κ e f) : DX X κ true e f := h.imp fun σ H Q ⟨A, ρ, c, d, c', E, hf, q⟩ =>
  ⟨A, ρ, c, d, c', E, hf, fun p H' x hc hp o hm => q _ H' _ x hc (fun _ h => .inl h) (fun a h => h.imp id fun (z : a = p) => by subst z; exact hp) (E.add x hc hp hm)
    ⟨p, rfl, .inr rfl, (fun z => by subst z; rw [E.cup] at hp; cases hp), o⟩ (fun _ a z => by cases z; exact hp)⟩

/-! blocks -/
def sSeq (F G : SF) : SF := fun ρ c => match F ρ c with
  | some (.nx ρ' c') => G ρ' c'
  | o => o
def sNext : SF := fun ρ c => some (.nx ρ c)
theorem dss_nil : DSs X κ [] sNext := pss_nil.imp fun E σ H ⟨A0, H0, ρ, c, o, S, hf, q⟩ => by
  cases hf
  exact q σ H S
theorem dss_cons {st : Stmt} {r : List Stmt} {F G : SF} (h : DS X κ st F) (t : DSs X κ r G) : DSs X κ (st :: r) (sSeq F G) := (pss_cons h t).imp fun E σ H ⟨A0, H0, ρ, c, o, S, hf, q⟩ => by
  unfold sSeq at hf
  split at hf
  · rename_i ρ' c' e1
    exact ⟨A0, H0, ρ, c, _, S, e1, fun σ' H' S' => ⟨A0, H0, ρ', c', o, S', hf, by cases o <;> exact q⟩⟩
  · rename_i o' e1
    refine ⟨A0, H0, ρ, c, o, S, hf, ?_⟩
    cases o with
    | nx ρ' c' => exact absurd hf (e1 ρ' c')
    | _ => exact q
theorem dss_one {st : Stmt} {F : SF} (h : DS X κ st F) : DSs X κ [st] F := (pss_one h).imp fun E σ H q => q
def sFrz (i : Nat) (F : SF) : SF := fun ρ c => F (frz i ρ) c
theorem ds_frz {st : Stmt} {F : SF} (i : Nat) (h : DS X κ st F) : DS X κ st (sFrz i F) := h.imp fun E σ H ⟨A0, H0, ρ, c, o, S, hf, q⟩ => ⟨A0, H0, frz i ρ, c, o, S.frz i, hf, q⟩
theorem ds_never {st : Stmt} : DS X κ st (fun _ _ => none) := ps_never.imp fun E σ H ⟨A0, H0, ρ, c, o, S, hf, q⟩ => by cases hf
def sBreak : SF := fun ρ c => some (.bk ρ c)
def sCont : SF := fun ρ c => some (.ct ρ c)
theorem ds_pass : DS X κ (.Pass pos) sNext := ps_pass.imp fun E σ H ⟨A0, H0, ρ, c, o, S, hf, q⟩ => by cases hf; exact q σ H S
theorem ds_break : DS X κ (.Break pos) sBreak := ps_break.imp fun E σ H ⟨A0, H0, ρ, c, o, S, hf, q⟩ => by cases hf; exact q σ H S
theorem ds_cont : DS X κ (.Continue pos) sCont := ps_continue.imp fun E σ H ⟨A0, H0, ρ, c, o, S, hf, q⟩ => by cases hf; exact q σ H S
def sDrop (f : Ev) : SF := fun ρ c => match f ρ c with
  | some (_, c') => some (.nx ρ c')
  | none => none
theorem ds_expr (h : DE X κ e f) (hs : swapsWith e none pos.line X.env = pure false := by rfl) : DS X κ (.Expr e pos) (sDrop f) := (ps_expr h hs).imp fun E σ H ⟨A0, H0, ρ, c, o, ⟨A, S⟩, hf, q⟩ => by
  unfold sDrop at hf
  split at hf
  · rename_i d c' e1
    cases hf
    exact ⟨A, ρ, c, d, c', S.E, e1, fun v H' x hc _ => q σ H' ⟨A, S.eval x (S.E.mono x hc) (fun _ h => h) fun _ h => .inl h⟩⟩
  · cases hf
/-! returns -/
def sRet (f : Ev) : SF := fun ρ c => match f ρ c with
  | some (d, c') => some (.rt d c')
  | none => none
theorem ds_ret (h : DE X κ e f) : DS X κ (.Return (some e) pos) (sRet f) := (ps_ret h).imp fun E σ H ⟨A0, H0, ρ, c, o, ⟨A, S⟩, hf, q⟩ => by
  unfold sRet at hf
  split at hf
  · rename_i d c' e1
    cases hf
    exact ⟨A, ρ, c, d, c', S.E, e1, fun v H' x hc r => q v H' (S.ext.trans x) hc (Rep.mono (cut_sub S.h1) d v r)⟩
  · cases hf
def sRetN : SF := fun _ c => some (.rt .non c)
theorem ds_retN : DS X κ (.Return none pos) sRetN := ps_retN.imp fun E σ H ⟨A0, H0, ρ, c, o, ⟨A, S⟩, hf, q⟩ => by
  cases hf
  exact q .non H S.ext S.E.cup (by simp only [Rep])
/-! if -/
def sIf (t : EvB) (F G : SF) : SF := fun ρ c => match t ρ c with
  | some (true, c') => F ρ c'
  | some (false, c') => G ρ c'
  | none => none
theorem ds_if {p q : List Stmt} {t : EvB} {F G : SF} (ht : DT X κ e t) (hp : DSs X κ p F) (hq : DSs X κ q G) : DS X κ (.If e p q pos) (sIf t F G) := (ps_if ht hp hq).imp fun E σ H ⟨A0, H0, ρ, c, o, ⟨A, S⟩, hf, q⟩ => by
  unfold sIf at hf
  split at hf
  · rename_i c' e1
    exact ⟨A, ρ, c, true, c', S.E, e1, fun H' x hc => iteT ⟨A0, H0, ρ, c', o, ⟨A, S.eval x (S.E.mono x hc) (fun _ h => h) fun _ h => .inl h⟩, hf, q⟩⟩
  · rename_i c' e1
    exact ⟨A, ρ, c, false, c', S.E, e1, fun H' x hc => iteF ⟨A0, H0, ρ, c', o, ⟨A, S.eval x (S.E.mono x hc) (fun _ h => h) fun _ h => .inl h⟩, hf, q⟩⟩
  · cases hf
/-! name = value -/
def sSet (b : Bool) (i : Nat) (f : Ev) : SF := fun ρ c => match f ρ c with
  | some (d, c') => if i < ρ.length then some (.nx (ρ.set i (some (b, d))) c') else none
  | none => none
theorem set_imp {i : Nat} (E : Ends) (σ : L2.St) (H : Hp) (q0 : tS (bx X κ) (sSet b i f) E σ H) : tX (bx X κ) b f σ H fun v H1 => E.nx (σ.set i (some v)) H1 := by
  obtain ⟨A0, H0, ρ, c, o, ⟨A, S⟩, hf, q⟩ := q0
  unfold sSet at hf
  split at hf
  · rename_i d c' e1
    split at hf
    · rename_i hl
      cases hf
      exact ⟨A, ρ, c, d, c', S.E, e1, fun v H' A' x hc g1 g2 E' sl fr => q _ _ ⟨A', (S.eval x E' g1 g2).set hl sl (S.E.fr fr) fun hb a hv => S.new0 (fr hb a hv)⟩⟩
    · cases hf
  · cases hf
theorem tX_N (σ : L2.St) (H : Hp) (Q : VK) (q0 : tX (bx X κ) b f σ H Q) : tN (bx X κ) f σ H Q := by
  obtain ⟨A, ρ, c, d, c', E, hf, q⟩ := q0
  refine ⟨A, ρ, c, d, c', E, hf, fun p H' x hc hp o hm => ?_⟩
  cases b with
  | true => exact q _ H' _ x hc (fun _ h => .inl h) (fun a h => h.imp id fun (z : a = p) => by subst z; exact hp) (E.add x hc hp hm) ⟨p, rfl, .inr rfl, (fun z => by subst z; rw [E.cup] at hp; cases hp), o⟩ (fun _ a z => by cases z; exact hp)
  | false =>
    have nA : ¬ A p := E.fresh hp
    have o' : Own (bx X κ) H' (cut H' A) d p := o.mono (fun _ q => q) (cut_sub fun a h => .inl h)
    exact q _ H' A x hc (fun _ h => h) (fun _ h => .inl h) (E.mono x hc) (o'.rep (cut_at nA)) (fun z => by cases z)
theorem ds_set {i : Nat} {x : Str} {pos' : Pos} (hN : X.N.Nodup) (h : DX X κ b e f) (hi : X.N[i]? = some x := by rfl) (hx : Loc X.env.scope x := by first | exact Or.inl rfl | exact Or.inr rfl) (hs : swapsWith e (some (.Name x pos')) pos.line X.env = pure false := by rfl) (hf : X.fn x = true ∨ X.env.scope.names.lookup x = some .local := by first | exact .inl rfl | exact .inr rfl | assumption) :
    DS X κ (.Assign [.Name x pos'] e pos) (sSet b i f) := (ps_set hN hi hx h hs hf).imp set_imp
/-- name = [.. for ..], where the store goes ahead of the block's end -/
theorem ds_setLc {i : Nat} {y : Str} {py : Pos} {elt tg iter : Expr} {ifs : List Expr} {scope : Scope} {own : List (Str × Nat)} {pos spos : Pos} {sl : List Nat} {it : EvL} {bd : Bd} {test : EvB} {fe : Ev} (b : Bool) (hc : X.calm = true) (hN : X.N.Nodup) (hi : DI X κ tg iter it) (ok : BlkOk X.N X.env.scope scope own)
    (hsl : ∀ j ∈ sl, j ∈ own.map (·.2))
    (hg : ∀ (s : Shared) (H : Hp) (C : Addr) (cl : List (Str × Addr)) (fp : List Addr), DG (X.blk s H scope (compEnvC scope cl C X.env) fp) κ tg sl bd) (ht : ∀ (s : Shared) (H : Hp) (C : Addr) (cl : List (Str × Addr)) (fp : List Addr), DTs (X.blk s H scope (compEnvC scope cl C X.env) fp) κ ifs test)
    (he : ∀ (s : Shared) (H : Hp) (C : Addr) (cl : List (Str × Addr)) (fp : List Addr), DE (X.blk s H scope (compEnvC scope cl C X.env) fp) κ elt fe)
    (hy : X.N[i]? = some y := by rfl) (hyl : X.env.scope.names.lookup y = some .local := by rfl) (hsw : swapsWith (.ListComp elt [⟨tg, iter, ifs, 0⟩] scope pos) (some (.Name y py)) spos.line X.env = pure true := by rfl) (hs : ∀ x, foldedSetIterable iter X.env x = pure x := by intro _; rfl) :
    DS X κ (.Assign [.Name y py] (.ListComp elt [⟨tg, iter, ifs, 0⟩] scope pos) spos) (sSet b i (dLc (own.map (·.2)) it bd test fe)) := by
  have hg' : ∀ (s : Shared) (H : Hp) (C : Addr) (cl : List (Str × Addr)) (fp : List Addr), PG (X.blk s H scope (compEnvC scope cl C X.env) fp) tg (tGD (bx X κ) sl bd) := hg
  have ht' : ∀ (s : Shared) (H : Hp) (C : Addr) (cl : List (Str × Addr)) (fp : List Addr), PTs (X.blk s H scope (compEnvC scope cl C X.env) fp) ifs (tDT (bx X κ) test) := ht
  have he' : ∀ (s : Shared) (H : Hp) (C : Addr) (cl : List (Str × Addr)) (fp : List Addr), PE (X.blk s H scope (compEnvC scope cl C X.env) fp) elt (tD (bx X κ) fe) := he
  exact (ps_setLc hc hN hy hyl hsw hi ok hg' ht' he' hs).imp fun E σ H q => lc_imp hsl σ H _ (tX_N _ _ _ (set_imp E σ H q))
/-- targets = value -/
def sAsg (f : Ev) (bd : Bd) : SF := fun ρ c => match f ρ c with
  | some (d, c') => match bd ρ d with
    | some ρ' => some (.nx ρ' c')
    | none => none
  | none => none
theorem ds_asg {tg : Expr} {sl : List Nat} {bd : Bd} (h : DE X κ e f) (hg : DG X κ tg sl bd) (hs : swapsWithSole [tg] e pos.line X.env = pure false := by rfl) (hw : swappedStores [tg] e X.env = pure none := by rfl)
    (h1 : (assignEach [tg] X.env).map (·.2) = [assign tg X.env] := by rfl) : DS X κ (.Assign [tg] e pos) (sAsg f bd) := (ps_asg h hg hs hw h1).imp fun E σ H ⟨A0, H0, ρ, c, o, ⟨A, S⟩, hf, q⟩ => by
  unfold sAsg at hf
  split at hf
  · rename_i d c' e1
    split at hf
    · rename_i ρ' e2
      cases hf
      exact ⟨A, ρ, c, d, c', S.E, e1, fun v H' x hc r => ⟨A, ρ, c', d, ρ', S.E.mono x hc, r, e2, fun σ' st E' => q σ' H' ⟨A, (S.eval x (S.E.mono x hc) (fun _ h => h) fun _ h => .inl h).stored st E'⟩⟩⟩
    · cases hf
  · cases hf
/-! x, y = a, b -/
def sPar2 (b1 b2 : Bool) (i j : Nat) (f1 f2 : Ev) : SF := fun ρ c => match f1 ρ c with
  | some (d1, c1) => match f2 ρ c1 with
    | some (d2, c2) => if i < ρ.length ∧ j < ρ.length then some (.nx ((ρ.set i (some (b1, d1))).set j (some (b2, d2))) c2) else none
    | none => none
  | none => none
theorem Slot.cross {B : Bx} {A A' : Addr → Prop} {H H' : Hp} {b : Bool} {d : D} {v : V} (k : A B.κ) (x : Ext B.κ H H') (g1 : ∀ a, A a → A' a) (g2 : ∀ a, A' a → A a ∨ H a = none) (h : Slot B A H b d v) : Slot B A' H' b d v := by
  have sm : Same (cut H A) (cut H' A') := fun a o e => by
    obtain ⟨n, e⟩ := of_cut e
    refine cut_of (fun z => ?_) (x a o (fun z => n (z ▸ k)) e)
    rcases g2 a z with z | z
    · exact n z
    · rw [e] at z; cases z
  cases b with
  | false => exact Rep.mono sm d v h
  | true =>
    obtain ⟨a, e, hA, hn, o⟩ := h
    exact ⟨a, e, g1 a hA, hn, o.mono (fun o q => x a o hn q) sm⟩
theorem slot_there {B : Bx} {A : Addr → Prop} {H : Hp} {d : D} {a : Addr} (h : Slot B A H true d (.ref a)) : H a ≠ none := by
  obtain ⟨b, e, _, _, o⟩ := h
  cases e
  intro n
  cases d <;> first | exact False.elim o | (obtain ⟨vs, e, _⟩ := o; rw [n] at e; cases e) | (obtain ⟨xs, ep, e, _⟩ := o; rw [n] at e; cases e)
theorem ds_par2 {i j : Nat} {x y : Str} {px py pt pt2 : Pos} {kt k2} (hN : X.N.Nodup) (hc : X.calm = true) (hx1 : DX X κ b1 e1 f1) (hx2 : DX X κ b2 e2 f2) (hi : X.N[i]? = some x := by rfl) (hj : X.N[j]? = some y := by rfl) (hij : i ≠ j := by decide)
    (hx : X.env.scope.names.lookup x = some .local := by rfl) (hy : X.env.scope.names.lookup y = some .local := by rfl)
    (hw : swappedStores [.Tuple [.Name x px, .Name y py] kt pt] (.Tuple [e1, e2] k2 pt2) X.env = pure (some [x, y]) := by rfl)
    (hs : swapsWithSole [.Tuple [.Name x px, .Name y py] kt pt] (.Tuple [e1, e2] k2 pt2) pos.line X.env = pure false := by rfl) (hs1 : starEach [e1, e2] X.env = (false, eval e1 X.env) :: starEach [e2] X.env := by rfl) (hs2 : starEach [e2] X.env = (false, eval e2 X.env) :: starEach [] X.env := by rfl) :
    DS X κ (.Assign [.Tuple [.Name x px, .Name y py] kt pt] (.Tuple [e1, e2] k2 pt2) pos) (sPar2 b1 b2 i j f1 f2) :=
  (ps_par hc hN hi hj hij hx hy (pa_cons hx1 (pa_cons hx2 pa_nil hs2) hs1) hw hs).imp fun E σ H ⟨A0, H0, ρ, c, o, ⟨A, S⟩, hf, q⟩ => by
    unfold sPar2 at hf
    split at hf
    · rename_i d1 c1 e1
      split at hf
      · rename_i d2 c2 e2
        split at hf
        · rename_i hl
          cases hf
          refine ⟨A, ρ, c, d1, c1, S.E, e1, fun v1 H1 A1 x1 hc1 g1 g2 E1 s1 fr1 => ?_⟩
          refine ⟨A1, ρ, c1, d2, c2, E1, e2, fun v2 H2 A2 x2 hc2 g3 g4 E2 s2 fr2 => ?_⟩
          refine ⟨v1, v2, rfl, ?_⟩
          have S1 := S.eval x1 E1 g1 g2
          have S2 := S1.eval x2 E2 g3 g4
          have s1' := s1.cross E1.κA x2 g3 g4
          have T1 := S2.set (i := i) hl.1 s1' (S.E.fr fr1) fun hb a hv => S.new0 (fr1 hb a hv)
          have T2 := T1.set (i := j) (by rw [List.length_set]; exact hl.2) s2 ((E1.fr fr2).set fun hb2 hb1 z => by
            subst hb1; subst hb2
            obtain ⟨a, rfl, _⟩ := s2
            exact slot_there (z ▸ s1) (fr2 rfl a rfl)) fun hb a hv => S1.new0 (fr2 hb a hv)
          exact q _ _ ⟨A2, T2⟩
        · cases hf
      · cases hf
    · cases hf
def sPar3 (b1 b2 b3 : Bool) (i j l : Nat) (f1 f2 f3 : Ev) : SF := fun ρ c => match f1 ρ c with
  | some (d1, c1) => match f2 ρ c1 with
    | some (d2, c2) => match f3 ρ c2 with
      | some (d3, c3) => if i < ρ.length ∧ j < ρ.length ∧ l < ρ.length then some (.nx (((ρ.set i (some (b1, d1))).set j (some (b2, d2))).set l (some (b3, d3))) c3) else none
      | none => none
    | none => none
  | none => none
theorem ds_par3 {i j l : Nat} {x y z : Str} {px py pz pt pt2 : Pos} {kt k2} (hN : X.N.Nodup) (hc : X.calm = true) (hx1 : DX X κ b1 e1 f1) (hx2 : DX X κ b2 e2 f2) (hx3 : DX X κ b3 e3 f3)
    (hi : X.N[i]? = some x := by rfl) (hj : X.N[j]? = some y := by rfl) (hl : X.N[l]? = some z := by rfl) (hij : i ≠ j := by decide) (hil : i ≠ l := by decide) (hjl : j ≠ l := by decide)
    (hx : X.env.scope.names.lookup x = some .local := by rfl) (hy : X.env.scope.names.lookup y = some .local := by rfl) (hz : X.env.scope.names.lookup z = some .local := by rfl)
    (hw : swappedStores [.Tuple [.Name x px, .Name y py, .Name z pz] kt pt] (.Tuple [e1, e2, e3] k2 pt2) X.env = pure (some [x, y, z]) := by rfl)
    (hs : swapsWithSole [.Tuple [.Name x px, .Name y py, .Name z pz] kt pt] (.Tuple [e1, e2, e3] k2 pt2) pos.line X.env = pure false := by rfl) (hs1 : starEach [e1, e2, e3] X.env = (false, eval e1 X.env) :: starEach [e2, e3] X.env := by rfl) (hs2 : starEach [e2, e3] X.env = (false, eval e2 X.env) :: starEach [e3] X.env := by rfl)
    (hs3 : starEach [e3] X.env = (false, eval e3 X.env) :: starEach [] X.env := by rfl) :
    DS X κ (.Assign [.Tuple [.Name x px, .Name y py, .Name z pz] kt pt] (.Tuple [e1, e2, e3] k2 pt2) pos) (sPar3 b1 b2 b3 i j l f1 f2 f3) :=
  (ps_par3 hc hN hi hj hl hij hil hjl hx hy hz (pa_cons hx1 (pa_cons hx2 (pa_cons hx3 pa_nil hs3) hs2) hs1) hw hs).imp fun E σ H ⟨A0, H0, ρ, c, o, ⟨A, S⟩, hf, q⟩ => by
    unfold sPar3 at hf
    split at hf
    · rename_i d1 c1 e1
      split at hf
      · rename_i d2 c2 e2
        split at hf
        · rename_i d3 c3 e3
          split at hf
          · rename_i hl
            cases hf
            refine ⟨A, ρ, c, d1, c1, S.E, e1, fun v1 H1 A1 x1 hc1 g1 g2 E1 s1 fr1 => ?_⟩
            refine ⟨A1, ρ, c1, d2, c2, E1, e2, fun v2 H2 A2 x2 hc2 g3 g4 E2 s2 fr2 => ?_⟩
            refine ⟨A2, ρ, c2, d3, c3, E2, e3, fun v3 H3 A3 x3 hc3 g5 g6 E3 s3 fr3 => ?_⟩
            refine ⟨v1, v2, v3, rfl, ?_⟩
            have S1 := S.eval x1 E1 g1 g2
            have S2 := S1.eval x2 E2 g3 g4
            have S3 := S2.eval x3 E3 g5 g6
            have s1' := s1.cross E1.κA x2 g3 g4
            have s1'' := s1'.cross E2.κA x3 g5 g6
            have s2' := s2.cross E2.κA x3 g5 g6
            have T1 := S3.set (i := i) hl.1 s1'' (S.E.fr fr1) fun hb a hv => S.new0 (fr1 hb a hv)
            have T2 := T1.set (i := j) (by rw [List.length_set]; exact hl.2.1) s2' ((E1.fr fr2).set fun hb2 hb1 z => by
              subst hb1; subst hb2
              obtain ⟨a, rfl, _⟩ := s2
              exact slot_there (z ▸ s1) (fr2 rfl a rfl)) fun hb a hv => S1.new0 (fr2 hb a hv)
            have T3 := T2.set (i := l) (by rw [List.length_set, List.length_set]; exact hl.2.2) s3 (((E2.fr fr3).set fun hb3 hb1 z => by
              subst hb1; subst hb3
              obtain ⟨a, rfl, _⟩ := s3
              exact slot_there (z ▸ s1') (fr3 rfl a rfl)).set fun hb3 hb2 z => by
                subst hb2; subst hb3
                obtain ⟨a, rfl, _⟩ := s3
                exact slot_there (z ▸ s2) (fr3 rfl a rfl)) fun hb a hv => S2.new0 (fr3 hb a hv)
            exact q _ _ ⟨A3, T3⟩
          · cases hf
        · cases hf
      · cases hf
    · cases hf
end
end DL
end
section
/-! DLj: loops. -/
namespace DL
open PySem PySem.Spec PyProof.Rows L2

section
variable {B : Bx} {A0 : Addr → Prop} {H0 H H' : Hp} {σ σ' : L2.St} {ρ ρ' : Rho} {c c' : Cup}
def IsOwn (σ : L2.St) (ρ : Rho) (a : Addr) : Prop := ∃ (i : Nat) (d : D), ρ[i]? = some (some (true, d)) ∧ σ[i]? = some (some (.ref a))
/-- a frame within the frame: what stands now and is not one's own is kept -/
theorem SR.trim {A : Addr → Prop} (S : SR B A0 H0 A σ H ρ c) : ∃ A1 H1, SR B A1 H1 A σ H ρ c ∧ (∀ {A2 : Addr → Prop} {σ2 : L2.St} {H2 : Hp} {ρ2 : Rho} {c2 : Cup}, SR B A1 H1 A2 σ2 H2 ρ2 c2 → SR B A0 H0 A2 σ2 H2 ρ2 c2 ∧ Same (cut H A) (cut H2 A2)) ∧ (∀ E o, Fin B A0 H0 E o → Fin B A1 H1 E o) := by
  have ownA : ∀ a, IsOwn σ ρ a → A a ∧ a ≠ B.κ := fun a ⟨i, d, e1, e2⟩ => by
    obtain ⟨v, h3, a', e4, hA, hn, _⟩ := S.E.slot i true d e1
    rw [e2] at h3; cases h3; cases e4
    exact ⟨hA, hn⟩
  have own0 : ∀ a, IsOwn σ ρ a → H0 a = none := fun a ⟨i, d, e1, e2⟩ => S.own i d a e1 e2
  have nown : ∀ a, A0 a → ¬ IsOwn σ ρ a := fun a h z => by
    obtain ⟨o, e⟩ := S.a0 a h
    rw [own0 a z] at e; cases e
  have up : ∀ a o, a ≠ B.κ → H0 a = some o → cut H (IsOwn σ ρ) a = some o := fun a o n e => cut_of (fun z => by rw [own0 a z] at e; cases e) (S.ext a o n e)
  have back : ∀ a, cut H (IsOwn σ ρ) a = none → H0 a = none := fun a e => by
    cases h : H0 a with
    | none => rfl
    | some o =>
      by_cases hk : a = B.κ
      · subst hk
        have : cut H (IsOwn σ ρ) B.κ = some (cupO c) := cut_of (fun z => (ownA _ z).2 rfl) S.E.cup
        rw [this] at e; cases e
      · rw [up a o hk h] at e; cases e
  have conv : ∀ {A2 : Addr → Prop} {σ2 : L2.St} {H2 : Hp} {ρ2 : Rho} {c2 : Cup}, SR B (fun a => A a ∧ ¬ IsOwn σ ρ a) (cut H (IsOwn σ ρ)) A2 σ2 H2 ρ2 c2 → SR B A0 H0 A2 σ2 H2 ρ2 c2 := fun {A2 σ2 H2 ρ2 c2} T =>
    ⟨T.E, fun a h => T.h1 a ⟨S.h1 a h, nown a h⟩, fun a h => (T.h2 a h).elim (fun z => S.h2 a z.1) fun z => .inr (back a z), fun i d a e1 e2 => back a (T.own i d a e1 e2), T.dis, fun a o n e => T.ext a o n (up a o n e), S.a0⟩
  refine ⟨fun a => A a ∧ ¬ IsOwn σ ρ a, cut H (IsOwn σ ρ), ⟨S.E, fun a h => h.1, fun a h => ?_, fun i d a e1 e2 => ?_, S.dis, fun a o n e => (of_cut e).2, fun a h => ?_⟩, fun T => ⟨conv T, fun a o e => ?_⟩, fun E o q => ?_⟩
  · by_cases z : IsOwn σ ρ a
    · right; unfold cut; rw [if_pos z]
    · exact .inl ⟨h, z⟩
  · unfold cut; rw [if_pos ⟨i, d, e1, e2⟩]
  · obtain ⟨o, e, _⟩ := S.E.trk a h.1
    exact ⟨o, cut_of h.2 e⟩
  · obtain ⟨n, e⟩ := of_cut e
    have no : ¬ IsOwn σ ρ a := fun z => n (ownA a z).1
    have e1 : cut H (IsOwn σ ρ) a = some o := cut_of no e
    refine cut_of (fun z => ?_) (T.ext a o (fun z => n (z ▸ S.E.κA)) e1)
    rcases T.h2 a z with z | z
    · exact n z.1
    · rw [e1] at z; cases z
  · cases o with
    | nx ρ' c' => exact fun σ' H' ⟨A', T⟩ => q σ' H' ⟨A', conv T⟩
    | bk ρ' c' => exact fun σ' H' ⟨A', T⟩ => q σ' H' ⟨A', conv T⟩
    | ct ρ' c' => exact fun σ' H' ⟨A', T⟩ => q σ' H' ⟨A', conv T⟩
    | rt d c' => exact fun v H' x hc r => q v H' (fun a o n e => x a o n (up a o n e)) hc (Rep.mono (cut_sub fun a h => ⟨S.h1 a h, nown a h⟩) d v r)
end

/-! ### for -/
def forGo (bd : Bd) (F : SF) : List D → SF
  | [], ρ, c => some (.nx ρ c)
  | d :: ds, ρ, c => match bd ρ d with
    | some ρ1 => match F ρ1 c with
      | some (.nx ρ2 c2) => forGo bd F ds ρ2 c2
      | some (.ct ρ2 c2) => forGo bd F ds ρ2 c2
      | some (.bk ρ2 c2) => some (.nx ρ2 c2)
      | some (.rt r c2) => some (.rt r c2)
      | none => none
    | none => none
def sFor (it : EvL) (bd : Bd) (F : SF) : SF := fun ρ c => match it ρ c with
  | some (ds, c1) => forGo bd F ds ρ c1
  | none => none
def whGo (t : EvB) (F : SF) : Nat → SF
  | 0, _, _ => none
  | n + 1, ρ, c => match t ρ c with
    | some (true, c1) => match F ρ c1 with
      | some (.nx ρ2 c2) => whGo t F n ρ2 c2
      | some (.ct ρ2 c2) => whGo t F n ρ2 c2
      | some (.bk ρ2 c2) => some (.nx ρ2 c2)
      | some (.rt r c2) => some (.rt r c2)
      | none => none
    | some (false, c1) => some (.nx ρ c1)
    | none => none
/-- at most 10^9 turns -/
def sWhile (t : EvB) (F : SF) : SF := fun ρ c => whGo t F 1000000000 ρ c
section
variable {X : Cx} {κ : Addr} {e tg : Expr} {pos : Pos}
theorem ds_for {body : List Stmt} {it : EvL} {sl : List Nat} {bd : Bd} {F : SF} (hp : PassesOwn (model X.prog X.w) X.A X.env X.xe) (hc : X.calm = true) (hi : DI X κ tg e it) (hg : DG X κ tg sl bd) (hb : DSs X κ body F) (hs : ∀ x, foldedSetIterable e X.env x = pure x := by intro _; rfl) :
    DS X κ (.For tg e body [] pos) (sFor it bd F) := (ps_for hp hc hi hg hb hs).imp fun E σ H ⟨A0, H0, ρ, c, o, ⟨A, S⟩, hf, q⟩ => by
  unfold sFor at hf
  split at hf
  · rename_i ds c1 e1
    refine ⟨A, ρ, c, ds, c1, S.E, e1, fun J H1 x1 hc1 itd => ?_⟩
    have S1 := S.eval x1 (S.E.mono x1 hc1) (fun _ h => h) fun _ h => .inl h
    obtain ⟨A1, G1, T, conv, fin⟩ := S1.trim
    refine ⟨fun i m σ2 H2 => m = ds.length - i ∧ i ≤ ds.length ∧ ∃ ρ2 c2, SRel (bx X κ) A1 G1 σ2 H2 ρ2 c2 ∧ forGo bd F (ds.drop i) ρ2 c2 = some o, ⟨ds.length, by simp, Nat.zero_le _, ρ, c1, ⟨A, T⟩, by rw [List.drop_zero]; exact hf⟩, ?_⟩
    rintro i m σ2 H2 ⟨rfl, hil, ρ2, c2, ⟨A2, T2⟩, hgo⟩
    obtain ⟨S2, sm⟩ := conv T2
    obtain ⟨istop, igo⟩ := itd A2 H2 sm (fun p hp h => by
      obtain ⟨o, e, _⟩ := T2.E.trk p h
      rw [hp] at e; cases e) i
    by_cases hlt : i < ds.length
    · have hdi : ds[i]? = some ds[i] := List.getElem?_eq_getElem hlt
      obtain ⟨go, yld⟩ := igo _ hdi
      rw [drop_at hdi] at hgo
      refine .inr ⟨go, fun σ3 H3 => ∃ ρ3 c3, SRel (bx X κ) A1 G1 σ3 H3 ρ3 c3 ∧ forGo bd F (ds.drop (i + 1)) ρ3 c3 = some o, fun σ' H' h => ⟨ds.length - (i + 1), by omega, rfl, hlt, h⟩, fun x H3 y => ?_⟩
      obtain ⟨sm3, rx⟩ := yld x H3 y
      simp only [forGo] at hgo
      split at hgo
      · rename_i ρ3 hb3
        have E3 := T2.E.mono (Same.ext sm3) (sm3 _ _ T2.E.cup)
        have T3 := T2.eval (Same.ext sm3) E3 (fun _ h => h) fun _ h => .inl h
        refine ⟨A2, ρ2, c2, _, ρ3, E3, rx, hb3, fun σ3 st E4 => ?_⟩
        have T4 := T3.stored st E4
        split at hgo
        · rename_i ρ5 c5 h5
          exact ⟨A1, G1, ρ3, c2, _, ⟨A2, T4⟩, h5, fun σ' H' S' => ⟨ρ5, c5, S', hgo⟩⟩
        · rename_i ρ5 c5 h5
          exact ⟨A1, G1, ρ3, c2, _, ⟨A2, T4⟩, h5, fun σ' H' S' => ⟨ρ5, c5, S', hgo⟩⟩
        · rename_i ρ5 c5 h5
          cases hgo
          exact ⟨A1, G1, ρ3, c2, _, ⟨A2, T4⟩, h5, fun σ' H' S' => fin _ _ q σ' H' S'⟩
        · rename_i r5 c5 h5
          cases hgo
          exact ⟨A1, G1, ρ3, c2, _, ⟨A2, T4⟩, h5, fin _ _ q⟩
        · cases hgo
      · cases hgo
    · have hi' : i = ds.length := by omega
      refine .inl ⟨istop (by omega), ?_⟩
      rw [hi', List.drop_length] at hgo
      simp only [forGo] at hgo
      cases hgo
      exact q σ2 H2 ⟨A2, S2⟩
  · cases hf
theorem ds_while {body : List Stmt} {t : EvB} {F : SF} (hp : PassesOwn (model X.prog X.w) X.A X.env X.xe) (ht : DT X κ e t) (hb : DSs X κ body F) : DS X κ (.While e body [] pos) (sWhile t F) := (ps_while hp ht hb).imp fun E σ H ⟨A0, H0, ρ, c, o, S, hf, q⟩ => by
  refine ⟨fun m σ2 H2 => ∃ ρ2 c2, SRel (bx X κ) A0 H0 σ2 H2 ρ2 c2 ∧ whGo t F m ρ2 c2 = some o, ⟨1000000000, ρ, c, S, hf⟩, ?_⟩
  rintro m σ2 H2 ⟨ρ2, c2, ⟨A2, S2⟩, hgo⟩
  cases m with
  | zero => simp only [whGo] at hgo; cases hgo
  | succ m =>
    simp only [whGo] at hgo
    split at hgo
    · rename_i c3 h3
      refine ⟨A2, ρ2, c2, true, c3, S2.E, h3, fun H3 x3 hc3 => iteT ?_⟩
      have S3 := S2.eval x3 (S2.E.mono x3 hc3) (fun _ h => h) fun _ h => .inl h
      refine ⟨fun σ' H' => ∃ ρ2 c2, SRel (bx X κ) A0 H0 σ' H' ρ2 c2 ∧ whGo t F m ρ2 c2 = some o, fun σ' H' h => ⟨m, Nat.lt_succ_self m, h⟩, ?_⟩
      split at hgo
      · rename_i ρ5 c5 h5
        exact ⟨A0, H0, ρ2, c3, _, ⟨A2, S3⟩, h5, fun σ' H' S' => ⟨ρ5, c5, S', hgo⟩⟩
      · rename_i ρ5 c5 h5
        exact ⟨A0, H0, ρ2, c3, _, ⟨A2, S3⟩, h5, fun σ' H' S' => ⟨ρ5, c5, S', hgo⟩⟩
      · rename_i ρ5 c5 h5
        cases hgo
        exact ⟨A0, H0, ρ2, c3, _, ⟨A2, S3⟩, h5, fun σ' H' S' => q σ' H' S'⟩
      · rename_i r5 c5 h5
        cases hgo
        exact ⟨A0, H0, ρ2, c3, _, ⟨A2, S3⟩, h5, q⟩
      · cases hgo
    · rename_i c3 h3
      cases hgo
      refine ⟨A2, ρ2, c2, false, c3, S2.E, h3, fun H3 x3 hc3 => iteF ?_⟩
      exact q σ2 H3 ⟨A2, S2.eval x3 (S2.E.mono x3 hc3) (fun _ h => h) fun _ h => .inl h⟩
    · cases hgo
end
end DL
end
section
/-! DLk: defs by their bodies; the cup; what changes a container of one's own. -/
namespace DL
open PySem PySem.Spec PyProof.Rows L2

def startD (N : Nat) (ds : List D) : Rho := ds.map (fun d => some (false, d)) ++ List.replicate (N - ds.length) none
/-- a def's function: so many arguments, so many names, its body -/
def fD (n N : Nat) (F : SF) : List D → Cup → Option (D × Cup) := fun ds c => if ds.length = n then match F (startD N ds) c with
  | some (.rt d c') => some (d, c')
  | some (.nx _ c') => some (.non, c')
  | _ => none
  else none
theorem startD_erel {B : Bx} {A : Addr → Prop} {H : Hp} {c : Cup} {N : List Str} {ds : List D} {vs : List V} (k : A B.κ) (hc : H B.κ = some (cupO c)) (ht : ∀ a, A a → ∃ o, H a = some o ∧ Mut (some o)) (r : Reps B (cut H A) ds vs) :
    ERel B A (start N vs) H (startD N.length ds) c := by
  have hl := r.length
  refine ⟨by simp [startD, L2.start, hl], k, hc, ht, fun i b d h => ?_⟩
  unfold startD at h
  by_cases hi : i < ds.length
  · rw [List.getElem?_append_left (by simpa using hi), List.getElem?_map, List.getElem?_eq_getElem hi] at h
    simp only [Option.map_some, Option.some.injEq, Prod.mk.injEq] at h
    obtain ⟨rfl, rfl⟩ := h
    obtain ⟨v, hv, rv⟩ := r.get (List.getElem?_eq_getElem hi)
    refine ⟨v, ?_, rv⟩
    unfold L2.start
    rw [List.getElem?_append_left (by simpa [← hl] using hi), List.getElem?_map, hv]
    rfl
  · rw [List.getElem?_append_right (by simpa using hi)] at h
    rw [List.getElem?_replicate] at h
    split at h <;> cases h
theorem startD_own {N : Nat} {ds : List D} {i : Nat} {d : D} (h : (startD N ds)[i]? = some (some (true, d))) : False := by
  unfold startD at h
  by_cases hi : i < ds.length
  · rw [List.getElem?_append_left (by simpa using hi), List.getElem?_map, List.getElem?_eq_getElem hi] at h
    simp at h
  · rw [List.getElem?_append_right (by simpa using hi), List.getElem?_replicate] at h
    split at h <;> cases h
section
variable {P : Program} {w : World} {K : PySem.W.Frag} {mg : Str → Option Value} {base : Heap}
/-- THE RULE for a def -/
theorem fn_D {x qual : Str} {st : Stmt} {f : Addr} {fd : FuncData} {N ps : List Str} {k : Nat} {G : SF} (F : Fun K x qual st f fd) (S : FnScope N ps (defScope st))
    (hbody : ∀ (cdv : Value) (A : Around) (outer : List Env) (s : Shared) (H : Hp) (E : XK) (κ : Addr), Room k (A.deeper (envOfC qual (defScope st) s.heap.objs.size f cdv)) →
      DSs (cxOf CX0 P w K mg base N qual (defScope st) f cdv A outer s H E).nox κ (defBody st) G) : FnOk P w K mg base CX0 (k + 1) f fd ps (spD P w K (fD ps.length N.length G)) := by
  refine F.ok S (fun vs H Q E h => ?_) (fun cdv A outer s H vs Q E hr h => ?_)
  · obtain ⟨κ, A, ds, c, d, c', _, _, _, r, hg, _⟩ := h
    unfold fD at hg
    split at hg
    · rename_i e
      rw [← r.length]; exact e
    · cases hg
  · obtain ⟨κ, A', ds, c, d, c', kA, hc, ht, r, hg, q⟩ := h
    refine ⟨_, hbody cdv A outer s H E κ hr, ?_⟩
    unfold fD at hg
    split at hg
    · have E0 := startD_erel (B := ⟨P, w, K, κ⟩) (N := N) kA hc ht r
      have S0 : SRel ⟨P, w, K, κ⟩ A' H (start N vs) H (startD N.length ds) c := ⟨A', E0, fun _ h => h, fun _ h => .inl h, fun i d a e _ => (startD_own e).elim, fun i j d e a e1 _ _ _ => (startD_own e1).elim, .refl, fun a h => let ⟨o, e, _⟩ := ht a h; ⟨o, e⟩⟩
      split at hg
      · rename_i d2 c2 e2
        cases hg
        exact ⟨A', H, _, c, _, S0, e2, fun v H' x hc' r' => q v H' x hc' r'⟩
      · rename_i ρ2 c2 e2
        cases hg
        refine ⟨A', H, _, c, _, S0, e2, fun σ' H' ⟨A2, S'⟩ => q .non H' S'.ext S'.E.cup (by simp only [Rep])⟩
      · cases hg
    · cases hg
/-- a def, its promise for less -/
theorem fn_D_le {f : Addr} {fd : FuncData} {ps : List Str} {k : Nat} {g g' : List D → Cup → Option (D × Cup)} (F : FnOk P w K mg base CX0 k f fd ps (spD P w K g)) (h : ∀ ds c r, g' ds c = some r → g ds c = some r) : FnOk P w K mg base CX0 k f fd ps (spD P w K g') :=
  F.imp fun vs H Q E ⟨κ, A, ds, c, d, c', h1, h2, h3, h4, h5, h6⟩ => ⟨κ, A, ds, c, d, c', h1, h2, h3, h4, h _ _ _ h5, h6⟩
end

/-! ### the cup -/
section
variable {X : Cx} {κ : Addr} {e : Expr} {f : Ev} {pos : Pos}
def dCup0 (i : Nat) : Ev := fun ρ c => match ρ[i]? with
  | some (some (false, .cup)) => some (.int c.1, c)
  | _ => none
def dCup1 (i : Nat) : Ev := fun ρ c => match ρ[i]? with
  | some (some (false, .cup)) => some (.int c.2, c)
  | _ => none
theorem cup_v {B : Bx} {A : Addr → Prop} {H : Hp} {σ : L2.St} {ρ : Rho} {c : Cup} {i : Nat} (E : ERel B A σ H ρ c) (h : ρ[i]? = some (some (false, .cup))) : σ[i]? = some (some (.ref B.κ)) := by
  obtain ⟨v, h1, h2⟩ := E.slot i false .cup h
  have : v = .ref B.κ := by simpa only [Slot, Rep] using h2
  rw [h1, this]
theorem de_cup0 (i : Nat) {x : Str} {p p2 : Pos} {j} (hN : X.N[i]? = some x := by rfl) (hv : Vis X.env.scope x := by first | exact Or.inl rfl | exact Or.inr (Or.inl rfl) | exact Or.inr (Or.inr rfl)) (hd : (x == ("__debug__" : Str)) = false := by decide)
    (hcd : (x == ("__classdict__" : Str)) = false := by decide) : DE X κ (.Subscript (.Name x p) (.Constant (.int 0) j p2) pos) (dCup0 i) := (pe_ix ix_list (pe_var (pos := p) hN hv hd hcd) pe_int (fun _ _ => rfl)).imp fun σ H Q ⟨A, ρ, c, d, c', E, hf, q⟩ => by
  unfold dCup0 at hf
  split at hf
  · rename_i e1
    cases hf
    refine ⟨_, cup_v E e1, κ, _, 0, .int c.1, rfl, rfl, SqL.of E.cup, rfl, q _ H .refl E.cup (by simp only [Rep])⟩
  · cases hf
theorem de_cup1 (i : Nat) {x : Str} {p p2 : Pos} {j} (hN : X.N[i]? = some x := by rfl) (hv : Vis X.env.scope x := by first | exact Or.inl rfl | exact Or.inr (Or.inl rfl) | exact Or.inr (Or.inr rfl)) (hd : (x == ("__debug__" : Str)) = false := by decide)
    (hcd : (x == ("__classdict__" : Str)) = false := by decide) : DE X κ (.Subscript (.Name x p) (.Constant (.int 1) j p2) pos) (dCup1 i) := (pe_ix ix_list (pe_var (pos := p) hN hv hd hcd) pe_int (fun _ _ => rfl)).imp fun σ H Q ⟨A, ρ, c, d, c', E, hf, q⟩ => by
  unfold dCup1 at hf
  split at hf
  · rename_i e1
    cases hf
    refine ⟨_, cup_v E e1, κ, _, 1, .int c.2, rfl, rfl, SqL.of E.cup, rfl, q _ H .refl E.cup (by simp only [Rep])⟩
  · cases hf
def sCup0 (i : Nat) (f : Ev) : SF := fun ρ c => match f ρ c with
  | some (.int z, c1) => match ρ[i]? with
    | some (some (false, .cup)) => some (.nx ρ (z, c1.2))
    | _ => none
  | _ => none
def sCup1 (i : Nat) (f : Ev) : SF := fun ρ c => match f ρ c with
  | some (.int z, c1) => match ρ[i]? with
    | some (some (false, .cup)) => some (.nx ρ (c1.1, z))
    | _ => none
  | _ => none
theorem SR.cupset {B : Bx} {A0 A : Addr → Prop} {H0 H : Hp} {σ : L2.St} {ρ : Rho} {c c' : Cup} (S : SR B A0 H0 A σ H ρ c) : SR B A0 H0 A σ (upd H B.κ (cupO c')) ρ c' := by
  have x : Ext B.κ H (upd H B.κ (cupO c')) := fun a o n e => by rw [upd_ne n]; exact e
  exact S.eval x (S.E.mono x upd_same) (fun _ h => h) fun _ h => .inl h
theorem ds_cup0 (i : Nat) {x : Str} {p p2 p3 : Pos} {j} (h : DE X κ e f) (hN : X.N[i]? = some x := by rfl) (hv : Vis X.env.scope x := by first | exact Or.inl rfl | exact Or.inr (Or.inl rfl) | exact Or.inr (Or.inr rfl)) (hd : (x == ("__debug__" : Str)) = false := by decide)
    (hcd : (x == ("__classdict__" : Str)) = false := by decide) (hs : swapsWithSole [.Subscript (.Name x p) (.Constant (.int 0) j p2) p3] e pos.line X.env = pure false := by rfl) (hw : swappedStores [.Subscript (.Name x p) (.Constant (.int 0) j p2) p3] e X.env = pure none := by rfl) :
    DS X κ (.Assign [.Subscript (.Name x p) (.Constant (.int 0) j p2) p3] e pos) (sCup0 i f) := (ps_asg h (pg_sub (pe_var (pos := p) hN hv hd hcd) pe_int set_list) hs hw).imp fun E σ H ⟨A0, H0, ρ, c, o, ⟨A, S⟩, hf, q⟩ => by
  unfold sCup0 at hf
  split at hf
  · rename_i z c1 e1
    split at hf
    · rename_i e2
      cases hf
      refine ⟨A, ρ, c, _, c1, S.E, e1, fun v H' x hc r => ?_⟩
      have ev : v = .int z := by simpa only [Rep] using r
      subst ev
      have S1 := S.eval x (S.E.mono x hc) (fun _ h => h) fun _ h => .inl h
      refine ⟨_, cup_v S1.E e2, κ, _, 0, 0, rfl, rfl, hc, rfl, ?_⟩
      exact q _ _ ⟨A, S1.cupset (c' := (z, c1.2))⟩
    · cases hf
  · cases hf
theorem ds_cup1 (i : Nat) {x : Str} {p p2 p3 : Pos} {j} (h : DE X κ e f) (hN : X.N[i]? = some x := by rfl) (hv : Vis X.env.scope x := by first | exact Or.inl rfl | exact Or.inr (Or.inl rfl) | exact Or.inr (Or.inr rfl)) (hd : (x == ("__debug__" : Str)) = false := by decide)
    (hcd : (x == ("__classdict__" : Str)) = false := by decide) (hs : swapsWithSole [.Subscript (.Name x p) (.Constant (.int 1) j p2) p3] e pos.line X.env = pure false := by rfl) (hw : swappedStores [.Subscript (.Name x p) (.Constant (.int 1) j p2) p3] e X.env = pure none := by rfl) :
    DS X κ (.Assign [.Subscript (.Name x p) (.Constant (.int 1) j p2) p3] e pos) (sCup1 i f) := (ps_asg h (pg_sub (pe_var (pos := p) hN hv hd hcd) pe_int set_list) hs hw).imp fun E σ H ⟨A0, H0, ρ, c, o, ⟨A, S⟩, hf, q⟩ => by
  unfold sCup1 at hf
  split at hf
  · rename_i z c1 e1
    split at hf
    · rename_i e2
      cases hf
      refine ⟨A, ρ, c, _, c1, S.E, e1, fun v H' x hc r => ?_⟩
      have ev : v = .int z := by simpa only [Rep] using r
      subst ev
      have S1 := S.eval x (S.E.mono x hc) (fun _ h => h) fun _ h => .inl h
      refine ⟨_, cup_v S1.E e2, κ, _, 1, 1, rfl, rfl, hc, rfl, ?_⟩
      exact q _ _ ⟨A, S1.cupset (c' := (c1.1, z))⟩
    · cases hf
  · cases hf
end

/-! ### what changes a container of one's own -/
abbrev EvM := Rho → Cup → Option (D × Rho × Cup)
def tM (B : Bx) (f : EvM) : TE := fun σ H Q => ∃ A0 H0 A ρ c d ρ' c', SR B A0 H0 A σ H ρ c ∧ f ρ c = some (d, ρ', c') ∧ ∀ v H', SR B A0 H0 A σ H' ρ' c' → Rep B (cut H' A) d v → Q v H'
abbrev DM (X : Cx) (κ : Addr) (e : Expr) (f : EvM) : Prop := PE X e (tM (bx X κ) f)
section
variable {X : Cx} {κ : Addr} {e : Expr} {f : EvM} {pos : Pos}
def sDropM (f : EvM) : SF := fun ρ c => match f ρ c with
  | some (_, ρ', c') => some (.nx ρ' c')
  | none => none
theorem ds_exprM (h : DM X κ e f) (hs : swapsWith e none pos.line X.env = pure false := by rfl) : DS X κ (.Expr e pos) (sDropM f) := (ps_expr h hs).imp fun E σ H ⟨A0, H0, ρ, c, o, ⟨A, S⟩, hf, q⟩ => by
  unfold sDropM at hf
  split at hf
  · rename_i d ρ' c' e1
    cases hf
    exact ⟨A0, H0, A, ρ, c, d, ρ', c', S, e1, fun v H' S' _ => q σ H' ⟨A, S'⟩⟩
  · cases hf
def sSetM (i : Nat) (f : EvM) : SF := fun ρ c => match f ρ c with
  | some (d, ρ', c') => if i < ρ'.length then some (.nx (ρ'.set i (some (false, d))) c') else none
  | none => none
theorem ds_setM {i : Nat} {x : Str} {pos' : Pos} (hN : X.N.Nodup) (h : DM X κ e f) (hi : X.N[i]? = some x := by rfl) (hx : Loc X.env.scope x := by first | exact Or.inl rfl | exact Or.inr rfl) (hs : swapsWith e (some (.Name x pos')) pos.line X.env = pure false := by rfl) (hf : X.fn x = true ∨ X.env.scope.names.lookup x = some .local := by first | exact .inl rfl | exact .inr rfl | assumption) :
    DS X κ (.Assign [.Name x pos'] e pos) (sSetM i f) := (ps_set hN hi hx h hs hf).imp fun E σ H ⟨A0, H0, ρ, c, o, ⟨A, S⟩, hf, q⟩ => by
  unfold sSetM at hf
  split at hf
  · rename_i d ρ' c' e1
    split at hf
    · rename_i hl
      cases hf
      exact ⟨A0, H0, A, ρ, c, d, ρ', c', S, e1, fun v H' S' r => q _ _ ⟨A, S'.set hl r (fun z => by cases z) fun z => by cases z⟩⟩
    · cases hf
  · cases hf
def sAsgM (f : EvM) (bd : Bd) : SF := fun ρ c => match f ρ c with
  | some (d, ρ', c') => match bd ρ' d with
    | some ρ2 => some (.nx ρ2 c')
    | none => none
  | none => none
theorem ds_asgM {tg : Expr} {sl : List Nat} {bd : Bd} (h : DM X κ e f) (hg : DG X κ tg sl bd) (hs : swapsWithSole [tg] e pos.line X.env = pure false := by rfl) (hw : swappedStores [tg] e X.env = pure none := by rfl)
    (h1 : (assignEach [tg] X.env).map (·.2) = [assign tg X.env] := by rfl) : DS X κ (.Assign [tg] e pos) (sAsgM f bd) := (ps_asg h hg hs hw h1).imp fun E σ H ⟨A0, H0, ρ, c, o, ⟨A, S⟩, hf, q⟩ => by
  unfold sAsgM at hf
  split at hf
  · rename_i d ρ' c' e1
    split at hf
    · rename_i ρ2 e2
      cases hf
      exact ⟨A0, H0, A, ρ, c, d, ρ', c', S, e1, fun v H' S' r => ⟨A, ρ', c', d, ρ2, S'.E, r, e2, fun σ' st E' => q σ' H' ⟨A, S'.stored st E'⟩⟩⟩
    · cases hf
  · cases hf
/-! lists -/
def mApp (i : Nat) (f : Ev) : EvM := fun ρ c => match f ρ c with
  | some (d, c') => match ρ[i]? with
    | some (some (true, .lst ds)) => if ds.length < lim then some (.non, ρ.set i (some (true, .lst (ds ++ [d]))), c') else none
    | _ => none
  | none => none
/-- the own list at slot i -/
theorem SR.lst {B : Bx} {A0 A : Addr → Prop} {H0 H : Hp} {σ : L2.St} {ρ : Rho} {c : Cup} {i : Nat} {ds : List D} (S : SR B A0 H0 A σ H ρ c) (h : ρ[i]? = some (some (true, .lst ds))) :
    ∃ a vs, σ[i]? = some (some (.ref a)) ∧ A a ∧ a ≠ B.κ ∧ H a = some (.lst vs) ∧ Reps B (cut H A) ds vs := by
  obtain ⟨v, h1, a, rfl, hA, hn, vs, e, r⟩ := S.E.slot i true _ h
  exact ⟨a, vs, h1, hA, hn, e, r⟩
theorem SR.lset {B : Bx} {A0 A : Addr → Prop} {H0 H : Hp} {σ : L2.St} {ρ : Rho} {c : Cup} {i : Nat} {ds ds' : List D} {a : Addr} {vs' : List V} (S : SR B A0 H0 A σ H ρ c) (h : ρ[i]? = some (some (true, .lst ds))) (hσ : σ[i]? = some (some (.ref a))) (hA : A a) (hn : a ≠ B.κ) (r : Reps B (cut H A) ds' vs') :
    SR B A0 H0 A σ (upd H a (.lst vs')) (ρ.set i (some (true, .lst ds'))) c :=
  S.change h hσ trivial hn ⟨vs', upd_same, Reps.mono (fun b o e => by
    obtain ⟨n, e⟩ := of_cut e
    exact cut_of n (by rw [upd_ne (by rintro rfl; exact n hA)]; exact e)) _ _ r⟩
theorem dm_app {fe : Ev} (i : Nat) {x : Str} {p apos cpos : Pos} (he : DE X κ e fe) (hN : X.N[i]? = some x := by rfl) (hv : Vis X.env.scope x := by first | exact Or.inl rfl | exact Or.inr (Or.inl rfl) | exact Or.inr (Or.inr rfl)) (hd : (x == ("__debug__" : Str)) = false := by decide)
    (hcd : (x == ("__classdict__" : Str)) = false := by decide)
    (hbase : attributeBase (.Name x p) "append" X.env (eval (.Name x p) X.env) = eval (.Name x p) X.env := by rfl)
    (hfew : ((backTo cpos (starEach [e] X.env)).all (fun x => !x.1) && (backToKw cpos (keywordEach [] X.env)).all (fun x => x.1.isSome)
      && decide ([e].length + ([] : List Keyword).length + (if ([] : List Keyword).isEmpty then 0 else 1) < 30)) = true := by rfl)
    (hline : (apos.endLine == cpos.line) = true := by rfl) (hs : starEach [e] X.env = (false, eval e X.env) :: starEach [] X.env := by rfl) (hplain : (backTo cpos (starEach [] X.env)).any (·.1) = false := by rfl) :
    DM X κ (.Call (.Attribute (.Name x p) "append" apos) [e] [] cpos) (mApp i fe) :=
  (pe_bm PySem.F.plainAttrs_list PySem.F.slot_list_append PySem.F.type_list_append mt_append (pe_var hN hv hd hcd) (pa_cons he pa_nil hs) hbase hfew hline hs hplain).imp fun σ H Q ⟨A0, H0, A, ρ, c, d, ρ', c', S, hf, q⟩ => by
    unfold mApp at hf
    split at hf
    · rename_i d1 c1 e1
      split at hf
      · rename_i ds e2
        split at hf
        · rename_i hl
          cases hf
          obtain ⟨a, vs, h1, hA, hn, h2, _⟩ := S.lst e2
          refine ⟨_, h1, .inl ⟨rfl, vs, SqL.of h2⟩, A, ρ, c, d1, _, S.E, e1, fun v H' x hc r => ?_⟩
          have S' := S.eval x (S.E.mono x hc) (fun _ h => h) fun _ h => .inl h
          have h3 := x a _ hn h2
          obtain ⟨a', vs', h1', _, _, h2', rs⟩ := S'.lst e2
          rw [h1] at h1'; cases h1'
          rw [h3] at h2'; cases h2'
          refine ⟨a, vs, v, rfl, rfl, h3, ?_, q _ _ (S'.lset e2 h1 hA hn (rs.append (.cons r .nil))) (by simp only [Rep])⟩
          rw [← rs.length]
          exact Nat.lt_of_lt_of_le hl (lim_line (Nat.le_refl lim))
        · cases hf
      · cases hf
    · cases hf
end
end DL
end
section
/-! DLl: and, or, not, if-else; *; built-in functions. -/
namespace DL
open PySem PySem.Spec PyProof.Rows L2

/-! ### tests -/
def dAnd (f g : EvB) : EvB := fun ρ c => match f ρ c with
  | some (true, c1) => g ρ c1
  | some (false, c1) => some (false, c1)
  | none => none
def dOr (f g : EvB) : EvB := fun ρ c => match f ρ c with
  | some (true, c1) => some (true, c1)
  | some (false, c1) => g ρ c1
  | none => none
def dNot (f : EvB) : EvB := fun ρ c => match f ρ c with
  | some (b, c1) => some (!b, c1)
  | none => none
/-- a test as a value -/
def dBl (f : EvB) : Ev := fun ρ c => match f ρ c with
  | some (b, c1) => some (.bl b, c1)
  | none => none
def dIf (t : EvB) (f g : Ev) : Ev := fun ρ c => match t ρ c with
  | some (true, c1) => f ρ c1
  | some (false, c1) => g ρ c1
  | none => none
section
variable {X : Cx} {κ : Addr} {a b e : Expr} {es : List Expr} {f g t : EvB} {fe ge : Ev} {pos : Pos}
theorem dw_and1 (h : DT X κ a f) : DW X κ (.BoolOp .And [a] pos) f := pw_and1 h
theorem dw_or1 (h : DT X κ a f) : DW X κ (.BoolOp .Or [a] pos) f := pw_or1 h
theorem dw_and (h : DT X κ a f) (h2 : DW X κ (.BoolOp .And (b :: es) pos) g) : DW X κ (.BoolOp .And (a :: b :: es) pos) (dAnd f g) := (pw_and h h2).imp fun σ H Q ⟨A, ρ, c, r, c', E, hf, q⟩ => by
  unfold dAnd at hf
  split at hf
  · rename_i c1 e1
    exact ⟨A, ρ, c, true, c1, E, e1, fun H1 x1 hc1 => iteT ⟨A, ρ, c1, r, c', E.mono x1 hc1, hf, fun H2 x2 hc2 => q H2 (x1.trans x2) hc2⟩⟩
  · rename_i c1 e1
    cases hf
    exact ⟨A, ρ, c, false, _, E, e1, fun H1 x1 hc1 => iteF (q H1 x1 hc1)⟩
  · cases hf
theorem dw_or (h : DT X κ a f) (h2 : DW X κ (.BoolOp .Or (b :: es) pos) g) : DW X κ (.BoolOp .Or (a :: b :: es) pos) (dOr f g) := (pw_or h h2).imp fun σ H Q ⟨A, ρ, c, r, c', E, hf, q⟩ => by
  unfold dOr at hf
  split at hf
  · rename_i c1 e1
    cases hf
    exact ⟨A, ρ, c, true, _, E, e1, fun H1 x1 hc1 => iteT (q H1 x1 hc1)⟩
  · rename_i c1 e1
    exact ⟨A, ρ, c, false, c1, E, e1, fun H1 x1 hc1 => iteF ⟨A, ρ, c1, r, c', E.mono x1 hc1, hf, fun H2 x2 hc2 => q H2 (x1.trans x2) hc2⟩⟩
  · cases hf
theorem dt_w {op : BoolOp} {vs : List Expr} (h : DW X κ (.BoolOp op vs pos) f) : DT X κ (.BoolOp op vs pos) f := ⟨fun pins s σ H Q I q => h.run _ pins s σ H Q I q⟩
theorem dt_not (h : DT X κ a f) : DT X κ (.UnaryOp .Not a pos) (dNot f) := (pt_not h).imp fun σ H Q ⟨A, ρ, c, r, c', E, hf, q⟩ => by
  unfold dNot at hf
  split at hf
  · rename_i b1 c1 e1
    cases hf
    exact ⟨A, ρ, c, b1, _, E, e1, fun H1 x1 hc1 => q H1 x1 hc1⟩
  · cases hf
/-! .. as values: the parts are bools -/
theorem de_one {op : BoolOp} (h : DE X κ a fe) : DE X κ (.BoolOp op [a] pos) fe := pe_one h
theorem de_and (h : DE X κ a fe) (h2 : DE X κ (.BoolOp .And (b :: es) pos) ge) : DE X κ (.BoolOp .And (a :: b :: es) pos) (dIf (dTest fe) ge (dC (.bl false))) := (pe_and h h2).imp fun σ H Q ⟨A, ρ, c, r, c', E, hf, q⟩ => by
  unfold dIf at hf
  split at hf
  · rename_i c1 e1
    refine ⟨A, ρ, c, _, c1, E, dTest_some e1, fun v H1 x1 hc1 rv => ⟨true, by simpa only [Rep] using rv, iteT ⟨A, ρ, c1, r, c', E.mono x1 hc1, hf, fun v2 H2 x2 hc2 r2 => q v2 H2 (x1.trans x2) hc2 r2⟩⟩⟩
  · rename_i c1 e1
    cases hf
    refine ⟨A, ρ, c, _, _, E, dTest_some e1, fun v H1 x1 hc1 rv => ⟨false, by simpa only [Rep] using rv, iteF (q _ H1 x1 hc1 rep_bl)⟩⟩
  · cases hf
theorem de_or (h : DE X κ a fe) (h2 : DE X κ (.BoolOp .Or (b :: es) pos) ge) : DE X κ (.BoolOp .Or (a :: b :: es) pos) (dIf (dTest fe) (dC (.bl true)) ge) := (pe_or h h2).imp fun σ H Q ⟨A, ρ, c, r, c', E, hf, q⟩ => by
  unfold dIf at hf
  split at hf
  · rename_i c1 e1
    cases hf
    refine ⟨A, ρ, c, _, _, E, dTest_some e1, fun v H1 x1 hc1 rv => ⟨true, by simpa only [Rep] using rv, iteT (q _ H1 x1 hc1 rep_bl)⟩⟩
  · rename_i c1 e1
    refine ⟨A, ρ, c, _, c1, E, dTest_some e1, fun v H1 x1 hc1 rv => ⟨false, by simpa only [Rep] using rv, iteF ⟨A, ρ, c1, r, c', E.mono x1 hc1, hf, fun v2 H2 x2 hc2 r2 => q v2 H2 (x1.trans x2) hc2 r2⟩⟩⟩
  · cases hf
theorem de_not (h : DE X κ a fe) : DE X κ (.UnaryOp .Not a pos) (dBl (dNot (dTest fe))) := (pe_not h).imp fun σ H Q ⟨A, ρ, c, r, c', E, hf, q⟩ => by
  unfold dBl dNot at hf
  split at hf
  · rename_i b1 c1 e1
    split at e1
    · rename_i b2 c2 e2
      cases e1
      cases hf
      exact ⟨A, ρ, c, _, _, E, dTest_some e2, fun v H1 x1 hc1 rv => ⟨b2, by simpa only [Rep] using rv, q _ H1 x1 hc1 rep_bl⟩⟩
    · cases e1
  · cases hf
theorem de_ife (ht : DT X κ e t) (h1 : DE X κ a fe) (h2 : DE X κ b ge) : DE X κ (.IfExp e a b pos) (dIf t fe ge) := (pe_ifExp ht h1 h2).imp fun σ H Q ⟨A, ρ, c, r, c', E, hf, q⟩ => by
  unfold dIf at hf
  split at hf
  · rename_i c1 e1
    exact ⟨A, ρ, c, true, c1, E, e1, fun H1 x1 hc1 => iteT ⟨A, ρ, c1, r, c', E.mono x1 hc1, hf, fun v H2 x2 hc2 r2 => q v H2 (x1.trans x2) hc2 r2⟩⟩
  · rename_i c1 e1
    exact ⟨A, ρ, c, false, c1, E, e1, fun H1 x1 hc1 => iteF ⟨A, ρ, c1, r, c', E.mono x1 hc1, hf, fun v H2 x2 hc2 r2 => q v H2 (x1.trans x2) hc2 r2⟩⟩
  · cases hf
/-! -i -/
def dNeg (f : Ev) : Ev := fun ρ c => match f ρ c with
  | some (.int i, c1) => some (.int (-i), c1)
  | _ => none
theorem de_neg (h : DE X κ a fe) : DE X κ (.UnaryOp .USub a pos) (dNeg fe) := (pe_un un_neg h).imp fun σ H Q ⟨A, ρ, c, r, c', E, hf, q⟩ => by
  unfold dNeg at hf
  split at hf
  · rename_i i c1 e1
    cases hf
    exact ⟨A, ρ, c, _, _, E, e1, fun v H1 x1 hc1 rv => ⟨i, by simpa only [Rep] using rv, q _ H1 x1 hc1 rep_int⟩⟩
  · cases hf
end

/-! ### * -/
def fits64 (i : Int) : Bool := decide (-(2 ^ 64) < i ∧ i < 2 ^ 64)
def opMult : D → D → Option D
  | .int i, .int j => if fits64 i || fits64 j then some (.int (i * j)) else none
  | .lst xs, .int k => if k ≤ 1000000 ∧ -1000000 ≤ k ∧ xs.length * k.toNat ≤ lim then some (.lst (List.replicate k.toNat xs).flatten) else none
  | .tup xs, .int k => if xs.length ≠ 0 ∧ 2 ≤ k ∧ k ≤ 1000 ∧ xs.length ≤ 1000 then some (.tup (List.replicate k.toNat xs).flatten) else none
  | .str s, .int k => if 1 ≤ k ∧ k ≤ 1000 ∧ s.length ≤ 1000 ∧ s.length ≠ 0 then some (.str (if k = 1 then s else ⟨(List.replicate k.toNat s.cps).foldl (· ++ ·) #[]⟩)) else none
  | _, _ => none
theorem op_multD {X : Cx} {κ : Addr} : OpR X (binaryOp .Mult) (rD (bx X κ) opMult) := by
  rintro pins s σ H x y v u Q I rx ry ⟨A, b1, b2, d1, d2, d, fr, s1, s2, hg, q⟩
  unfold opMult at hg
  split at hg
  · split at hg
    · rename_i i j hf
      cases hg
      refine op_mul pins s σ H x y v u Q I rx ry ⟨i, j, s1.int_inv, s2.int_inv, ?_, q _ _ (Same.refl _) rep_int⟩
      simp only [Bool.or_eq_true, fits64, decide_eq_true_eq] at hf
      exact hf
    · cases hg
  · split at hg
    · rename_i xs k hk
      cases hg
      obtain ⟨a, vs, e1, h1, r1⟩ := s1.lst_inv
      refine op_rep pins s σ H x y v u Q I rx ry ⟨a, k, vs, e1, s2.int_inv, h1, by omega, by omega, ?_, fun p hp => q _ _ (same_upd hp) (rep_new_lst hp (fr p hp) (r1.rep _))⟩
      rw [← r1.length]
      exact lim_line hk.2.2
    · cases hg
  · split at hg
    · rename_i xs k hk
      cases hg
      obtain ⟨a, vs, e1, h1, r1⟩ := s1.tup_inv
      have hl := r1.length
      exact op_repT pins s σ H x y v u Q I rx ry ⟨a, k, vs, e1, s2.int_inv, h1, (fun z => by subst z; exact hk.1 hl), hk.2.1, hk.2.2.1, by omega, fun p hp => q _ _ (same_upd hp) (rep_new_tup hp (fr p hp) (r1.rep _))⟩
    · cases hg
  · split at hg
    · rename_i z k hk
      cases hg
      have e1 := s1.str_inv
      have e2 := s2.int_inv
      subst e1 e2
      obtain ⟨t, rfl⟩ := rx
      obtain ⟨t', rfl⟩ := ry
      have hm : (z.length : Int) * k ≤ 1000 * 1000 := Int.mul_le_mul (by omega) (by omega) (by omega) (by omega)
      have hmn : z.length * k.toNat ≤ 1000 * 1000 := Nat.mul_le_mul (by omega) (by omega)
      have c2 : Builtin.Str.tooLong (z.length * k.toNat) = false := by
        unfold Builtin.Str.tooLong
        exact decide_eq_false (by rw [sizeLine_eq]; omega)
      refine PySem.P.mul_str ?_ (fun _ _ => ?_) (fun _ _ => c2) ?_
      · rw [decide_eq_false (by omega), decide_eq_false (by omega)] <;> rfl
      · have : k * (z.length : Int) ≤ 2 ^ 63 - 1 := by rw [Int.mul_comm]; omega
        have := (Int.le_ediv_iff_mul_le (show (0 : Int) < k by omega)).mpr (show (z.length : Int) * k ≤ 2 ^ 63 - 1 by omega)
        omega
      · rw [if_neg (by omega)]
        by_cases hk1 : k = 1
        · subst hk1
          rw [if_pos (by rfl)]
          exact ⟨.str z, H, I, ⟨t, rfl⟩, q _ _ (Same.refl _) rep_str⟩
        · have c1 : (k == 1 || z.length == 0) = false := by
            rw [Bool.or_eq_false_iff]
            exact ⟨beq_eq_false_iff_ne.mpr hk1, beq_eq_false_iff_ne.mpr hk.2.2.2⟩
          rw [c1, if_neg (by decide)]
          rw [if_neg hk1] at q
          exact ⟨fits_reps c2, ⟨.str _, H, I.tok _, ⟨_, rfl⟩, q _ _ (Same.refl _) rep_str⟩⟩
    · cases hg
  · cases hg
end DL
end
section
/-! DLm: built-in functions. -/
namespace DL
open PySem PySem.Spec PyProof.Rows L2

/-- a built-in's reading: the value that comes back -/
def rBD (B : Bx) (g : List D → Option D) : List V → Hp → VK → Prop := fun vs H Q => ∃ (A : Addr → Prop) (ds : List D) (d : D), (∀ p, H p = none → ¬ A p) ∧ Paired (fun d v => ∃ b, Slot B A H b d v) ds vs ∧ g ds = some d ∧ ∀ v H', Same H H' → Rep B (cut H' A) d v → Q v H'
/-- .. a new list -/
def rBN (B : Bx) (g : List D → Option (List D)) : List V → Hp → VK → Prop := fun vs H Q => ∃ (A : Addr → Prop) (ds : List D) (ds' : List D), (∀ p, H p = none → ¬ A p) ∧ Paired (fun d v => ∃ b, Slot B A H b d v) ds vs ∧ g ds = some ds' ∧
  ∀ p vs', H p = none → Reps B (cut H A) ds' vs' → Q (.ref p) (upd H p (.lst vs'))
def dBi (g : List D → Option D) (fs : EvL) : Ev := fun ρ c => match fs ρ c with
  | some (ds, c1) => match g ds with
    | some d => some (d, c1)
    | none => none
  | none => none
def dBn (g : List D → Option (List D)) (fs : EvL) : Ev := fun ρ c => match fs ρ c with
  | some (ds, c1) => match g ds with
    | some d => some (.lst d, c1)
    | none => none
  | none => none
section
variable {X : Cx} {κ : Addr} {e : Expr} {es : List Expr} {fs : EvL} {g : List D → Option D} {gn : List D → Option (List D)} {x : Str} {p pos : Pos} {id T : String}
theorem tCB_D (σ : L2.St) (H : Hp) (Q : VK) (h : tD (bx X κ) (dBi g fs) σ H Q) : tCB (rBD (bx X κ) g) (tPA (bx X κ) fs) σ H Q := by
  obtain ⟨A, ρ, c, d, c', E, hf, q⟩ := h
  unfold dBi at hf
  split at hf
  · rename_i ds c1 e1
    split at hf
    · rename_i d2 e2
      cases hf
      refine ⟨A, ρ, c, ds, _, E, e1, fun vs H1 x1 hc1 sl => ⟨A, ds, d, fun p hp => (E.mono x1 hc1).fresh hp, sl, e2, fun v H2 sm r => q v H2 (x1.trans (Same.ext sm)) (sm _ _ hc1) r⟩⟩
    · cases hf
  · cases hf
theorem tCB_N (σ : L2.St) (H : Hp) (Q : VK) (h : tN (bx X κ) (dBn gn fs) σ H Q) : tCB (rBN (bx X κ) gn) (tPA (bx X κ) fs) σ H Q := by
  obtain ⟨A, ρ, c, d, c', E, hf, q⟩ := h
  unfold dBn at hf
  split at hf
  · rename_i ds c1 e1
    split at hf
    · rename_i d2 e2
      cases hf
      refine ⟨A, ρ, c, ds, _, E, e1, fun vs H1 x1 hc1 sl => ⟨A, ds, d2, fun p hp => (E.mono x1 hc1).fresh hp, sl, e2, fun p vs' hp r => ?_⟩⟩
      have hp0 : H p = none := by
        cases e : H p with
        | none => rfl
        | some o =>
          by_cases hk : p = κ
          · subst hk; rw [hp] at hc1; cases hc1
          · rw [x1 p o hk e] at hp; cases hp
      refine q p _ (x1.trans (Same.ext (same_upd hp))) (upd_cup hp hc1) hp0 ⟨vs', upd_same, Reps.mono (fun b o e => ?_) _ _ r⟩ ⟨_, upd_same, trivial⟩
      obtain ⟨n, e⟩ := of_cut e
      have hb : b ≠ p := ne_of_none e hp
      exact cut_of (fun z => z.elim n hb) (by rw [upd_ne hb]; exact e)
    · cases hf
  · cases hf
theorem de_bi (hc : CallR X (.builtin id) (rBD (bx X κ) g)) (hg : Gl X x) (hm : X.mg x = none) (hv : bootBuiltins x = some (.builtin id)) (ha : DPA X κ (e :: es) fs) (hn : x ≠ "__name__" := by decide) (hdb : (x == ("__debug__" : Str)) = false := by decide)
    (he : starEach (e :: es) X.env = (false, eval e X.env) :: starEach es X.env := by rfl) (hpl : (backTo pos (starEach es X.env)).any (·.1) = false := by rfl) : DE X κ (.Call (.Name x p) (e :: es) [] pos) (dBi g fs) :=
  (pe_callB hc hg hm hv ha hn hdb he hpl).imp tCB_D
theorem de_ty (hc : CallR X (.type T) (rBD (bx X κ) g)) (hg : Gl X x) (hm : X.mg x = none) (hv : bootBuiltins x = some (.type T)) (ha : DPA X κ (e :: es) fs) (hn : x ≠ "__name__" := by decide) (hdb : (x == ("__debug__" : Str)) = false := by decide)
    (he : starEach (e :: es) X.env = (false, eval e X.env) :: starEach es X.env := by rfl) (hpl : (backTo pos (starEach es X.env)).any (·.1) = false := by rfl) : DE X κ (.Call (.Name x p) (e :: es) [] pos) (dBi g fs) :=
  (pe_callTy hc hg hm hv ha hn hdb he hpl).imp tCB_D
theorem dn_bi (hc : CallR X (.builtin id) (rBN (bx X κ) gn)) (hg : Gl X x) (hm : X.mg x = none) (hv : bootBuiltins x = some (.builtin id)) (ha : DPA X κ (e :: es) fs) (hn : x ≠ "__name__" := by decide) (hdb : (x == ("__debug__" : Str)) = false := by decide)
    (he : starEach (e :: es) X.env = (false, eval e X.env) :: starEach es X.env := by rfl) (hpl : (backTo pos (starEach es X.env)).any (·.1) = false := by rfl) : DN X κ (.Call (.Name x p) (e :: es) [] pos) (dBn gn fs) :=
  (pe_callB hc hg hm hv ha hn hdb he hpl).imp tCB_N
theorem dn_ty (hc : CallR X (.type T) (rBN (bx X κ) gn)) (hg : Gl X x) (hm : X.mg x = none) (hv : bootBuiltins x = some (.type T)) (ha : DPA X κ (e :: es) fs) (hn : x ≠ "__name__" := by decide) (hdb : (x == ("__debug__" : Str)) = false := by decide)
    (he : starEach (e :: es) X.env = (false, eval e X.env) :: starEach es X.env := by rfl) (hpl : (backTo pos (starEach es X.env)).any (·.1) = false := by rfl) : DN X κ (.Call (.Name x p) (e :: es) [] pos) (dBn gn fs) :=
  (pe_callTy hc hg hm hv ha hn hdb he hpl).imp tCB_N
end

/-! ### len -/
def biLen : List D → Option D
  | [.lst ds] => some (.int ds.length)
  | [.tup ds] => some (.int ds.length)
  | [.str s] => if s.length ≤ lim then some (.int s.length) else none
  | [.dic ks _] => some (.int ks.length)
  | _ => none
theorem slot1 {B : Bx} {A : Addr → Prop} {H : Hp} {d : D} {vs : List V} (h : Paired (fun d v => ∃ b, Slot B A H b d v) [d] vs) : ∃ b v, vs = [v] ∧ Slot B A H b d v := by
  cases h with
  | cons h t =>
    cases t
    obtain ⟨b, s⟩ := h
    exact ⟨b, _, rfl, s⟩
theorem len_raw {prog : Program} {w : World} {A : Around} {E : Value → Shared → Prop} {s : Shared} {d : Addr} {es : Array DictEntry} {ep : Nat} {Q : Value → Shared → Prop} (hd : (d == sysModules) = false) (hm : s.heap.DictRaw d es ep) (hfit : (es.size : Int) < 2 ^ 63)
    (h : Q (.int es.size (s.toks + 1)) { s with toks := s.toks + 1 + 1 }) : wpAny (model prog w) A (call (.builtin "len") [.ref d]) Q E s := by
  refine Calls.call_function_entry kind_len plain_len entry_len (args_len1 _) ?_
  obtain ⟨o, ho, hx, hdat⟩ := id hm
  have ml : MeetsIn prog w (Builtin.«dict.__len__» ⟨[.ref d], []⟩) (fun _ R s => s.heap.DictRaw d es ep ∧ R (.ok (.ret (.int es.size s.toks))) { s with toks := s.toks + 1 }) := .of_wp fun A R s ⟨hm, h⟩ => by
    obtain ⟨o, ho, hx, hdat⟩ := hm
    show wpAny _ _ (dictSize d >>= _) _ _ s
    unfold dictSize
    refine wpAny_bind (wpAny_bind (wpAny_dictEntries ho hdat (wpAny_pure ?_)))
    show wpAny _ _ (Builtin.Dict.pendingCount d >>= _) _ _ s
    refine wpAny_bind (wpAny_pendingCount_other hd ?_)
    refine wpAny_ret_mkInt ?_
    rw [Nat.add_zero]; exact h
  unfold Builtin.«len»
  refine wpAny_bind (m := oneArg "len" _) (wpAny_pure ?_)
  refine wpAny_bind (m := callSpecial? (.ref d) (Str.ofString "__len__")) (wpAny_callSpecial?_slot (name := Str.ofString "__len__") hm.typeIs F.slot_dict_len
    (call_meetsIn F.slot_dict_len hm.typeIs F.entry_dict_len (F.args_dict_len_1 _) ml ⟨hm, ?_⟩))
  show wpAny _ _ _ _ _ { s with toks := s.toks + 1 }
  refine wpAny_bind (wpAny_holding (wpAny_pure ?_))
  refine wpAny_bind (wpAny_letGo ?_)
  show wpAny _ _ (if ((es.size : Nat) : Int) < 0 then _ else _) _ _ _
  rw [if_neg (by omega)]
  show wpAny _ _ (if ((es.size : Nat) : Int) ≥ 2 ^ 63 then _ else _) _ _ _
  rw [if_neg (by omega)]
  exact wpAny_bind (wpAny_mkInt (wpAny_pure ⟨_, rfl, h⟩))
section
variable {X : Cx} {κ : Addr}
theorem ci_len : CallR X (.builtin "len") (rBD (bx X κ) biLen) := by
  rintro pins s σ H vs us Q I r ⟨A, ds, d, fr, sl, hg, q⟩
  unfold biLen at hg
  split at hg
  · cases hg
    obtain ⟨b, v, rfl, s1⟩ := slot1 sl
    obtain ⟨a, ws, rfl, h1, r1⟩ := s1.lst_inv
    exact call_len_seq pins s σ H _ us Q I r ⟨a, ws, rfl, .inl (SqL.of h1), by rw [← r1.length]; exact q _ _ (Same.refl _) rep_int⟩
  · cases hg
    obtain ⟨b, v, rfl, s1⟩ := slot1 sl
    obtain ⟨a, ws, rfl, h1, r1⟩ := s1.tup_inv
    exact call_len_seq pins s σ H _ us Q I r ⟨a, ws, rfl, .inr h1, by rw [← r1.length]; exact q _ _ (Same.refl _) rep_int⟩
  · split at hg
    · rename_i z hz
      cases hg
      obtain ⟨b, v, rfl, s1⟩ := slot1 sl
      rw [s1.str_inv] at r
      exact call_len_str pins s σ H _ us Q I r ⟨z, rfl, lim_line hz, q _ _ (Same.refl _) rep_int⟩
    · cases hg
  · rename_i ks vs'
    cases hg
    obtain ⟨b, v, rfl, s1⟩ := slot1 sl
    obtain ⟨a, xs, rfl, at', kok, ek, rk, rd⟩ := s1.dic_full
    obtain ⟨u, rfl, ru⟩ := vals1 r
    cases ru
    obtain ⟨hd, hz, es, ep, raw, pr⟩ := dict_raw I at'
    have hl : es.size = xs.length := by rw [← Array.length_toList]; exact (Paired.length pr).symm
    have hk : es.size = ks.length := by rw [hl, ← ek, List.length_map]
    refine len_raw hd raw (by rw [hl]; rw [sizeLine_eq] at hz; omega) ?_
    rw [hk]
    exact ⟨.int _, H, I.tok _, ⟨_, rfl⟩, q _ _ (Same.refl _) rep_int⟩
  · cases hg

/-! ### all, any, sum, max, min, abs -/
def bools : List D → Option (List Bool)
  | [] => some []
  | .bl b :: r => (bools r).map (b :: ·)
  | _ => none
def ints' : List D → Option (List Int)
  | [] => some []
  | .int b :: r => (ints' r).map (b :: ·)
  | _ => none
theorem reps_bools {B : Bx} {G : Hp} : ∀ {ds : List D} {vs : List V} {bs : List Bool}, Reps B G ds vs → bools ds = some bs → vs = bs.map V.bl
  | [], _, _, h, e => by cases e; rw [h.nil_inv]; rfl
  | d :: ds, _, bs, h, e => by
    obtain ⟨v, r, rfl, h1, h2⟩ := h.cons_inv
    unfold bools at e
    split at e
    · rename_i z; cases z
    · rename_i b r' z
      cases z
      obtain ⟨bs', e1, rfl⟩ := Option.map_eq_some_iff.mp e
      rw [reps_bools h2 e1, show v = .bl b by simpa only [Rep] using h1]
      rfl
    · cases e
theorem reps_ints {B : Bx} {G : Hp} : ∀ {ds : List D} {vs : List V} {bs : List Int}, Reps B G ds vs → ints' ds = some bs → vs = bs.map V.int
  | [], _, _, h, e => by cases e; rw [h.nil_inv]; rfl
  | d :: ds, _, bs, h, e => by
    obtain ⟨v, r, rfl, h1, h2⟩ := h.cons_inv
    unfold ints' at e
    split at e
    · rename_i z; cases z
    · rename_i b r' z
      cases z
      obtain ⟨bs', e1, rfl⟩ := Option.map_eq_some_iff.mp e
      rw [reps_ints h2 e1, show v = .int b by simpa only [Rep] using h1]
      rfl
    · cases e
def biAll : List D → Option D
  | [.lst ds] => (bools ds).map fun bs => .bl (bs.all id)
  | _ => none
def biAny : List D → Option D
  | [.lst ds] => (bools ds).map fun bs => .bl (bs.any id)
  | _ => none
theorem ci_all (hc : X.calm = true) : CallR X (.builtin "all") (rBD (bx X κ) biAll) := by
  rintro pins s σ H vs us Q I r ⟨A, ds, d, fr, sl, hg, q⟩
  unfold biAll at hg
  split at hg
  · obtain ⟨bs, e1, rfl⟩ := Option.map_eq_some_iff.mp hg
    obtain ⟨b, v, rfl, s1⟩ := slot1 sl
    obtain ⟨a, ws, rfl, h1, r1⟩ := s1.lst_inv
    rw [reps_bools r1 e1] at h1
    exact cr_all hc pins s σ H _ us Q I r ⟨a, bs, rfl, SqL.of h1, q _ _ (Same.refl _) rep_bl⟩
  · cases hg
theorem ci_any (hc : X.calm = true) : CallR X (.builtin "any") (rBD (bx X κ) biAny) := by
  rintro pins s σ H vs us Q I r ⟨A, ds, d, fr, sl, hg, q⟩
  unfold biAny at hg
  split at hg
  · obtain ⟨bs, e1, rfl⟩ := Option.map_eq_some_iff.mp hg
    obtain ⟨b, v, rfl, s1⟩ := slot1 sl
    obtain ⟨a, ws, rfl, h1, r1⟩ := s1.lst_inv
    rw [reps_bools r1 e1] at h1
    exact cr_any hc pins s σ H _ us Q I r ⟨a, bs, rfl, SqL.of h1, q _ _ (Same.refl _) rep_bl⟩
  · cases hg
def biSum : List D → Option D
  | [.lst ds] => (ints' ds).map fun ns => .int ns.sum
  | _ => none
theorem ci_sum (hc : X.calm = true) : CallR X (.builtin "sum") (rBD (bx X κ) biSum) := by
  rintro pins s σ H vs us Q I r ⟨A, ds, d, fr, sl, hg, q⟩
  unfold biSum at hg
  split at hg
  · obtain ⟨bs, e1, rfl⟩ := Option.map_eq_some_iff.mp hg
    obtain ⟨b, v, rfl, s1⟩ := slot1 sl
    obtain ⟨a, ws, rfl, h1, r1⟩ := s1.lst_inv
    rw [reps_ints r1 e1] at h1
    exact cr_sum hc pins s σ H _ us Q I r ⟨a, bs, rfl, SqL.of h1, q _ _ (Same.refl _) rep_int⟩
  · cases hg
def biAbs : List D → Option D
  | [.int i] => some (.int (if i < 0 then -i else i))
  | _ => none
theorem ci_abs : CallR X (.builtin "abs") (rBD (bx X κ) biAbs) := by
  rintro pins s σ H vs us Q I r ⟨A, ds, d, fr, sl, hg, q⟩
  unfold biAbs at hg
  split at hg
  · cases hg
    obtain ⟨b, v, rfl, s1⟩ := slot1 sl
    exact call_abs pins s σ H _ us Q I r ⟨_, by rw [s1.int_inv], q _ _ (Same.refl _) rep_int⟩
  · cases hg
/-- the greatest, the least of a list -/
def maxL : List Int → Option Int
  | [] => none
  | i :: r => some (r.foldl (fun m j => if j > m then j else m) i)
def minL : List Int → Option Int
  | [] => none
  | i :: r => some (r.foldl (fun m j => if j < m then j else m) i)
theorem maxF_spec : ∀ (r : List Int) (i : Int), (r.foldl (fun m j => if j > m then j else m) i) ∈ i :: r ∧ ∀ y ∈ i :: r, y ≤ r.foldl (fun m j => if j > m then j else m) i
  | [], i => by simp
  | j :: r, i => by
    rw [List.foldl_cons]
    obtain ⟨h1, h2⟩ := maxF_spec r (if j > i then j else i)
    refine ⟨?_, fun y hy => ?_⟩
    · rcases List.mem_cons.mp h1 with h | h
      · rw [h]; split <;> simp
      · exact List.mem_cons_of_mem _ (List.mem_cons_of_mem _ h)
    · have h3 := h2 _ List.mem_cons_self
      rcases List.mem_cons.mp hy with h | h
      · subst h; split at h3 <;> split <;> omega
      · rcases List.mem_cons.mp h with h | h
        · subst h; split at h3 <;> split <;> omega
        · exact h2 y (List.mem_cons_of_mem _ h)
theorem minF_spec : ∀ (r : List Int) (i : Int), (r.foldl (fun m j => if j < m then j else m) i) ∈ i :: r ∧ ∀ y ∈ i :: r, r.foldl (fun m j => if j < m then j else m) i ≤ y
  | [], i => by simp
  | j :: r, i => by
    rw [List.foldl_cons]
    obtain ⟨h1, h2⟩ := minF_spec r (if j < i then j else i)
    refine ⟨?_, fun y hy => ?_⟩
    · rcases List.mem_cons.mp h1 with h | h
      · rw [h]; split <;> simp
      · exact List.mem_cons_of_mem _ (List.mem_cons_of_mem _ h)
    · have h3 := h2 _ List.mem_cons_self
      rcases List.mem_cons.mp hy with h | h
      · subst h; split at h3 <;> split <;> omega
      · rcases List.mem_cons.mp h with h | h
        · subst h; split at h3 <;> split <;> omega
        · exact h2 y (List.mem_cons_of_mem _ h)
def biMax1 : List D → Option D
  | [.lst ds] => match ints' ds with
    | some ns => (maxL ns).map .int
    | none => none
  | _ => none
def biMin1 : List D → Option D
  | [.lst ds] => match ints' ds with
    | some ns => (minL ns).map .int
    | none => none
  | _ => none
def biMax2 : List D → Option D
  | [.int i, .int j] => some (.int (if j > i then j else i))
  | _ => none
def biMin2 : List D → Option D
  | [.int i, .int j] => some (.int (if j < i then j else i))
  | _ => none
theorem ci_max1 (hc : X.calm = true) : CallR X (.builtin "max") (rBD (bx X κ) biMax1) := by
  rintro pins s σ H vs us Q I r ⟨A, ds, d, fr, sl, hg, q⟩
  unfold biMax1 at hg
  split at hg
  · split at hg
    · rename_i ns e1
      obtain ⟨m, e2, rfl⟩ := Option.map_eq_some_iff.mp hg
      obtain ⟨b, v, rfl, s1⟩ := slot1 sl
      obtain ⟨a, ws, rfl, h1, r1⟩ := s1.lst_inv
      rw [reps_ints r1 e1] at h1
      cases ns with
      | nil => cases e2
      | cons i r' =>
        have e3 : m = r'.foldl (fun m j => if j > m then j else m) i := (Option.some.inj e2).symm
        obtain ⟨k1, k2⟩ := maxF_spec r' i
        refine cr_max hc pins s σ H _ us Q I r ⟨a, i :: r', rfl, SqL.of h1, by simp, fun z hz hm => ?_⟩
        have : z = m := Int.le_antisymm (by rw [e3]; exact k2 z hz) (by rw [e3]; exact hm _ k1)
        rw [this]
        exact q _ _ (Same.refl _) rep_int
    · cases hg
  · cases hg
theorem ci_min1 (hc : X.calm = true) : CallR X (.builtin "min") (rBD (bx X κ) biMin1) := by
  rintro pins s σ H vs us Q I r ⟨A, ds, d, fr, sl, hg, q⟩
  unfold biMin1 at hg
  split at hg
  · split at hg
    · rename_i ns e1
      obtain ⟨m, e2, rfl⟩ := Option.map_eq_some_iff.mp hg
      obtain ⟨b, v, rfl, s1⟩ := slot1 sl
      obtain ⟨a, ws, rfl, h1, r1⟩ := s1.lst_inv
      rw [reps_ints r1 e1] at h1
      cases ns with
      | nil => cases e2
      | cons i r' =>
        have e3 : m = r'.foldl (fun m j => if j < m then j else m) i := (Option.some.inj e2).symm
        obtain ⟨k1, k2⟩ := minF_spec r' i
        refine cr_min hc pins s σ H _ us Q I r ⟨a, i :: r', rfl, SqL.of h1, by simp, fun z hz hm => ?_⟩
        have : z = m := Int.le_antisymm (by rw [e3]; exact hm _ k1) (by rw [e3]; exact k2 z hz)
        rw [this]
        exact q _ _ (Same.refl _) rep_int
    · cases hg
  · cases hg
theorem ci_max2 (hc : X.calm = true) : CallR X (.builtin "max") (rBD (bx X κ) biMax2) := by
  rintro pins s σ H vs us Q I r ⟨A, ds, d, fr, sl, hg, q⟩
  unfold biMax2 at hg
  split at hg
  · cases hg
    obtain ⟨b1, b2, v1, v2, rfl, s1, s2⟩ := slots2 sl
    exact call_max2 hc pins s σ H _ us Q I r ⟨_, _, by rw [s1.int_inv, s2.int_inv], q _ _ (Same.refl _) rep_int⟩
  · cases hg
theorem ci_min2 (hc : X.calm = true) : CallR X (.builtin "min") (rBD (bx X κ) biMin2) := by
  rintro pins s σ H vs us Q I r ⟨A, ds, d, fr, sl, hg, q⟩
  unfold biMin2 at hg
  split at hg
  · cases hg
    obtain ⟨b1, b2, v1, v2, rfl, s1, s2⟩ := slots2 sl
    exact call_min2 hc pins s σ H _ us Q I r ⟨_, _, by rw [s1.int_inv, s2.int_inv], q _ _ (Same.refl _) rep_int⟩
  · cases hg

/-! ### int, str -/
def biInt : List D → Option D
  | [.int i] => some (.int i)
  | [.bl b] => some (.int (if b then 1 else 0))
  | _ => none
def biStr : List D → Option D
  | [.int i] => if i.natAbs < 2 ^ 100 then some (.str (toString i)) else none
  | [.str s] => some (.str s)
  | _ => none
theorem ci_int : CallR X (.type "int") (rBD (bx X κ) biInt) := by
  rintro pins s σ H vs us Q I r ⟨A, ds, d, fr, sl, hg, q⟩
  unfold biInt at hg
  split at hg
  · cases hg
    obtain ⟨b, v, rfl, s1⟩ := slot1 sl
    exact call_int1 pins s σ H _ us Q I r (.inl ⟨_, by rw [s1.int_inv], q _ _ (Same.refl _) rep_int⟩)
  · cases hg
    obtain ⟨b, v, rfl, s1⟩ := slot1 sl
    exact call_int1 pins s σ H _ us Q I r (.inr ⟨_, by rw [s1.bl_inv], q _ _ (Same.refl _) rep_int⟩)
  · cases hg
theorem ci_str : CallR X (.type "str") (rBD (bx X κ) biStr) := by
  rintro pins s σ H vs us Q I r ⟨A, ds, d, fr, sl, hg, q⟩
  unfold biStr at hg
  split at hg
  · split at hg
    · rename_i i hi
      cases hg
      obtain ⟨b, v, rfl, s1⟩ := slot1 sl
      have hlog : i.natAbs.log2 < 1920 := by
        rcases Nat.eq_zero_or_pos i.natAbs with h | h
        · rw [h]; decide
        · have : i.natAbs.log2 < 100 := (Nat.log2_lt (by omega)).mpr hi
          omega
      exact call_str_int pins s σ H _ us Q I r ⟨_, by rw [s1.int_inv], hlog, q _ _ (Same.refl _) rep_str⟩
    · cases hg
  · cases hg
    obtain ⟨b, v, rfl, s1⟩ := slot1 sl
    exact SkE.call_str_str pins s σ H _ us Q I r ⟨_, by rw [s1.str_inv], q _ _ (Same.refl _) rep_str⟩
  · cases hg

/-! ### list, tuple -/
def biList : List D → Option (List D)
  | [.lst ds] => some ds
  | [.tup ds] => some ds
  | [.dic ks _] => some ks
  | _ => none
def biTup : List D → Option D
  | [.lst ds] => some (.tup ds)
  | [.tup ds] => some (.tup ds)
  | _ => none
theorem ci_list (hc : X.calm = true) : CallR X (.type "list") (rBN (bx X κ) biList) := by
  rintro pins s σ H vs us Q I r ⟨A, ds, d, fr, sl, hg, q⟩
  unfold biList at hg
  split at hg
  · cases hg
    obtain ⟨b, v, rfl, s1⟩ := slot1 sl
    obtain ⟨a, ws, rfl, h1, r1⟩ := s1.lst_inv
    exact call_list_of pins s σ H _ us Q I r ⟨a, ws, rfl, .inl (SqL.of h1), fun p hp => q p ws hp r1⟩
  · cases hg
    obtain ⟨b, v, rfl, s1⟩ := slot1 sl
    obtain ⟨a, ws, rfl, h1, r1⟩ := s1.tup_inv
    exact call_list_of pins s σ H _ us Q I r ⟨a, ws, rfl, .inr h1, fun p hp => q p ws hp r1⟩
  · cases hg
    obtain ⟨b, v, rfl, s1⟩ := slot1 sl
    obtain ⟨a, xs, rfl, at', kok, ek, rk, rd⟩ := s1.dic_inv
    obtain ⟨u, rfl, ru⟩ := vals1 r
    cases ru
    obtain ⟨hd, hz, es, ep, ⟨o, ho, hx, hdt⟩, pr⟩ := dict_raw I at'
    have l1 : es.toList.length = xs.length := (Paired.length pr).symm
    have l2 : es.size = xs.length := by rw [← Array.length_toList]; exact l1
    refine PySem.W.kdl_call (kdl_raw hd hx hdt) (I.ok.hd hc) ho (by omega) fun h' tk acc' c' kp e it => ?_
    have rv : Vals (xs.map (·.2.1)) acc'.toList := by
      refine vals_of_at (by rw [List.length_map, Array.length_toList]; exact l2.symm.trans it.1.symm) fun j x u h1 h2 => ?_
      obtain ⟨en, hen, hv⟩ := it.2 j u (by rw [← Array.getElem?_toList]; exact h2)
      rw [List.getElem?_map] at h1
      obtain ⟨z, hz1, rfl⟩ := Option.map_eq_some_iff.mp h1
      obtain ⟨en', h3, ent⟩ := paired_get pr hz1
      rw [Array.getElem?_toList, hen] at h3
      cases h3
      rw [hv]
      exact ent.k
    have hz' : (xs.map (·.2.1)).length ≤ sizeLine := by rw [List.length_map]; exact hz
    refine ⟨.ref s.heap.objs.size, _, I.laid (t' := tk) (o := .lst (xs.map (·.2.1))) kp (Nat.le_refl _) ?_, rfl, q _ _ (I.hok.fresh (Nat.le_refl _)) rk⟩
    exact ⟨hz', acc'.toList, c', rv, by rw [Array.toArray_toList]; exact e⟩
  · cases hg
theorem ci_tuple : CallR X (.type "tuple") (rBD (bx X κ) biTup) := by
  rintro pins s σ H vs us Q I r ⟨A, ds, d, fr, sl, hg, q⟩
  unfold biTup at hg
  split at hg
  · cases hg
    obtain ⟨b, v, rfl, s1⟩ := slot1 sl
    obtain ⟨a, ws, rfl, h1, r1⟩ := s1.lst_inv
    exact call_tuple_of pins s σ H _ us Q I r ⟨a, ws, rfl, .inl ⟨SqL.of h1, fun p hp => q _ _ (same_upd hp) (rep_new_tup hp (fr p hp) r1)⟩⟩
  · cases hg
    obtain ⟨b, v, rfl, s1⟩ := slot1 sl
    obtain ⟨a, ws, e1, h1, r1⟩ := s1.tup_inv
    subst e1
    exact call_tuple_of pins s σ H _ us Q I r ⟨a, ws, rfl, .inr ⟨h1, q _ _ (Same.refl _) s1.tup_rep⟩⟩
  · cases hg
end
end DL
end
section
/-! DLn: dicts made, written, filled. -/
namespace DL
open PySem PySem.Spec PyProof.Rows L2

def dDic0 : Ev := fun _ c => some (.dic [] [], c)
section
variable {X : Cx} {κ : Addr} {e : Expr} {pos : Pos}
def tDic0 (w : World) : TE := fun σ H Q => ∀ a, H a = none → Q (.ref a) (upd H a (dO w a [] 0))
theorem pe_dic0 : PE X (.Dict [] [] pos) (tDic0 X.w) := ⟨fun pins s σ H Q I h =>
  wpAny_Dict_empty ⟨.ref s.heap.objs.size, _, I.laid (a := s.heap.objs.size) (o := dO X.w s.heap.objs.size [] 0) (t' := s.toks) (fun _ _ q => Heap.get?_push_of_some _ q) (Nat.le_refl _) (dicP_empty X.w s.heap I.big).obj, rfl, h _ (I.hok.fresh (Nat.le_refl _))⟩⟩
theorem own_dic0 {B : Bx} {H G : Hp} {a : Addr} {ep : Nat} (h : H a = some (dO B.w a [] ep)) : Own B H G (.dic [] []) a := ⟨[], ep, h, kOk_nil, rfl, .nil, .nil⟩
theorem mut_dO {w : World} {a : Addr} {xs : List (D × V × V)} {ep : Nat} : Mut (some (dO w a xs ep)) := trivial
theorem dn_dic0 : DN X κ (.Dict [] [] pos) dDic0 := pe_dic0.imp fun σ H Q ⟨A, ρ, c, d, c', E, hf, q⟩ a ha => by
  cases hf
  exact q a _ (Same.ext (same_upd ha)) (upd_cup ha E.cup) ha (own_dic0 upd_same) ⟨_, upd_same, mut_dO⟩

/-! ### d[k] = v, xs[i] = v -/
def rSetDD (B : Bx) : TSet := fun o i v H Q => ∃ (a : Addr) (xs : List (D × V × V)) (ep : Nat) (d : D) (ks : List D), o = .ref a ∧ H a = some (dO B.w a xs ep) ∧ KOk ks ∧ xs.map (·.1) = ks ∧ Reps B H ks (xs.map (·.2.1)) ∧ Rep B H d i ∧ keyFits ks d = true ∧ xs.length < sizeLine ∧
  ∀ ep', Q (upd H a (dO B.w a (vPut xs d i v) ep'))
theorem set_DD (hu : X.A.units + 65 < cLine) : PSet X (rSetDD (bx X κ)) := by
  rintro pins s σ H o i v ov iv u Q I ro ri rv ⟨a, xs, ep, d, ks, rfl, hH, kok, ek, rk, ry, hk, hz, q⟩
  cases (show ov = Value.ref a from ro)
  exact dic_setItem (by omega) I hH (dic_case I (.inl ⟨ep, hH⟩) kok ek rk ry hk) ri rv hz fun s' ep' I' => ⟨_, I', q ep'⟩
theorem psor {t t' : TSet} (h : PSet X t) (h' : PSet X t') : PSet X (fun o i v H Q => t o i v H Q ∨ t' o i v H Q) := fun pins s σ H o i v ov iv u Q I r1 r2 r3 q => q.elim (h pins s σ H o i v ov iv u Q I r1 r2 r3) (h' pins s σ H o i v ov iv u Q I r1 r2 r3)
/-- a container with one item put -/
def putD (d k v : D) : Option D := match d with
  | .dic ks ds => if keyFits ks k then if ks.length < lim then some (kPutD ks ds k v) else none else none
  | .lst ds => match k with
    | .int i => match ixN ds.length i with
      | some j => some (.lst (ds.set j v))
      | none => none
    | _ => none
  | _ => none
def sPut (i : Nat) (fk fv : Ev) : SF := fun ρ c => match fv ρ c with
  | some (v, c1) => match fk ρ c1 with
    | some (k, c2) => match ρ[i]? with
      | some (some (true, d)) => match putD d k v with
        | some d' => some (.nx (ρ.set i (some (true, d'))) c2)
        | none => none
      | _ => none
    | none => none
  | none => none
theorem SR.dic {B : Bx} {A0 A : Addr → Prop} {H0 H : Hp} {σ : L2.St} {ρ : Rho} {c : Cup} {i : Nat} {ks ds : List D} (S : SR B A0 H0 A σ H ρ c) (h : ρ[i]? = some (some (true, .dic ks ds))) :
    ∃ a xs ep, σ[i]? = some (some (.ref a)) ∧ A a ∧ a ≠ B.κ ∧ H a = some (dO B.w a xs ep) ∧ KOk ks ∧ xs.map (·.1) = ks ∧ Reps B (cut H A) ks (xs.map (·.2.1)) ∧ Reps B (cut H A) ds (xs.map (·.2.2)) := by
  obtain ⟨v, h1, a, rfl, hA, hn, xs, ep, e, k1, k2, k3, k4⟩ := S.E.slot i true _ h
  exact ⟨a, xs, ep, h1, hA, hn, e, k1, k2, k3, k4⟩
theorem cut_upd {H : Hp} {A : Addr → Prop} {a : Addr} {o : HO} (hA : A a) : Same (cut H A) (cut (upd H a o) A) := fun b o' e => by
  obtain ⟨n, e⟩ := of_cut e
  exact cut_of n (by rw [upd_ne (by rintro rfl; exact n hA)]; exact e)
theorem SR.dset {B : Bx} {A0 A : Addr → Prop} {H0 H : Hp} {σ : L2.St} {ρ : Rho} {c : Cup} {i : Nat} {d0 : D} {ks ds : List D} {a : Addr} {xs : List (D × V × V)} {ep : Nat} (S : SR B A0 H0 A σ H ρ c) (h : ρ[i]? = some (some (true, d0))) (hσ : σ[i]? = some (some (.ref a))) (hA : A a) (hn : a ≠ B.κ)
    (k : KOk ks) (ek : xs.map (·.1) = ks) (rk : Reps B (cut H A) ks (xs.map (·.2.1))) (rd : Reps B (cut H A) ds (xs.map (·.2.2))) :
    SR B A0 H0 A σ (upd H a (dO B.w a xs ep)) (ρ.set i (some (true, .dic ks ds))) c :=
  S.change h hσ trivial hn ⟨xs, ep, upd_same, k, ek, Reps.mono (cut_upd hA) _ _ rk, Reps.mono (cut_upd hA) _ _ rd⟩
theorem putD_dic {B : Bx} {G : Hp} {ks ds : List D} {k v : D} {xs : List (D × V × V)} {y z : V} (kok : KOk ks) (hf : keyFits ks k = true) (ek : xs.map (·.1) = ks) (rk : Reps B G ks (xs.map (·.2.1))) (rd : Reps B G ds (xs.map (·.2.2))) (ry : Rep B G k y) (rv : Rep B G v z) :
    ∃ ks' ds', kPutD ks ds k v = .dic ks' ds' ∧ KOk ks' ∧ (vPut xs k y z).map (·.1) = ks' ∧ Reps B G ks' ((vPut xs k y z).map (·.2.1)) ∧ Reps B G ds' ((vPut xs k y z).map (·.2.2)) := by
  obtain ⟨ks', ds', e, e2, h1, h2, h3⟩ := put_reps ek rk rd ry rv
  exact ⟨ks', ds', e, e2 ▸ kOk_put kok hf, h1, h2, h3⟩
theorem ds_put {i : Nat} {x : Str} {p p3 : Pos} {ki : Expr} {fk fv : Ev} (hu : X.A.units + 65 < cLine) (hk : DE X κ ki fk) (hv : DE X κ e fv) (hN : X.N[i]? = some x := by rfl) (hvi : Vis X.env.scope x := by first | exact Or.inl rfl | exact Or.inr (Or.inl rfl) | exact Or.inr (Or.inr rfl)) (hd : (x == ("__debug__" : Str)) = false := by decide)
    (hcd : (x == ("__classdict__" : Str)) = false := by decide)
    (ha : ∀ v, assign (.Subscript (.Name x p) ki p3) X.env v = (do
      let ov ← holding [v] (eval (.Name x p) X.env)
      let iv ← holding [v, ov] (eval ki X.env)
      standAt p3
      holding [v, ov, iv] (setItem ov iv v)
      release [v, ov, iv] []) := by intro _; rfl)
    (hs : swapsWithSole [.Subscript (.Name x p) ki p3] e pos.line X.env = pure false := by rfl) (hw : swappedStores [.Subscript (.Name x p) ki p3] e X.env = pure none := by rfl)
    (h1 : (assignEach [.Subscript (.Name x p) ki p3] X.env).map (·.2) = [assign (.Subscript (.Name x p) ki p3) X.env] := by rfl) :
    DS X κ (.Assign [.Subscript (.Name x p) ki p3] e pos) (sPut i fk fv) := (ps_asg hv (pg_sub (pe_var (pos := p) hN hvi hd hcd) hk (psor (set_DD hu) set_list) ha) hs hw h1).imp fun E σ H ⟨A0, H0, ρ, c, o, ⟨A, S⟩, hf, q⟩ => by
  unfold sPut at hf
  split at hf
  · rename_i v c1 e1
    split at hf
    · rename_i k c2 e2
      split at hf
      · rename_i d e3
        split at hf
        · rename_i d' e4
          cases hf
          refine ⟨A, ρ, c, v, c1, S.E, e1, fun w1 H1 x1 hc1 r1 => ?_⟩
          have S1 := S.eval x1 (S.E.mono x1 hc1) (fun _ h => h) fun _ h => .inl h
          unfold putD at e4
          split at e4
          · split at e4
            · rename_i hfit
              split at e4
              · rename_i hl
                cases e4
                obtain ⟨a, xs, ep, hσ, hA, hn, hH, _⟩ := S1.dic e3
                refine ⟨_, hσ, A, ρ, c1, k, c2, S1.E, e2, fun w2 H2 x2 hc2 r2 => ?_⟩
                have S2 := S1.eval x2 (S1.E.mono x2 hc2) (fun _ h => h) fun _ h => .inl h
                obtain ⟨a', xs', ep', hσ', hA', hn', hH', kok, ek, rk, rd⟩ := S2.dic e3
                rw [hσ] at hσ'; cases hσ'
                obtain ⟨ks', ds', ed, kok', ek', rk', rd'⟩ := putD_dic kok hfit ek rk rd r2 (Rep.mono (x2.cut S1.E.κA) _ _ r1)
                refine .inl ⟨a, xs', ep', k, _, rfl, hH', kok, ek, Reps.mono cut_same _ _ rk, Rep.mono cut_same _ _ r2, hfit, ?_, fun ep2 => ?_⟩
                · rw [← List.length_map (f := (·.1)), ek]
                  exact Nat.lt_of_lt_of_le hl (lim_line (Nat.le_refl lim))
                · rw [ed] at q
                  exact q _ _ ⟨A, S2.dset e3 hσ hA hn kok' ek' rk' rd'⟩
              · cases e4
            · cases e4
          · split at e4
            · split at e4
              · rename_i ej
                cases e4
                obtain ⟨a, vs, hσ, hA, hn, hH, _⟩ := S1.lst e3
                refine ⟨_, hσ, A, ρ, c1, _, c2, S1.E, e2, fun w2 H2 x2 hc2 r2 => ?_⟩
                have S2 := S1.eval x2 (S1.E.mono x2 hc2) (fun _ h => h) fun _ h => .inl h
                obtain ⟨a', vs', hσ', hA', hn', hH', rs⟩ := S2.lst e3
                rw [hσ] at hσ'; cases hσ'
                refine .inr ⟨a, vs', _, _, rfl, by simpa only [Rep] using r2, hH', by rw [← rs.length]; exact ej, ?_⟩
                exact q _ _ ⟨A, S2.lset e3 hσ hA hn (rs.set _ (Rep.mono (x2.cut S1.E.κA) _ _ r1))⟩
              · cases e4
            · cases e4
          · cases e4
        · cases hf
      · cases hf
    · cases hf
  · cases hf
end
end DL
end
section
/-! DLo: dict.update, comprehensions of dicts, dict of pairs. -/
namespace DL
open PySem PySem.Spec PyProof.Rows L2

/-! ### d.update(e) -/
/-- puts, one after another -/
def kPuts : D → List D → List D → Option D
  | d, [], _ => some d
  | .dic ks ds, k :: r, v :: t => if keyFits ks k then if ks.length < lim then kPuts (kPutD ks ds k v) r t else none else none
  | _, _, _ => none
def vPuts (xs ys : List (D × V × V)) : List (D × V × V) := ys.foldl (fun xs y => vPut xs y.1 y.2.1 y.2.2) xs
section
variable {B : Bx} {G : Hp}
theorem kPuts_rel : ∀ {ys : List (D × V × V)} {ks ds ks2 ds2 : List D} {xs : List (D × V × V)} {d : D}, KOk ks → xs.map (·.1) = ks → Reps B G ks (xs.map (·.2.1)) → Reps B G ds (xs.map (·.2.2)) →
    ys.map (·.1) = ks2 → Reps B G ks2 (ys.map (·.2.1)) → Reps B G ds2 (ys.map (·.2.2)) → kPuts (.dic ks ds) ks2 ds2 = some d →
    ∃ ks' ds', d = .dic ks' ds' ∧ KOk ks' ∧ (vPuts xs ys).map (·.1) = ks' ∧ Reps B G ks' ((vPuts xs ys).map (·.2.1)) ∧ Reps B G ds' ((vPuts xs ys).map (·.2.2)) ∧ (vPuts xs ys).length ≤ max xs.length lim
  | [], ks, ds, ks2, ds2, xs, d, kok, ek, rk, rd, ek2, rk2, rd2, h => by
    subst ek2
    cases h
    exact ⟨ks, ds, rfl, kok, ek, rk, rd, Nat.le_max_left _ _⟩
  | y :: ys, ks, ds, ks2, ds2, xs, d, kok, ek, rk, rd, ek2, rk2, rd2, h => by
    subst ek2
    rw [List.map_cons] at rk2 rd2 h
    rw [List.map_cons] at rk2
    obtain ⟨_, _, e1, r1, t1⟩ := rk2.cons_inv
    cases e1
    cases ds2 with
    | nil => have := rd2.nil_inv; cases this
    | cons v t =>
      obtain ⟨_, _, e2, r2, t2⟩ := rd2.cons_inv
      cases e2
      unfold kPuts at h
      split at h
      · rename_i hf
        split at h
        · rename_i hl
          obtain ⟨ks', ds', ed, kok', ek', rk', rd'⟩ := putD_dic kok hf ek rk rd r1 r2
          rw [ed] at h
          obtain ⟨ks3, ds3, e3, h3, h4, h5, h6, h7⟩ := kPuts_rel kok' ek' rk' rd' rfl t1 t2 h
          refine ⟨ks3, ds3, e3, h3, h4, h5, h6, Nat.le_trans h7 ?_⟩
          have hz := vPut_len xs y.1 y.2.1 y.2.2
          have hx : xs.length = ks.length := by rw [← ek, List.length_map]
          omega
        · cases h
      · cases h
theorem scal_puts : ∀ {ys : List (D × V × V)} {more : List (Key × Value)} {xs : List (D × V × V)} {kvs : List (Key × Value)}, Paired SRelK xs kvs → Paired SRelK ys more → Paired SRelK (vPuts xs ys) (merged kvs more)
  | _, _, _, _, p, .nil => p
  | _, _, xs, kvs, p, .cons (a := y) (b := m) r t => by
    have e1 := r.d
    have e2 := r.v
    have := scal_put m.1 r.r p
    show Paired SRelK (vPuts (vPut xs y.1 y.2.1 y.2.2) _) (merged (stored kvs m.1 m.2) _)
    rw [← e1, ← e2] at this
    exact scal_puts this t
end
theorem mut_any {o : HO} {w : World} {a : Addr} {xs : List (D × V × V)} {ep : Nat} (h : o = dO w a xs ep) : Mut (some o) := by subst h; trivial
section
variable {X : Cx} {κ : Addr} {o e : Expr} {es : List Expr} {name : Str} {id : String} {to : TE} {t : TA} {r : V → List V → Hp → VK → Prop} {apos cpos : Pos}
/-- a method of a dict -/
def tDM (B : Bx) (r : V → List V → Hp → VK → Prop) (to : TE) (t : TA) : TE := fun σ H Q => to σ H fun x H1 => (∃ a xs, x = .ref a ∧ DicAt B H1 a xs) ∧ t σ H1 fun vs H2 => r x vs H2 Q
theorem pe_dm (slot : PySem.Slot "dict" name id) (hty : typeOf (.builtin id) = pure (.type "method_descriptor")) (hm : MtR X id r) (ho : PE X o to) (ha : PA X (e :: es) t)
    (hbase : attributeBase o name X.env (eval o X.env) = eval o X.env := by rfl)
    (hfew : ((backTo cpos (starEach (e :: es) X.env)).all (fun x => !x.1) && (backToKw cpos (keywordEach [] X.env)).all (fun x => x.1.isSome)
      && decide ((e :: es).length + ([] : List Keyword).length + (if ([] : List Keyword).isEmpty then 0 else 1) < 30)) = true := by rfl)
    (hline : (apos.endLine == cpos.line) = true := by rfl) (hs : starEach (e :: es) X.env = (false, eval e X.env) :: starEach es X.env := by rfl) (hplain : (backTo cpos (starEach es X.env)).any (·.1) = false := by rfl) :
    PE X (.Call (.Attribute o name apos) (e :: es) [] cpos) (tDM (bx X κ) r to t) := by
  refine ⟨fun pins s σ H Q I h => ?_⟩
  refine wpAny_Call_method_late hbase hfew hline rfl (thn (ho.run pins s σ H _ I h) fun v s1 ⟨x, H1, I1, r1, ⟨a, xs, ex, hx⟩, q1⟩ => ?_)
  subst ex
  have q1' := q1
  cases (show v = Value.ref a from r1)
  obtain ⟨_, _, es', ep, ⟨od, hod, hxd, hdt⟩, _⟩ := dict_raw I1 hx
  refine ⟨"dict", id, PySem.F.plainAttrs_dict, slot, hty, ⟨od, hod, hxd.1⟩, (fun a' e2 => by cases e2; exact ⟨od, hod, hxd.2.1⟩), ?_⟩
  have hA := ha.run cpos pins s1 σ H1 _ I1 q1'
  rw [hs] at hA ⊢
  refine Calls.callWith_builtin (by show (false || (backTo cpos (starEach es X.env)).any (·.1)) = false; rw [hplain] <;> rfl) (Calls.evalArgs_plain ?_)
  exact thn hA fun us s2 ⟨vs, H2, I2, r2, q2⟩ => hm pins s2 σ H2 (.ref a) vs _ us Q I2 (show L2.RelV (.ref a) (Value.ref a) from rfl) r2 q2
/-! update, keys that are ints and texts -/
def rUpd (B : Bx) : V → List V → Hp → VK → Prop := fun x vs H Q => ∃ (a b : Addr) (xs ys : List (D × V × V)) (ep : Nat) (ks ks2 : List D), x = .ref a ∧ vs = [.ref b] ∧ a ≠ b ∧ H a = some (dO B.w a xs ep) ∧ DicAt B H b ys ∧ KOk ks ∧ xs.map (·.1) = ks ∧ Reps B H ks (xs.map (·.2.1)) ∧
  KOk ks2 ∧ ys.map (·.1) = ks2 ∧ Reps B H ks2 (ys.map (·.2.1)) ∧ (∀ d ∈ ks, (skey d).isSome = true) ∧ (∀ d ∈ ks2, (skey d).isSome = true) ∧ xs.length + ys.length ≤ sizeLine ∧ (vPuts xs ys).length ≤ sizeLine ∧ ∀ ep', Q .non (upd H a (dO B.w a (vPuts xs ys) ep'))
theorem mt_upd : MtR X "dict.update" (rUpd (bx X κ)) := by
  rintro pins s σ H x vs v us Q I rx rv ⟨a, b, xs, ys, ep, ks, ks2, rfl, rfl, hab, hH, hb, kok, ek, rk, kok2, ek2, rk2, hs1, hs2, hz, hz2, q⟩
  cases (show v = Value.ref a from rx)
  obtain ⟨u, rfl, ru⟩ := rv.one
  cases (show u = Value.ref b from ru)
  obtain ⟨kvs, p1, m1⟩ := scal_dictOf I (.inl ⟨ep, hH⟩) kok.nd ek rk hs1
  obtain ⟨more, p2, m2⟩ := scal_dictOf I hb kok2.nd ek2 rk2 hs2
  obtain ⟨hd2, _, _⟩ := dict_raw I hb
  obtain ⟨hd1, _, _⟩ := dict_raw I (.inl ⟨ep, hH⟩ : DicAt (bx X κ) H a xs)
  refine call_meetsIn PySem.F.slot_dict_update m1.typeIs PySem.F.entry_dict_update (PySem.F.args_dict_update_2 _ _) (meets_dict_update (mixKind X.prog X.w) a b hab hd2)
    ⟨kvs, more, m1, m2, by rw [← Paired.length p1, ← Paired.length p2]; exact hz, fun h' m1' m2' sb => ?_⟩
  obtain ⟨ep', dp⟩ := scal_new hd1 hz2 (scal_puts p1 p2) m1'
  exact ⟨.non, _, d_write I (t' := s.toks) (by rw [hH]; trivial) sb (let ⟨o, _, _, ho, _⟩ := m1'; ⟨o, ho⟩) dp.obj, rfl, q ep'⟩
def mUpd (i : Nat) (f : Ev) : EvM := fun ρ c => match f ρ c with
  | some (.dic ks2 ds2, c') => match ρ[i]? with
    | some (some (true, .dic ks ds)) => if (ks.all fun d => (skey d).isSome) && (ks2.all fun d => (skey d).isSome) then if ks.length ≤ lim ∧ ks2.length ≤ lim then match kPuts (.dic ks ds) ks2 ds2 with
      | some d => some (.non, ρ.set i (some (true, d)), c')
      | none => none
      else none
      else none
    | _ => none
  | _ => none
theorem dm_upd {fe : Ev} (i : Nat) {x : Str} {p : Pos} (he : DN X κ e fe) (hN : X.N[i]? = some x := by rfl) (hv : Vis X.env.scope x := by first | exact Or.inl rfl | exact Or.inr (Or.inl rfl) | exact Or.inr (Or.inr rfl)) (hd : (x == ("__debug__" : Str)) = false := by decide)
    (hcd : (x == ("__classdict__" : Str)) = false := by decide)
    (hbase : attributeBase (.Name x p) "update" X.env (eval (.Name x p) X.env) = eval (.Name x p) X.env := by rfl)
    (hfew : ((backTo cpos (starEach [e] X.env)).all (fun x => !x.1) && (backToKw cpos (keywordEach [] X.env)).all (fun x => x.1.isSome)
      && decide ([e].length + ([] : List Keyword).length + (if ([] : List Keyword).isEmpty then 0 else 1) < 30)) = true := by rfl)
    (hline : (apos.endLine == cpos.line) = true := by rfl) (hs : starEach [e] X.env = (false, eval e X.env) :: starEach [] X.env := by rfl) (hplain : (backTo cpos (starEach [] X.env)).any (·.1) = false := by rfl) :
    DM X κ (.Call (.Attribute (.Name x p) "update" apos) [e] [] cpos) (mUpd i fe) :=
  (pe_dm (κ := κ) PySem.F.slot_dict_update PySem.F.type_dict_update mt_upd (pe_var hN hv hd hcd) (pa_cons he pa_nil hs) hbase hfew hline hs hplain).imp fun σ H Q ⟨A0, H0, A, ρ, c, d, ρ', c', S, hf, q⟩ => by
    unfold mUpd at hf
    split at hf
    · rename_i ks2 ds2 c1 e1
      split at hf
      · rename_i ks ds e2
        split at hf
        · rename_i hsc
          rw [Bool.and_eq_true, List.all_eq_true, List.all_eq_true] at hsc
          split at hf
          · rename_i hl
            split at hf
            · rename_i d3 e3
              cases hf
              obtain ⟨a, xs, ep, h1, hA, hn, h2, _⟩ := S.dic e2
              refine ⟨_, h1, ⟨a, xs, rfl, .inl ⟨ep, h2⟩⟩, A, ρ, c, _, _, S.E, e1, fun b H' x hc hb0 ob _ => ?_⟩
              have S' := S.eval x (S.E.mono x hc) (fun _ h => h) fun _ h => .inl h
              obtain ⟨a', xs', ep', h1', _, _, h2', kok, ek, rk, rd⟩ := S'.dic e2
              rw [h1] at h1'; cases h1'
              obtain ⟨ys, epy, hby, kok2, ek2, rk2, rd2⟩ := ob
              have hab : a ≠ b := fun z => by subst z; rw [h2] at hb0; cases hb0
              have hbA : DicAt (bx X κ) H' b ys := .inl ⟨epy, hby⟩
              have sc : Same (cut H' fun a => A a ∨ a = b) (cut H' A) := cut_sub fun _ h => .inl h
              have rk2 := Reps.mono sc _ _ rk2
              have rd2 := Reps.mono sc _ _ rd2
              obtain ⟨ks', ds', rfl, kok3, ek3, rk3, rd3, hz3⟩ := kPuts_rel kok ek rk rd ek2 rk2 rd2 e3
              have hx : xs'.length = ks.length := by rw [← ek, List.length_map]
              have hy : ys.length = ks2.length := by rw [← ek2, List.length_map]
              have hl1 : lim = 1000000 := rfl
              refine ⟨a, b, xs', ys, ep', ks, ks2, rfl, rfl, hab, h2', hbA, kok, ek, Reps.mono cut_same _ _ rk, kok2, ek2, Reps.mono cut_same _ _ rk2, hsc.1, hsc.2, by rw [sizeLine_eq]; omega, by rw [sizeLine_eq]; omega, fun ep2 => q _ _ (S'.dset e2 h1 hA hn kok3 ek3 rk3 rd3) (by simp only [Rep])⟩
            · cases hf
          · cases hf
        · cases hf
      · cases hf
    · cases hf
end
end DL
end
section
/-! DLp: comprehensions of dicts, dict of pairs. -/
namespace DL
open PySem PySem.Spec PyProof.Rows L2

section
variable {X : Cx} {κ : Addr}
/-- one put to the new dict at D -/
def rDPut (B : Bx) (D : Addr) (Nx : Hp → Prop) : V → V → Hp → Prop := fun y z H => ∃ (xs : List (DL.D × V × V)) (ep : Nat) (d : DL.D) (ks : List DL.D), H D = some (dO B.w D xs ep) ∧ KOk ks ∧ xs.map (·.1) = ks ∧ Reps B H ks (xs.map (·.2.1)) ∧ Rep B H d y ∧ keyFits ks d = true ∧ xs.length < sizeLine ∧
  ∀ ep', Nx (upd H D (dO B.w D (vPut xs d y z) ep'))
def tDcD (B : Bx) (wi : TI) (g : TG) (tt : TT) (tk tv : TE) (vs : List Nat) : TE := fun σ H Q => wi σ H fun J H1 => ∀ D, H1 D = none → ∃ W : Nat → Nat → Hp → Prop, (∃ m, W 0 m (upd H1 D (dO B.w D [] 0))) ∧ ∀ i m H, W i m H →
  (J.stop i H ∧ Q (.ref D) H) ∨ (J.go i H ∧ ∃ Nx : Hp → Prop, (∀ H', Nx H' → ∃ m', m' < m ∧ W (i + 1) m' H') ∧ ∀ x H', J.yld i H x H' → g x (L2.wipe σ vs) H' fun σ2 H2 => L2.wipe σ2 vs = L2.wipe σ vs ∧ tt σ2 H2 fun b H3 =>
    if b = true then tk σ2 H3 fun y H4 => tv σ2 H4 fun z H5 => rDPut B D Nx y z H5 else Nx H3)
set_option maxHeartbeats 1000000 in
/-- {k: v for target in iter if ..}: the new dict at D is tracked from the start -/
theorem pe_dcD {kx vx tg iter : Expr} {ifs : List Expr} {scope : Scope} {own : List (Str × Nat)} {pos : Pos} {wi : TI} {g : TG} {tt : TT} {tk tv : TE} (hc : X.calm = true) (hu : X.A.units + 65 < cLine) (hN : X.N.Nodup) (hi : PI X tg iter wi) (ok : BlkOk X.N X.env.scope scope own)
    (hg : ∀ (s : Shared) (H : Hp) (C : Addr) (cl : List (Str × Addr)) (fp : List Addr), PG (X.blk s H scope (compEnvC scope cl C X.env) fp) tg g) (ht : ∀ (s : Shared) (H : Hp) (C : Addr) (cl : List (Str × Addr)) (fp : List Addr), PTs (X.blk s H scope (compEnvC scope cl C X.env) fp) ifs tt)
    (hk : ∀ (s : Shared) (H : Hp) (C : Addr) (cl : List (Str × Addr)) (fp : List Addr), PE (X.blk s H scope (compEnvC scope cl C X.env) fp) kx tk)
    (hv : ∀ (s : Shared) (H : Hp) (C : Addr) (cl : List (Str × Addr)) (fp : List Addr), PE (X.blk s H scope (compEnvC scope cl C X.env) fp) vx tv) (hs : ∀ x, foldedSetIterable iter X.env x = pure x := by intro _; rfl) :
    PE X (.DictComp kx vx [⟨tg, iter, ifs, 0⟩] scope pos) (tDcD (bx X κ) wi g tt tk tv (own.map (·.2))) := by
  refine ⟨fun pins s σ H Q I h => ?_⟩
  rw [arm_eval_DictComp]
  have cells : ∀ y ∈ scope.names, y.2 = .free → ∃ c, X.env.cells.lookup y.1 = some c := fun y hy e => (ok.free y hy e).elim (fun k => I.ok.has _ (.inl k)) fun k => I.ok.has _ (.inr k)
  -- the iterable, then its iterator
  refine wpAny_comprehension_free (use := none) rfl hs (closure_ok cells) ok.kind (fun y hy e => by rw [ok.uniq y hy, e]) (thn (hi.run pins s σ H _ I h) fun _ sa ha => thn ha fun _ sb ⟨it, fp, tn, J, Hb, ev, Ib, T, stb, fpb, q⟩ => ?_)
  subst ev
  refine wpAny_newObj_type (newEnv_comp ?_)
  -- the new dict's address, the heaps from there on
  obtain ⟨D, hD⟩ : ∃ D, D = sb.heap.objs.size := ⟨_, rfl⟩
  rw [← hD]
  have freeD : Hb D = none := Ib.hok.fresh (Nat.le_of_eq hD.symm)
  obtain ⟨W, ⟨m0, w0⟩, turn⟩ := q D freeD
  obtain ⟨sd, hsd⟩ : ∃ sd : Shared, sd = { sb with heap := sb.heap.push { cls := .type "dict", data := .dict #[] } } := ⟨_, rfl⟩
  obtain ⟨Hd, hHd⟩ : ∃ Hd : Hp, Hd = upd Hb D (dO X.w D [] 0) := ⟨_, rfl⟩
  have Id : Inv X pins σ Hd sd := by
    rw [hsd, hHd]
    refine Ib.laid (t' := sb.toks) (fun b o e => Heap.get?_push_of_some _ e) (Nat.le_of_eq hD.symm) ?_
    rw [hD]
    exact (dicP_empty X.w sb.heap Ib.big).obj
  have hsz : sd.heap.objs.size = sb.heap.objs.size + 1 := by rw [hsd, Heap.size_push]
  have old : ∀ b o, sb.heap.get? b = some o → sd.heap.get? b = some o := fun b o e => by rw [hsd]; exact Heap.get?_push_of_some _ e
  have fpd : ∀ b ∈ fp, FpOk X pins Hd b ∧ b < sd.heap.objs.size := fun b hb => by
    obtain ⟨o, e, _⟩ := T.obj _ _ stb b hb
    have lt := Heap.lt_size e
    refine ⟨⟨?_, (fpb b hb).2⟩, by rw [hsz]; exact Nat.lt_succ_of_lt lt⟩
    rw [hHd, upd_ne (by rw [hD]; exact Nat.ne_of_lt lt)]
    exact (fpb b hb).1
  have Iblk := block_start Id ok hN fpd
  have std : tn 0 sd.heap := T.keep _ _ _ stb fun b _ o e => old b o e
  obtain ⟨C, hC⟩ : ∃ C, C = sd.heap.objs.size := ⟨_, rfl⟩
  obtain ⟨ce, hce⟩ : ∃ ce, ce = compEnvC scope (cellsFrom (sd.heap.objs.size + 1) scope.names (cloFrom X.env.cells scope.names [])) sd.heap.objs.size X.env := ⟨_, rfl⟩
  have pg : PG (X.blk sd Hd scope ce fp) tg g := by rw [hce]; exact hg sd Hd _ _ fp
  have pt : PTs (X.blk sd Hd scope ce fp) ifs tt := by rw [hce]; exact ht sd Hd _ _ fp
  have pk : PE (X.blk sd Hd scope ce fp) kx tk := by rw [hce]; exact hk sd Hd _ _ fp
  have pv : PE (X.blk sd Hd scope ce fp) vx tv := by rw [hce]; exact hv sd Hd _ _ fp
  have ceL : ce.locals = C := by rw [hce, hC]; rfl
  rw [← hce] at Iblk
  rw [← hHd] at w0
  obtain ⟨se, hse⟩ : ∃ se : Shared, se = { sd with heap := pushCells (sd.heap.push { cls := .type "dict", data := .dict #[] }) scope.names } := ⟨_, rfl⟩
  rw [← hse] at Iblk
  have ste : tn 0 se.heap := T.keep _ _ _ std fun b _ o e => by rw [hse]; exact pushCells_keeps _ _ _ _ (Heap.get?_push_of_some _ e)
  have fpN : ∀ b ∈ fp, Hd b = none := fun b hb => (fpd b hb).1.1
  have fpX : ∀ {σ' : L2.St} {H' : Hp} {s' : Shared}, Inv (X.blk sd Hd scope ce fp) [] σ' H' s' → (∀ b ∈ fp, H' b = none) → ∀ b ∈ fp, FpOk (X.blk sd Hd scope ce fp) [] H' b := fun I' hn b hb =>
    ⟨hn b hb, (I'.ok.exf b hb).1, I'.ok.exfs b hb, .inl hb, fun x c e => (I'.ok.exf b hb).2 x c e, fun p hp => absurd (show p ∈ ([] : List (Addr × Obj)) ++ [] from hp) (by simp)⟩
  have post : ∀ {H' : Hp} {s' : Shared}, Inv (X.blk sd Hd scope ce fp) [] (L2.wipe σ (own.map (·.2))) H' s' → Q (.ref D) H' → compPost (model X.prog X.w) X.A X.xe none (EP X pins σ Q) (.ref D) C (.ok .next) s' := fun {H' s'} I' q' => by
    have back : Inv X pins σ H' s' := Id.call' (ch := fp) I'.os I'.base I'.hok I'.bare fun b hb => ⟨(fpd b hb).1.2.2.2.1, (fpd b hb).1.2.1, (fpd b hb).1.2.2.2.2.1, (fpd b hb).1.2.2.2.2.2⟩
    have nC : H' C = none := by
      have z : H' ce.locals = none := I'.free
      rw [ceL] at z; exact z
    obtain ⟨m, hns, _⟩ := I'.loc
    have hns : s'.heap.Ns ce.locals m := hns
    rw [ceL] at hns
    obtain ⟨f0, f1, f2, f3, f4, f5⟩ := Id.fpOk (Nat.le_of_eq hC.symm) nC
    exact ⟨m, hns, fun h'' sb2 => ⟨.ref D, H', back.turned (t' := s'.toks) (fun b o hb e => (sb2.2 b hb).trans e) f0 f1 f3 f4 f5, rfl, q'⟩⟩
  have loop : codeAny (model X.prog X.w) X.A (.compLoop (.DictComp kx vx [⟨tg, iter, ifs, 0⟩] scope pos) 0 (.ref it) (.ref D) ce) (compPost (model X.prog X.w) X.A X.xe none (EP X pins σ Q) (.ref D) C) se := by
    refine compLoop_anyD (fun n s' => ∃ i H', Inv (X.blk sd Hd scope ce fp) [] (L2.wipe σ (own.map (·.2))) H' s' ∧ tn i s'.heap ∧ (∀ b ∈ fp, H' b = none) ∧ W i n H') ?_ m0 ⟨0, Hd, Iblk, ste, fpN, w0⟩
    rintro n s1 ⟨i, H1, I1, st1, n1, w1⟩
    rcases turn i n H1 w1 with ⟨stop, qq⟩ | ⟨go, Nx, hNx, step⟩
    · refine thnF (T.done (X.blk sd Hd scope ce fp) rfl rfl rfl hc i [] s1 _ H1 (fun _ _ => False) I1 (fpX I1 n1) st1 stop) fun r s2 ⟨er, I2⟩ => ?_
      subst er
      exact post I2 qq
    · refine thnF (T.item (X.blk sd Hd scope ce fp) rfl rfl rfl hc i [] s1 _ H1 (fun _ _ => False) I1 (fpX I1 n1) st1 go) fun r s2 ⟨u, er, h2⟩ => ?_
      subst er
      refine thnF h2 fun _ s3 ⟨x, H3, I3, r3, y3, st3, n3⟩ => ?_
      have I3p := I3.pinned (fpX I3 n3) (T.obj _ _ st3)
      refine thnF (pg.run _ s3 _ H3 x u _ I3p r3 (step x H3 y3)) fun _ s4 ⟨σ4, H4, I4, wp4, q4⟩ => ?_
      refine thnF (pt.run _ s4 σ4 H4 _ I4 q4) fun b s5 ⟨H5, I5, q5⟩ => ?_
      -- what is left for the next turn
      have again : ∀ {s' : Shared} {H' : Hp}, Inv (X.blk sd Hd scope ce fp) ([] ++ pinsAt fp s3.heap) σ4 H' s' → Nx H' → ∃ m, m < n ∧ ∃ i H', Inv (X.blk sd Hd scope ce fp) [] (L2.wipe σ (own.map (·.2))) H' s' ∧ tn i s'.heap ∧ (∀ b ∈ fp, H' b = none) ∧ W i m H' := fun {s' H'} I' nx => by
        obtain ⟨m', hm, w'⟩ := hNx H' nx
        have held : ∀ b ∈ fp, ∀ o, s3.heap.get? b = some o → s'.heap.get? b = some o ∧ H' b = none := fun b hb o e =>
          let z := I'.pin (b, o) (List.mem_append_right _ (List.mem_append_right _ (mem_pinsAt hb e)))
          ⟨z.1, z.2.1⟩
        refine ⟨m', hm, i + 1, H', (I'.unpinned (pins := [])).weak (by rw [← wp4, wipe_length]) (fun j v e => by rw [← wp4] at e; exact (wipe_some e).1), T.keep _ _ _ st3 fun b hb o e => (held b hb o e).1, fun b hb => ?_, w'⟩
        obtain ⟨o, e, _⟩ := T.obj _ _ st3 b hb
        exact (held b hb o e).2
      cases b with
      | false =>
        simp only [Bool.false_eq_true, if_false] at q5 ⊢
        exact again I5 q5
      | true =>
        simp only [if_true] at q5 ⊢
        refine thnF (pk.run _ s5 σ4 H5 _ I5 q5) fun kv s6 ⟨y6, H6, I6, r6, q6⟩ => ?_
        refine thnF (pv.run _ s6 σ4 H6 _ I6 q6) fun vv s7 ⟨z7, H7, I7, r7, xs, ep, d, ks, hD7, kok, ek, rk, ry, hfit, hz, nx⟩ => ?_
        exact dic_dictSet (X := X.blk sd Hd scope ce fp) (by show X.A.units + 9 < cLine; omega) I7 hD7 (dic_case (X := X.blk sd Hd scope ce fp) (κ := κ) I7 (.inl ⟨ep, hD7⟩) kok ek rk ry hfit) r6 r7 hz fun s8 ep' I8 => again I8 (nx ep')
  subst hse; subst hce; subst hC; subst hsd
  exact codeAny_compStart_dict loop (T.self X.A 0 _ _ _ ste loop)
end
end DL
end
section
/-! DLq: comprehensions of dicts over plain values; dict of pairs. -/
namespace DL
open PySem PySem.Spec PyProof.Rows L2

def dcGo (bd : Bd) (test : EvB) (fk fv : Ev) (ρ0 : Rho) : List D → List D → List D → Cup → Option (D × Cup)
  | [], ks, vs, c => some (.dic ks vs, c)
  | d :: ds, ks, vs, c => match bd ρ0 d with
    | some ρ => match test ρ c with
      | some (true, c1) => match fk ρ c1 with
        | some (k, c2) => match fv ρ c2 with
          | some (v, c3) => if keyFits ks k then if ks.length < lim then match kPutD ks vs k v with
            | .dic ks' vs' => dcGo bd test fk fv ρ0 ds ks' vs' c3
            | _ => none
            else none
            else none
          | none => none
        | none => none
      | some (false, c1) => dcGo bd test fk fv ρ0 ds ks vs c1
      | none => none
    | none => none
def dDc (vs : List Nat) (it : EvL) (bd : Bd) (test : EvB) (fk fv : Ev) : Ev := fun ρ c => match it ρ c with
  | some (ds, c1) => dcGo bd test fk fv (wipeD ρ vs) ds [] [] c1
  | none => none
section
variable {X : Cx} {κ : Addr} {pos : Pos}
theorem dn_dc {kx vx tg iter : Expr} {ifs : List Expr} {scope : Scope} {own : List (Str × Nat)} {sl : List Nat} {it : EvL} {bd : Bd} {test : EvB} {fk fv : Ev} (hc : X.calm = true) (hu : X.A.units + 65 < cLine) (hN : X.N.Nodup) (hi : DI X κ tg iter it) (ok : BlkOk X.N X.env.scope scope own)
    (hsl : ∀ j ∈ sl, j ∈ own.map (·.2))
    (hg : ∀ (s : Shared) (H : Hp) (C : Addr) (cl : List (Str × Addr)) (fp : List Addr), DG (X.blk s H scope (compEnvC scope cl C X.env) fp) κ tg sl bd) (ht : ∀ (s : Shared) (H : Hp) (C : Addr) (cl : List (Str × Addr)) (fp : List Addr), DTs (X.blk s H scope (compEnvC scope cl C X.env) fp) κ ifs test)
    (hk : ∀ (s : Shared) (H : Hp) (C : Addr) (cl : List (Str × Addr)) (fp : List Addr), DE (X.blk s H scope (compEnvC scope cl C X.env) fp) κ kx fk)
    (hv : ∀ (s : Shared) (H : Hp) (C : Addr) (cl : List (Str × Addr)) (fp : List Addr), DE (X.blk s H scope (compEnvC scope cl C X.env) fp) κ vx fv) (hs : ∀ x, foldedSetIterable iter X.env x = pure x := by intro _; rfl) :
    DN X κ (.DictComp kx vx [⟨tg, iter, ifs, 0⟩] scope pos) (dDc (own.map (·.2)) it bd test fk fv) := by
  have hg' : ∀ (s : Shared) (H : Hp) (C : Addr) (cl : List (Str × Addr)) (fp : List Addr), PG (X.blk s H scope (compEnvC scope cl C X.env) fp) tg (tGD (bx X κ) sl bd) := hg
  have ht' : ∀ (s : Shared) (H : Hp) (C : Addr) (cl : List (Str × Addr)) (fp : List Addr), PTs (X.blk s H scope (compEnvC scope cl C X.env) fp) ifs (tDT (bx X κ) test) := ht
  have hk' : ∀ (s : Shared) (H : Hp) (C : Addr) (cl : List (Str × Addr)) (fp : List Addr), PE (X.blk s H scope (compEnvC scope cl C X.env) fp) kx (tD (bx X κ) fk) := hk
  have hv' : ∀ (s : Shared) (H : Hp) (C : Addr) (cl : List (Str × Addr)) (fp : List Addr), PE (X.blk s H scope (compEnvC scope cl C X.env) fp) vx (tD (bx X κ) fv) := hv
  refine (pe_dcD (κ := κ) hc hu hN hi ok hg' ht' hk' hv' hs).imp fun σ H Q ⟨A, ρ, c, d, c', E, hf, q⟩ => ?_
  unfold dDc at hf
  split at hf
  · rename_i ds c1 e1
    refine ⟨A, ρ, c, ds, c1, E, e1, fun J H1 x1 hc1 itd La hD => ?_⟩
    have E1 := E.mono x1 hc1
    have nAD : ¬ A La := E1.fresh hD
    have hD0 : H La = none := by
      cases e : H La with
      | none => rfl
      | some o =>
        by_cases hk : La = κ
        · subst hk; rw [hD] at hc1; cases hc1
        · rw [x1 La o hk e] at hD; cases hD
    let A' : Addr → Prop := fun a => A a ∨ a = La
    have κLa : κ ≠ La := ne_of_none hc1 hD
    have κA : A κ := E.κA
    -- the heap H2 keeps H1 but for La
    let K : Hp → Prop := fun H2 => ∀ a o, a ≠ κ → H1 a = some o → H2 a = some o
    have sm : ∀ {H2 : Hp}, K H2 → Same (cut H1 A) (cut H2 A') := fun {H2} k a o e => by
      obtain ⟨na, e⟩ := of_cut e
      exact cut_of (fun z => z.elim na (ne_of_none e hD)) (k a o (fun z => na (z ▸ κA)) e)
    have Erel : ∀ {H2 : Hp} {xs : List (D × V × V)} {ep : Nat} {cc : Cup}, K H2 → H2 κ = some (cupO cc) → H2 La = some (dO X.w La xs ep) → ERel (bx X κ) A' (L2.wipe σ (own.map (·.2))) H2 (wipeD ρ (own.map (·.2))) cc := fun {H2 xs ep cc} kk hk hd => by
      have E1w := E1.wipe (own.map (·.2))
      refine ⟨E1w.len, .inl κA, hk, fun a h => ?_, fun i b d hslot => ?_⟩
      · rcases h with h | h
        · by_cases hak : a = κ
          · subst hak; exact ⟨_, hk, trivial⟩
          · obtain ⟨o, e, m⟩ := E1.trk a h
            exact ⟨o, kk a o hak e, m⟩
        · subst h; exact ⟨_, hd, mut_dO⟩
      · obtain ⟨v, h1, h2⟩ := E1w.slot i b d hslot
        refine ⟨v, h1, ?_⟩
        cases b with
        | false => exact Rep.mono (sm kk) d v h2
        | true =>
          obtain ⟨a, rfl, ha, hn, o⟩ := h2
          exact ⟨a, rfl, .inl ha, hn, o.mono (fun o q => kk a o hn q) (sm kk)⟩
    let I : Nat → Hp → Prop := fun i H2 => ∃ (ks vs : List D) (xs : List (D × V × V)) (ep : Nat) (cc : Cup), H2 La = some (dO X.w La xs ep) ∧ KOk ks ∧ xs.map (·.1) = ks ∧ Reps (bx X κ) (cut H2 A') ks (xs.map (·.2.1)) ∧ Reps (bx X κ) (cut H2 A') vs (xs.map (·.2.2)) ∧ H2 κ = some (cupO cc) ∧ K H2 ∧
        dcGo bd test fk fv (wipeD ρ (own.map (·.2))) (ds.drop i) ks vs cc = some (d, c')
    refine ⟨fun i m H2 => m = ds.length - i ∧ i ≤ ds.length ∧ I i H2, ⟨ds.length, by simp, Nat.zero_le _, [], [], [], 0, c1, upd_same, kOk_nil, rfl, .nil, .nil, ?_, fun a o _ e => by rw [upd_ne (ne_of_none e hD)]; exact e, by rw [List.drop_zero]; exact hf⟩, ?_⟩
    · rw [upd_ne κLa]; exact hc1
    · rintro i m H2 ⟨rfl, hil, ks, vs, xs, ep, cc, hd, kok, ek, rk, rd, hk, kk, hgo⟩
      have E2 := Erel kk hk hd
      obtain ⟨istop, igo⟩ := itd A' H2 (sm kk) (fun p hp h => by
        obtain ⟨o, e, _⟩ := E2.trk p h
        rw [hp] at e; cases e) i
      by_cases hlt : i < ds.length
      · have hdi : ds[i]? = some ds[i] := List.getElem?_eq_getElem hlt
        obtain ⟨go, yld⟩ := igo _ hdi
        rw [drop_at hdi] at hgo
        refine .inr ⟨go, fun H3 => I (i + 1) H3, fun H' h => ⟨ds.length - (i + 1), by omega, rfl, hlt, h⟩, fun x H3 y => ?_⟩
        obtain ⟨sm3, rx⟩ := yld x H3 y
        have E3 := E2.mono (Same.ext sm3) (sm3 _ _ hk)
        have k3 : K H3 := fun a o n e => sm3 a o (kk a o n e)
        simp only [dcGo] at hgo
        split at hgo
        · rename_i ρ1 hb
          refine ⟨A', wipeD ρ (own.map (·.2)), cc, _, ρ1, E3, rx, hb, fun σ' st E4 => ⟨?_, ?_⟩⟩
          · rw [wipe_congr (σ := L2.wipe σ (own.map (·.2))) st.len fun j hj => st.rest j fun z => hj (hsl j z)]
            exact wipe_congr (wipe_length _ _) fun j hj => wipe_out hj
          · split at hgo
            · rename_i c3 ht3
              refine ⟨A', ρ1, cc, true, c3, E4, ht3, fun H4 x4 hk4 => ?_⟩
              refine iteT ?_
              have E5 := E4.mono x4 hk4
              split at hgo
              · rename_i kd c4 he4
                split at hgo
                · rename_i vd c5 he5
                  split at hgo
                  · rename_i hfit
                    split at hgo
                    · rename_i hlen
                      refine ⟨A', ρ1, c3, kd, c4, E5, he4, fun y5 H5 x5 hk5 r5 => ?_⟩
                      have E6 := E5.mono x5 hk5
                      refine ⟨A', ρ1, c4, vd, c5, E6, he5, fun z6 H6 x6 hk6 r6 => ?_⟩
                      have xx : Ext κ H2 H6 := (Same.ext sm3).trans ((x4.trans x5).trans x6)
                      have hdD : H6 La = some (dO X.w La xs ep) := xx La _ (Ne.symm κLa) hd
                      have κA' : A' κ := .inl κA
                      have rk6 := Reps.mono (xx.cut κA') _ _ rk
                      have rd6 := Reps.mono (xx.cut κA') _ _ rd
                      have r5' := Rep.mono (x6.cut κA') _ _ r5
                      obtain ⟨ks', ds', ed, kok', ek', rk', rd'⟩ := putD_dic kok hfit ek rk6 rd6 r5' r6
                      rw [ed] at hgo
                      refine ⟨xs, ep, kd, ks, hdD, kok, ek, Reps.mono cut_same _ _ rk6, Rep.mono cut_same _ _ r5', hfit, ?_, fun ep' => ⟨ks', ds', vPut xs kd y5 z6, ep', c5, upd_same, kok', ek', Reps.mono (cut_upd (.inr rfl)) _ _ rk', Reps.mono (cut_upd (.inr rfl)) _ _ rd', ?_, fun a o n e => ?_, hgo⟩⟩
                      · rw [← List.length_map (f := (·.1)), ek]
                        exact Nat.lt_of_lt_of_le hlen (lim_line (Nat.le_refl lim))
                      · rw [upd_ne κLa]; exact hk6
                      · rw [upd_ne (ne_of_none e hD)]
                        exact xx a o n (kk a o n e)
                    · cases hgo
                  · cases hgo
                · cases hgo
              · cases hgo
            · rename_i c3 ht3
              refine ⟨A', ρ1, cc, false, c3, E4, ht3, fun H4 x4 hk4 => ?_⟩
              refine iteF ?_
              have xx : Ext κ H2 H4 := (Same.ext sm3).trans x4
              exact ⟨ks, vs, xs, ep, c3, xx La _ (Ne.symm κLa) hd, kok, ek, Reps.mono (xx.cut (.inl κA)) _ _ rk, Reps.mono (xx.cut (.inl κA)) _ _ rd, hk4, fun a o n e => xx a o n (kk a o n e), hgo⟩
            · cases hgo
        · cases hgo
      · have hi' : i = ds.length := by omega
        refine .inl ⟨istop (by omega), ?_⟩
        rw [hi', List.drop_length] at hgo
        simp only [dcGo] at hgo
        cases hgo
        exact q La H2 (fun a o n e => kk a o n (x1 a o n e)) hk hD0 ⟨xs, ep, hd, kok, ek, rk, rd⟩ ⟨_, hd, mut_dO⟩
  · cases hf
end
end DL
end
section
/-! DLr: dict of a list of pairs; isinstance; zip, enumerate. -/
namespace DL
open PySem PySem.Spec PyProof.Rows L2

/-! ### dict([(k, v), ..]) -/
def pairsD : List D → Option (List D × List D)
  | [] => some ([], [])
  | .tup [k, v] :: r => match pairsD r with
    | some (ks, vs) => if (skey k).isSome then some (k :: ks, v :: vs) else none
    | none => none
  | _ => none
def biDict : List D → Option D
  | [.lst ds] => if ds.length ≤ lim then match pairsD ds with
    | some (ks, vs) => kPuts (.dic [] []) ks vs
    | none => none
    else none
  | _ => none
def dDict (fs : EvL) : Ev := dBi biDict fs
theorem key_is (P : Program) (w : World) {k : Key} {u : Value} (r : L2.RelV (kV k) u) : keyIs k u = true := kV_is (P := P) (w := w) r
section
variable {X : Cx} {κ : Addr} {pins : List (Addr × Obj)} {σ : L2.St} {H : Hp} {s : Shared}
/-- the pairs of a list of pairs, as the library asks for them -/
theorem pairs_at (I : Inv X pins σ H s) {A : Addr → Prop} : ∀ {ds : List D} {vs : List V} {us : List Value} {ks es : List D}, Reps (bx X κ) (cut H A) ds vs → L2.Vals vs us → pairsD ds = some (ks, es) →
    ∃ (prs : List (Key × Value)) (xs : List (D × V × V)), Paired SRelK xs prs ∧ prs.length = us.length ∧ xs.map (·.1) = ks ∧ Reps (bx X κ) (cut H A) ks (xs.map (·.2.1)) ∧ Reps (bx X κ) (cut H A) es (xs.map (·.2.2)) ∧
      ∀ (j : Nat) (q : Key × Value), prs[j]? = some q → ∃ (b : Addr) (u : Value), us[j]? = some (.ref b) ∧ IsTup s.heap b #[u, q.2] ∧ keyIs q.1 u = true
  | [], _, _, ks, es, r, rv, h => by
    rw [r.nil_inv] at rv
    cases rv
    cases h
    exact ⟨[], [], .nil, rfl, rfl, .nil, .nil, fun j q e => by simp at e⟩
  | d :: ds, _, us, ks, es, r, rv, h => by
    obtain ⟨v, rest, rfl, r1, r2⟩ := r.cons_inv
    cases rv with
    | cons rv1 rv2 =>
    rename_i u us'
    unfold pairsD at h
    split at h
    · rename_i z; cases z
    · rename_i k e r' z
      cases z
      split at h
      · rename_i ks' es' e1
        split at h
        · rename_i hk
          cases h
          obtain ⟨prs, xs, h1, h2, h3, h4, h5, h6⟩ := pairs_at I r2 rv2 e1
          obtain ⟨kk, hkk⟩ := Option.isSome_iff_exists.mp hk
          have ekk := kD_of hkk
          simp only [Rep] at r1
          obtain ⟨a, ws, rfl, hS, rs⟩ := r1
          obtain ⟨w1, rest2, rfl, q1, q2⟩ := rs.cons_inv
          obtain ⟨w2, rest3, rfl, q3, q4⟩ := q2.cons_inv
          have := q4.nil_inv
          subst this
          obtain ⟨its, ri, ht, _⟩ := I.tuple (SqT_same cut_same hS)
          obtain ⟨y1, y2, rfl, ry1, ry2⟩ := ri.two
          cases (show u = Value.ref a from rv1)
          have ew : w1 = kV kk := rep_kD (ekk ▸ q1)
          refine ⟨(kk, y2) :: prs, (k, w1, w2) :: xs, .cons ⟨ekk, ew, ry2⟩ h1, by simp [h2], by simp [h3], .cons q1 h4, .cons q3 h5, fun j q e => ?_⟩
          cases j with
          | zero =>
            cases e
            exact ⟨a, y1, rfl, ht, key_is X.prog X.w (ew ▸ ry1)⟩
          | succ j =>
            obtain ⟨b, u, g1, g2, g3⟩ := h6 j q e
            exact ⟨b, u, g1, g2, g3⟩
        · cases h
      · cases h
    · cases h
def rDictP (B : Bx) : List V → Hp → VK → Prop := fun vs H Q => ∃ (A : Addr → Prop) (ds : List D) (d : D), (∀ p, H p = none → ¬ A p) ∧ Paired (fun d v => ∃ b, Slot B A H b d v) ds vs ∧ biDict ds = some d ∧
  ∀ p H', Same H H' → H p = none → Own B H' (cut H' fun a => A a ∨ a = p) d p → (∃ o, H' p = some o ∧ Mut (some o)) → Q (.ref p) H'
theorem ci_dict (hc : X.calm = true) : CallR X (.type "dict") (rDictP (bx X κ)) := by
  rintro pins s σ H vs us Q I r ⟨A, ds, d, fr, sl, hg, q⟩
  unfold biDict at hg
  split at hg
  · split at hg
    · rename_i ds hlim
      split at hg
      · rename_i ks es ep
        obtain ⟨b, v, rfl, s1⟩ := slot1 sl
        obtain ⟨a, ws, rfl, h1, r1⟩ := s1.lst_inv
        obtain ⟨u, rfl, ru⟩ := vals1 r
        cases (show u = Value.ref a from ru)
        obtain ⟨its, rv, ⟨ob, n, ho, hcl, hdi, hdat⟩, hz⟩ := I.list (SqL.of h1)
        obtain ⟨prs, xs, p1, p2, p3, p4, p5, p6⟩ := pairs_at I r1 rv ep
        have hl : its.length = ds.length := by rw [← rv.length, ← r1.length]
        refine call_dict_pairs (prs := prs) (I.ok.hd hc) ho hcl hdi hdat (by simp [p2]) (by rw [p2, hl]; exact lim_line hlim) (fun j q' e => ?_) fun h' tk hd' k => ?_
        · obtain ⟨b, u, e1, e2, e3⟩ := p6 j q' e
          exact ⟨b, u, by simp [e1], e2, e3⟩
        · obtain ⟨ks', ds', rfl, kok3, ek3, rk3, rd3, hz3⟩ := kPuts_rel (B := bx X κ) (G := cut H A) (xs := []) kOk_nil rfl .nil .nil p3 p4 p5 hg
          have hm : (s.heap.objs.size == sysModules) = false := beq_eq_false_iff_ne.mpr (Nat.ne_of_gt I.big)
          have hz4 : (vPuts [] xs).length ≤ sizeLine := Nat.le_trans hz3 (by rw [sizeLine_eq]; show max 0 lim ≤ 16777216; decide)
          obtain ⟨ep', dp⟩ := scal_new hm hz4 (scal_puts .nil p1) hd'
          have fz : H s.heap.objs.size = none := I.hok.fresh (Nat.le_refl _)
          have sm : Same (cut H A) (cut (upd H s.heap.objs.size (dO X.w s.heap.objs.size (vPuts [] xs) ep')) fun a => A a ∨ a = s.heap.objs.size) := fun b o e => by
            obtain ⟨nb, e⟩ := of_cut e
            have hb : b ≠ s.heap.objs.size := ne_of_none e fz
            exact cut_of (fun z => z.elim nb hb) (by rw [upd_ne hb]; exact e)
          refine ⟨.ref s.heap.objs.size, upd H s.heap.objs.size (dO X.w s.heap.objs.size (vPuts [] xs) ep'), I.laid (t' := tk) k (Nat.le_refl _) dp.obj, rfl, q _ _ (same_upd fz) fz ⟨vPuts [] xs, ep', upd_same, kok3, ek3, Reps.mono sm _ _ rk3, Reps.mono sm _ _ rd3⟩ ⟨_, upd_same, mut_dO⟩⟩
      · cases hg
    · cases hg
  · cases hg
theorem dn_dict {e : Expr} {es : List Expr} {fs : EvL} {x : Str} {p pos : Pos} (hc : X.calm = true) (hg : Gl X x) (hm : X.mg x = none) (hv : bootBuiltins x = some (.type "dict")) (ha : DPA X κ (e :: es) fs) (hn : x ≠ "__name__" := by decide) (hdb : (x == ("__debug__" : Str)) = false := by decide)
    (he : starEach (e :: es) X.env = (false, eval e X.env) :: starEach es X.env := by rfl) (hpl : (backTo pos (starEach es X.env)).any (·.1) = false := by rfl) : DN X κ (.Call (.Name x p) (e :: es) [] pos) (dDict fs) :=
  (pe_callTy (ci_dict (κ := κ) hc) hg hm hv ha hn hdb he hpl).imp fun σ H Q ⟨A, ρ, c, d, c', E, hf, q⟩ => by
    unfold dDict dBi at hf
    split at hf
    · rename_i ds c1 e1
      split at hf
      · rename_i d2 e2
        cases hf
        refine ⟨A, ρ, c, ds, _, E, e1, fun vs H1 x1 hc1 sl => ⟨A, ds, d, fun p hp => (E.mono x1 hc1).fresh hp, sl, e2, fun p H2 sm hp ow hm => ?_⟩⟩
        have hp0 : H p = none := by
          cases e : H p with
          | none => rfl
          | some o =>
            by_cases hk : p = κ
            · subst hk; rw [hp] at hc1; cases hc1
            · rw [x1 p o hk e] at hp; cases hp
        exact q p H2 (x1.trans (Same.ext sm)) (sm _ _ hc1) hp0 ow hm
      · cases hf
    · cases hf
end
end DL
end
section
/-! DLs: isinstance; zip, enumerate. -/
namespace DL
open PySem PySem.Spec PyProof.Rows L2

/-! ### isinstance(x, T) -/
inductive Ty6 where | int | str | tuple | bool | list | dict
def Ty6.s : Ty6 → String
  | .int => "int" | .str => "str" | .tuple => "tuple" | .bool => "bool" | .list => "list" | .dict => "dict"
/-- the type's name of a value -/
def D.tyS : D → String
  | .non => "NoneType" | .bl _ => "bool" | .int _ => "int" | .str _ => "str" | .tup _ => "tuple" | .lst _ => "list" | .dic _ _ => "dict" | .cup => "list"
def isiD : Ty6 → D → Bool
  | .int, .int _ => true | .int, .bl _ => true | .str, .str _ => true | .tuple, .tup _ => true | .bool, .bl _ => true | .list, .lst _ => true | .dict, .dic _ _ => true | _, _ => false
theorem kit_D (K : PySem.W.Frag) (T : Ty6) (d : D) (h : d ≠ .cup) : PySem.W.kitOne K (.type d.tyS) (.type T.s) = some (isiD T d) := by
  cases d <;> first | exact absurd rfl h | (cases T <;> rfl)
def dIsi (T : Ty6) (f : Ev) : Ev := fun ρ c => match f ρ c with
  | some (.cup, _) => none
  | some (d, c1) => some (.bl (isiD T d), c1)
  | none => none
theorem dIsi_some {T : Ty6} {f : Ev} {ρ : Rho} {c c' : Cup} {d : D} (h : dIsi T f ρ c = some (d, c')) : ∃ d1, f ρ c = some (d1, c') ∧ d1 ≠ .cup ∧ d = .bl (isiD T d1) := by
  unfold dIsi at h
  split at h
  · cases h
  · rename_i d1 c1 hn e
    cases h
    exact ⟨d1, e, fun z => hn z, rfl⟩
  · cases h
section
variable {X : Cx} {κ : Addr} {pins : List (Addr × Obj)} {σ : L2.St} {H : Hp} {s : Shared}
theorem kit_at (I : Inv X pins σ H s) {A : Addr → Prop} {b : Bool} {d : D} {v : V} {u : Value} (sl : Slot (bx X κ) A H b d v) (hd : d ≠ .cup) (r : L2.RelV v u) :
    ∃ P : Heap → Prop, PySem.W.KitX X.K u (.type d.tyS) P ∧ P s.heap ∧ u ≠ .builtin "__main__.__loader__#opaque" := by
  cases d with
  | non => rw [sl.non_inv] at r; cases (show u = Value.none from r); exact ⟨_, PySem.W.kitx_none, True.intro, fun z => nomatch z⟩
  | bl y => rw [sl.bl_inv] at r; cases (show u = Value.bool y from r); exact ⟨_, PySem.W.kitx_bool, True.intro, fun z => nomatch z⟩
  | int y => rw [sl.int_inv] at r; obtain ⟨t, q⟩ := (show ∃ t, u = Value.int y t from r); cases q; exact ⟨_, PySem.W.kitx_int, True.intro, fun z => nomatch z⟩
  | str y => rw [sl.str_inv] at r; obtain ⟨t, q⟩ := (show ∃ t, u = Value.str y t from r); cases q; exact ⟨_, PySem.W.kitx_str, True.intro, fun z => nomatch z⟩
  | tup ds =>
    obtain ⟨a, vs, rfl, h1, _⟩ := sl.tup_inv
    cases (show u = Value.ref a from r)
    obtain ⟨_, _, ⟨o, ho, hc, _⟩, _⟩ := I.tuple h1
    exact ⟨_, PySem.W.kitx_tuple, ⟨o, ho, hc⟩, fun z => nomatch z⟩
  | lst ds =>
    obtain ⟨a, vs, rfl, h1, _⟩ := sl.lst_inv
    cases (show u = Value.ref a from r)
    obtain ⟨_, _, n, _, h2⟩ := I.hok a _ h1
    exact ⟨_, PySem.W.kitx_list, ⟨_, h2, rfl⟩, fun z => nomatch z⟩
  | dic ks ds =>
    obtain ⟨a, xs, rfl, at', _⟩ := sl.dic_inv
    cases (show u = Value.ref a from r)
    obtain ⟨_, _, es, ep, ⟨o, ho, hx, _⟩, _⟩ := dict_raw I at'
    exact ⟨_, PySem.W.kitx_dict, ⟨o, ho, hx.1⟩, fun z => nomatch z⟩
  | cup => exact absurd rfl hd
def rIsiD (B : Bx) (T : Ty6) : List V → Hp → VK → Prop := fun vs H Q => ∃ (A : Addr → Prop) (b : Bool) (d : D) (v : V), vs = [v, .ty T.s] ∧ Slot B A H b d v ∧ d ≠ .cup ∧ Q (.bl (isiD T d)) H
theorem ci_isi (T : Ty6) : CallR X (.builtin "isinstance") (rIsiD (bx X κ) T) := by
  rintro pins s σ H vs us Q I r ⟨A, b, d, v, rfl, sl, hd, q⟩
  obtain ⟨u1, u2, rfl, r1, r2⟩ := vals2 r
  cases (show u2 = Value.type T.s from r2)
  obtain ⟨P, Z, p, hx⟩ := kit_at I sl hd r1
  exact PySem.W.kia_one Z I.kIn p (kit_D X.K T d hd) hx fun tk => ⟨.bl _, H, I.tok tk, rfl, q⟩
variable {e : Expr} {f : Ev} {x : Str} {p p2 pos : Pos}
theorem isi_pe (T : Ty6) (h : DP X κ e f) (hg : Gl X "isinstance") (hm : X.mg "isinstance" = none) (hg2 : Gl X x) (hm2 : X.mg x = none) (hv2 : bootBuiltins x = some (.type T.s)) (hn : x ≠ "__name__") (hd : (x == ("__debug__" : Str)) = false)
    (hs1 : starEach [e, .Name x p2] X.env = (false, eval e X.env) :: starEach [.Name x p2] X.env) (hs2 : starEach [.Name x p2] X.env = (false, eval (.Name x p2) X.env) :: starEach [] X.env) (hpl : (backTo pos (starEach [.Name x p2] X.env)).any (·.1) = false) :
    DE X κ (.Call (.Name "isinstance" p) [e, .Name x p2] [] pos) (dIsi T f) :=
  (pe_callB (ci_isi (κ := κ) T) hg hm (by rfl) (pa_cons h (pa_cons (pe_bltn (v := .ty T.s) hg2 hm2 hv2 rfl hn hd) pa_nil hs2) hs1) (by decide) (by decide) hs1 hpl).imp fun σ H Q ⟨A, ρ, c, d, c', E, hf, q⟩ => by
    obtain ⟨d1, e1, hc, rfl⟩ := dIsi_some hf
    exact ⟨A, ρ, c, d1, c', E, e1, fun b v H1 x1 hc1 sl => ⟨A, b, d1, v, rfl, sl, hc, q _ H1 x1 hc1 rep_bl⟩⟩
end

/-! ### zip, enumerate -/
def zipD : List D → List D → List D
  | x :: xs, y :: ys => .tup [x, y] :: zipD xs ys
  | _, _ => []
def dZip (fs : EvL) : EvL := fun ρ c => match fs ρ c with
  | some ([.lst xs, .lst ys], c1) => some (zipD xs ys, c1)
  | some ([.tup xs, .tup ys], c1) => some (zipD xs ys, c1)
  | _ => none
theorem zipD_len : ∀ xs ys : List D, (zipD xs ys).length = min xs.length ys.length
  | [], _ => by simp [zipD]
  | _ :: _, [] => by simp [zipD]
  | x :: xs, y :: ys => by simp only [zipD, List.length_cons, zipD_len xs ys]; omega
theorem zipD_get : ∀ {xs ys : List D} {i : Nat} {d : D}, (zipD xs ys)[i]? = some d → ∃ x y, xs[i]? = some x ∧ ys[i]? = some y ∧ d = .tup [x, y]
  | [], _, _, _, h => by simp [zipD] at h
  | _ :: _, [], _, _, h => by simp [zipD] at h
  | x :: xs, y :: ys, 0, _, h => by
    simp only [zipD, List.getElem?_cons_zero, Option.some.injEq] at h
    exact ⟨x, y, rfl, rfl, h.symm⟩
  | x :: xs, y :: ys, i + 1, _, h => by
    simp only [zipD, List.getElem?_cons_succ] at h
    obtain ⟨x', y', h1, h2, h3⟩ := zipD_get h
    exact ⟨x', y', by simpa using h1, by simpa using h2, h3⟩
section
variable {B : Bx} {G : Hp} {a b : Addr} {xs ys : List D} {vs ws : List V}
theorem itD_zip (h1 : G a = some (.lst vs)) (h2 : G b = some (.lst ws)) (r1 : Reps B G xs vs) (r2 : Reps B G ys ws) : ItD B G (zipD xs ys) (Itz B.K a b) := fun A H sm fr i => by
  have e1 : SqL B.K H a vs := SqL.of (cut_same _ _ (sm _ _ h1))
  have e2 : SqL B.K H b ws := SqL.of (cut_same _ _ (sm _ _ h2))
  have l1 := r1.length
  have l2 := r2.length
  refine ⟨fun hi => ⟨vs, ws, e1, e2, ?_⟩, fun d hd => ?_⟩
  · rw [zipD_len] at hi
    omega
  · obtain ⟨x, y, hx, hy, rfl⟩ := zipD_get hd
    obtain ⟨v, hv, rv⟩ := r1.get hx
    obtain ⟨w, hw, rw'⟩ := r2.get hy
    refine ⟨⟨vs, ws, v, w, e1, e2, hv, hw⟩, fun z H' y' => ?_⟩
    obtain ⟨T, x1, y1, rfl, hT, rfl, f1, f2⟩ := y'
    have q1 := f1 vs e1
    have q2 := f2 ws e2
    rw [hv] at q1; cases q1
    rw [hw] at q2; cases q2
    exact ⟨same_upd hT, rep_new_tup hT (fr T hT) (.cons (Rep.mono sm _ _ rv) (.cons (Rep.mono sm _ _ rw') .nil))⟩
theorem itD_zipT (h1 : SqT B.K G a vs) (h2 : SqT B.K G b ws) (r1 : Reps B G xs vs) (r2 : Reps B G ys ws) : ItD B G (zipD xs ys) (RZ.ItzT B.K a b) := fun A H sm fr i => by
  have e1 : SqT B.K H a vs := SqT_same cut_same (SqT_same sm h1)
  have e2 : SqT B.K H b ws := SqT_same cut_same (SqT_same sm h2)
  have l1 := r1.length
  have l2 := r2.length
  refine ⟨fun hi => ⟨vs, ws, e1, e2, ?_⟩, fun d hd => ?_⟩
  · rw [zipD_len] at hi
    omega
  · obtain ⟨x, y, hx, hy, rfl⟩ := zipD_get hd
    obtain ⟨v, hv, rv⟩ := r1.get hx
    obtain ⟨w, hw, rw'⟩ := r2.get hy
    refine ⟨⟨vs, ws, v, w, e1, e2, hv, hw⟩, fun z H' y' => ?_⟩
    obtain ⟨T, x1, y1, rfl, hT, rfl, f1, f2⟩ := y'
    have q1 := f1 vs e1
    have q2 := f2 ws e2
    rw [hv] at q1; cases q1
    rw [hw] at q2; cases q2
    exact ⟨same_upd hT, rep_new_tup hT (fr T hT) (.cons (Rep.mono sm _ _ rv) (.cons (Rep.mono sm _ _ rw') .nil))⟩
end
section
variable {X : Cx} {κ : Addr} {e e2 : Expr} {fs : EvL} {p pos tpos : Pos} {elts : List Expr} {kk : Nat}
theorem di_zip (hg : Gl X "zip") (hm : X.mg "zip" = none) (ha : DA X κ [e, e2] fs)
    (hs : starEach [e, e2] X.env = (false, eval e X.env) :: starEach [e2] X.env := by rfl) (hpl : (backTo pos (starEach [e2] X.env)).any (·.1) = false := by rfl) :
    DI X κ (.Tuple elts kk tpos) (.Call (.Name "zip" p) [e, e2] [] pos) (dZip fs) := (RZ.pi_zipA hg hm ha hs hpl).imp fun σ H R ⟨A, ρ, c, ds, c', E, hf, q⟩ => by
  unfold dZip at hf
  split at hf
  · rename_i xs ys c1 e1
    cases hf
    refine ⟨A, ρ, c, _, _, E, e1, fun vs H1 x1 hc1 rs => ?_⟩
    obtain ⟨v, r, rfl, q1, q2⟩ := rs.cons_inv
    obtain ⟨w, r', rfl, q3, q4⟩ := q2.cons_inv
    have := q4.nil_inv
    subst this
    simp only [Rep] at q1 q3
    obtain ⟨a, vs, rfl, h1, r1⟩ := q1
    obtain ⟨b, ws, rfl, h2, r2⟩ := q3
    exact ⟨a, b, vs, ws, rfl, .inl ⟨SqL.of (of_cut h1).2, SqL.of (of_cut h2).2, q _ H1 x1 hc1 (itD_zip h1 h2 r1 r2)⟩⟩
  · rename_i xs ys c1 e1
    cases hf
    refine ⟨A, ρ, c, _, _, E, e1, fun vs H1 x1 hc1 rs => ?_⟩
    obtain ⟨v, r, rfl, q1, q2⟩ := rs.cons_inv
    obtain ⟨w, r', rfl, q3, q4⟩ := q2.cons_inv
    have := q4.nil_inv
    subst this
    simp only [Rep] at q1 q3
    obtain ⟨a, vs, rfl, h1, r1⟩ := q1
    obtain ⟨b, ws, rfl, h2, r2⟩ := q3
    exact ⟨a, b, vs, ws, rfl, .inr ⟨SqT_same cut_same h1, SqT_same cut_same h2, q _ H1 x1 hc1 (itD_zipT h1 h2 r1 r2)⟩⟩
  · cases hf
/-! enumerate of a list -/
def enumD : Nat → List D → List D
  | _, [] => []
  | n, x :: xs => .tup [.int n, x] :: enumD (n + 1) xs
theorem enumD_len : ∀ (n : Nat) (xs : List D), (enumD n xs).length = xs.length
  | _, [] => rfl
  | n, x :: xs => by simp only [enumD, List.length_cons, enumD_len (n + 1) xs]
theorem enumD_get : ∀ {n : Nat} {xs : List D} {i : Nat} {d : D}, (enumD n xs)[i]? = some d → ∃ x, xs[i]? = some x ∧ d = .tup [.int ((n + i : Nat) : Int), x]
  | _, [], _, _, h => by simp [enumD] at h
  | n, x :: xs, 0, _, h => by
    simp only [enumD, List.getElem?_cons_zero, Option.some.injEq] at h
    exact ⟨x, rfl, h.symm⟩
  | n, x :: xs, i + 1, _, h => by
    simp only [enumD, List.getElem?_cons_succ] at h
    obtain ⟨x', h1, h2⟩ := enumD_get h
    refine ⟨x', by simpa using h1, ?_⟩
    rw [h2, show n + 1 + i = n + (i + 1) by omega]
def dEnum (fs : EvL) : EvL := fun ρ c => match fs ρ c with
  | some ([.lst xs], c1) => some (enumD 0 xs, c1)
  | _ => none
theorem di_enum (hg : Gl X "enumerate") (hm : X.mg "enumerate" = none) (ha : DA X κ [e] fs) (hs : starEach [e] X.env = [(false, eval e X.env)] := by rfl) :
    DI X κ (.Tuple elts kk tpos) (.Call (.Name "enumerate" p) [e] [] pos) (dEnum fs) := (pi_enum hg hm ha hs).imp fun σ H R ⟨A, ρ, c, ds, c', E, hf, q⟩ => by
  unfold dEnum at hf
  split at hf
  · rename_i xs c1 e1
    cases hf
    refine ⟨A, ρ, c, _, _, E, e1, fun vs H1 x1 hc1 rs => ?_⟩
    obtain ⟨v, r, rfl, q1, q2⟩ := rs.cons_inv
    have := q2.nil_inv
    subst this
    simp only [Rep] at q1
    obtain ⟨a, vs, rfl, h1, r1⟩ := q1
    refine ⟨a, vs, rfl, SqL.of (of_cut h1).2, q _ H1 x1 hc1 fun A2 H2 sm fr i => ?_⟩
    have e2 : SqL X.K H2 a vs := SqL.of (cut_same _ _ (sm _ _ h1))
    have l1 := r1.length
    refine ⟨fun hi => ⟨vs, e2, by rw [enumD_len] at hi; omega⟩, fun d hd => ?_⟩
    obtain ⟨x, hx, rfl⟩ := enumD_get hd
    obtain ⟨v, hv, rv⟩ := r1.get hx
    refine ⟨⟨vs, v, e2, hv⟩, fun z H' y' => ?_⟩
    obtain ⟨T, x1, rfl, hT, rfl, f1⟩ := y'
    have q1 := f1 vs e2
    rw [hv] at q1; cases q1
    exact ⟨same_upd hT, rep_new_tup hT (fr T hT) (.cons (by simp only [Rep, Nat.zero_add]) (.cons (Rep.mono sm _ _ rv) .nil))⟩
  · cases hf
end
end DL
end
section
/-! DLt: sorted. -/
namespace DL
open PySem PySem.Spec PyProof.Rows L2

/-- Python's order -/
def leD (a b : D) : Bool := PySem.W.dataLe false D.toData a b
def sortD (ds : List D) : List D := ds.mergeSort leD
def tupNE : D → Bool
  | .tup (_ :: _) => true
  | _ => false
def notTN : D → Bool
  | .tup _ => false
  | .non => false
  | .dic _ _ => false
  | .cup => false
  | _ => true
def sortOk (ds : List D) : Bool := decide (ds.length ≤ lim) && D.okEqs 60 ds && (ds.all fun d => ds.all fun e => PySem.W.alike d.toData e.toData) && (ds.all tupNE || ds.all notTN)
def biSorted : List D → Option (List D)
  | [.lst ds] => if sortOk ds then some (sortD ds) else none
  | [.tup ds] => if sortOk ds then some (sortD ds) else none
  | [.dic ks _] => if sortOk ks then some (sortD ks) else none
  | _ => none
theorem okEqs_mem : ∀ {n : Nat} {ds : List D}, D.okEqs n ds = true → ∀ d ∈ ds, D.okEq n d = true
  | _, [], _, _, h => by cases h
  | n, x :: xs, h, d, hd => by
    simp only [D.okEqs, Bool.and_eq_true] at h
    rcases List.mem_cons.mp hd with e | e
    · subst e; exact h.1
    · exact okEqs_mem h.2 d e
section
variable {X : Cx} {κ : Addr} {pins : List (Addr × Obj)} {σ : L2.St} {H : Hp} {s : Shared}
/-- a plain value as the library reads it -/
theorem rep_reads (I : Inv X pins σ H s) {d : D} {v : V} {u : Value} (h : D.okEq 60 d = true) (r : Rep (bx X κ) H d v) (ru : L2.RelV v u) : ∃ as, Reads s.heap u d.toData as :=
  Dp.reads I _ _ _ (Rep.dp 60 d v h r) ru
theorem each_of {P : Value → D → Prop} : ∀ {vs : List V} {us : List Value} {ds : List D}, L2.Vals vs us → Reps (bx X κ) H ds vs → (∀ v u d, L2.RelV v u → Rep (bx X κ) H d v → d ∈ ds → P u d) → PySem.W.EachIs P us ds
  | _, _, [], rv, r, _ => by
    rw [r.nil_inv] at rv
    cases rv
    exact .nil
  | _, _, d :: ds, rv, r, h => by
    obtain ⟨v, rest, rfl, r1, r2⟩ := r.cons_inv
    cases rv with
    | cons q t => exact .cons (h _ _ _ q r1 List.mem_cons_self) (each_of t r2 fun v u d' a b c => h v u d' a b (List.mem_cons_of_mem _ c))
theorem of_each {A : Addr → Prop} : ∀ {us : List Value} {ds : List D}, PySem.W.EachIs (fun u d => ∃ v, L2.RelV v u ∧ Rep (bx X κ) (cut H A) d v) us ds → ∃ vs, L2.Vals vs us ∧ Reps (bx X κ) (cut H A) ds vs
  | _, _, .nil => ⟨[], .nil, .nil⟩
  | _, _, .cons ⟨v, r1, r2⟩ t => let ⟨vs, h1, h2⟩ := of_each t; ⟨v :: vs, .cons r1 h1, .cons r2 h2⟩
theorem each_map {P : Value → PyData → Prop} : ∀ {us : List Value} {ds : List D}, PySem.W.EachIs (fun u d => P u d.toData) us ds → PySem.W.EachIs P us (ds.map D.toData)
  | _, _, .nil => .nil
  | _, _, .cons h t => .cons h (each_map t)
theorem sortOk_of {ds : List D} (h : sortOk ds = true) : ds.length ≤ lim ∧ D.okEqs 60 ds = true ∧ PySem.W.AllAlike (ds.map D.toData) ∧ PySem.W.Sortable (ds.map D.toData) := by
  unfold sortOk at h
  simp only [Bool.and_eq_true, Bool.or_eq_true, decide_eq_true_eq, List.all_eq_true] at h
  obtain ⟨⟨⟨h1, h2⟩, h3⟩, h4⟩ := h
  refine ⟨h1, h2, fun x hx y hy => ?_, h4.imp (fun h x hx => ?_) fun h x hx => ?_⟩
  · obtain ⟨d, hd, rfl⟩ := List.mem_map.mp hx
    obtain ⟨e, he, rfl⟩ := List.mem_map.mp hy
    exact h3 d hd e he
  · obtain ⟨d, hd, rfl⟩ := List.mem_map.mp hx
    have := h d hd
    unfold tupNE at this
    split at this
    · rename_i x xs
      exact ⟨x.toData, D.toDatas xs, by simp only [D.toData, D.toDatas]⟩
    · cases this
  · obtain ⟨d, hd, rfl⟩ := List.mem_map.mp hx
    have := h d hd
    cases d <;> first | (cases this; done) | (unfold D.toData; constructor <;> intros <;> intro z <;> cases z)
/-- sorted: what is left when the items are collected -/
theorem sorted_coll (hu : X.A.units + 65 < cLine) (I : Inv X pins σ H s) {A : Addr → Prop} {ds : List D} {vs : List V} {u : Value} {Q : VK} (ho : sortOk ds = true) (r : Reps (bx X κ) (cut H A) ds vs) (hz : vs.length ≤ sizeLine)
    (coll : ∀ (R : List Value → Shared → Prop) (E : Value → Shared → Prop), (∀ h' tk acc, (∀ b o, s.heap.get? b = some o → h'.get? b = some o) → L2.Vals vs acc → R acc { s with heap := h', toks := tk }) → wpAny (model X.prog X.w) X.A.in1 (collect u) R E s)
    (q : ∀ p vs', H p = none → Reps (bx X κ) (cut H A) (sortD ds) vs' → Q (.ref p) (upd H p (.lst vs'))) : wpAny (model X.prog X.w) X.A (call (.builtin "sorted") [u]) (EP X pins σ Q) X.xe s := by
  obtain ⟨hlim, hoe, hal, hsk⟩ := sortOk_of ho
  refine Calls.call_function_entry PyProof.Rows.kind_sorted PyProof.Rows.plain_sorted PyProof.Rows.entry_sorted (PyProof.Rows.args_sorted1 _) ?_
  unfold Builtin.«sorted»
  refine wpAny_bind (m := checkCount "sorted" 1 1 _) (wpAny_pure ?_)
  refine wpAny_bind (coll _ _ fun h' tk acc hk hv => ?_)
  have hla : acc.length ≤ sizeLine := by rw [← hv.length]; exact hz
  have I1 : Inv X pins σ H { s with heap := h', toks := tk } := I.kept hk
  refine wpAny_bind (wpAny_newList ?_ hla)
  have hoL : (h'.push (seqObj "list" acc.toArray 0)).get? h'.objs.size = some (seqObj "list" acc.toArray 0) := Heap.get?_push_size _ rfl
  show wpAny _ _ _ _ _ { s with heap := h'.push (seqObj "list" acc.toArray 0), toks := tk }
  -- the heap in which it sorts
  obtain ⟨g, hg⟩ : ∃ g, g = PySem.W.sortingHeap (h'.push (seqObj "list" acc.toArray 0)) h'.objs.size acc := ⟨_, rfl⟩
  have keepg : ∀ b o, h'.get? b = some o → g.get? b = some o := fun b o e => by
    rw [hg]
    exact PySem.W.sortingHeap_old (Nat.ne_of_lt (Heap.lt_size e)) (Heap.get?_push_of_some _ e)
  have I2 : Inv X pins σ H { s with heap := g, toks := tk } := I1.kept (t' := tk) keepg
  have r' : Reps (bx X κ) H ds vs := Reps.mono cut_same _ _ r
  have each : PySem.W.EachIs (fun v d => ∃ as, Reads g v d as) acc (ds.map D.toData) := each_map (each_of hv r' fun v u d a b c => rep_reads I2 (okEqs_mem hoe d c) b a)
  have hdep : ∀ d, d ∈ ds.map D.toData → X.A.in1.in1.units + d.depth < cLine := fun d hd => by
    obtain ⟨e, he, rfl⟩ := List.mem_map.mp hd
    have := okEq_depth 60 e (okEqs_mem hoe e he)
    show X.A.units + 1 + 1 + _ < _
    omega
  have S := PySem.W.SortsAt.data (prog := X.prog) (w := X.w) (A := X.A.in1.in1) (s := { s with heap := g, toks := tk }) each hal hsk hdep
  have S' : PySem.W.SortsAt X.prog X.w X.A.in1.in1 { s with heap := PySem.W.sortingHeap (h'.push (seqObj "list" acc.toArray 0)) h'.objs.size acc, toks := tk } (PySem.W.dataKind g (ds.map D.toData)) acc := by
    rw [← hg]; exact S
  refine wpAny_bind (wpAny_holding (wpAny_call_entry PyProof.Rows.slot_list_sort ⟨_, hoL, rfl⟩ PyProof.Rows.entry_list_sort
    (PySem.W.list_sort_vals (s := { s with heap := h'.push (seqObj "list" acc.toArray 0), toks := tk }) hoL S' hla ⟨_, rfl, ?_⟩) (PyProof.Rows.args_list_sort _)))
  -- what comes out
  have keyed : PySem.W.EachIs (fun v d => (PySem.W.dataKind g (ds.map D.toData)).keyOf v = some (PySem.W.keyToks d.toData)) acc ds := each_of hv r' fun v u d a b c =>
    let ⟨as, rd⟩ := rep_reads I2 (okEqs_mem hoe d c) b a
    PySem.W.dataKind_some hal (List.mem_map_of_mem c) rd
  have base : PySem.W.EachIs (fun u d => ∃ v, L2.RelV v u ∧ Rep (bx X κ) (cut H A) d v) acc ds := by
    have : ∀ {vs : List V} {us : List Value} {ds : List D}, L2.Vals vs us → Reps (bx X κ) (cut H A) ds vs → PySem.W.EachIs (fun u d => ∃ v, L2.RelV v u ∧ Rep (bx X κ) (cut H A) d v) us ds := by
      intro vs us ds rv r
      induction rv generalizing ds with
      | nil => cases ds with
        | nil => exact .nil
        | cons d ds => obtain ⟨_, _, e, _⟩ := r.cons_inv; cases e
      | cons q t ih => cases ds with
        | nil => have := r.nil_inv; cases this
        | cons d ds =>
          obtain ⟨_, _, e, r1, r2⟩ := r.cons_inv
          cases e
          exact .cons ⟨_, q, r1⟩ (ih r2)
    exact this hv r
  have out := PySem.W.sortVals_each (κ := PySem.W.dataKind g (ds.map D.toData)) (rev := false) (fun d : D => PySem.W.keyToks d.toData) base keyed
  obtain ⟨vs', v1, v2⟩ := of_each out
  obtain ⟨e', he'⟩ := PyProof.Rows.sortedHeap_at (vs := acc) (out := (PySem.W.sortVals (PySem.W.dataKind g (ds.map D.toData)) false acc acc).toArray) hoL
  have hlen : vs'.length ≤ sizeLine := by
    have l1 : (sortD ds).length = ds.length := by unfold sortD; rw [List.length_mergeSort]
    have l2 := v2.length
    have l3 := r.length
    have : (ds.mergeSort (PySem.W.sortLe (PySem.W.dataKind g (ds.map D.toData)).toKeyOrd false fun d : D => PySem.W.keyToks d.toData)).length = ds.length := by rw [List.length_mergeSort]
    omega
  refine wpAny_pure ⟨_, rfl, .ref h'.objs.size, upd H h'.objs.size (.lst vs'), I1.laid (t' := tk) (fun b u e => ?_) (Nat.le_refl _)
    (show ObjOk X.prog X.w _ _ _ (.lst vs') from ⟨hlen, _, e', v1, he'⟩), rfl, q _ vs' (I1.hok.fresh (Nat.le_refl _)) v2⟩
  have hb : b < h'.objs.size := Heap.lt_size e
  rw [PyProof.Rows.sortedHeap_old (Nat.ne_of_lt hb) (by rw [size_push']; exact Nat.lt_succ_of_lt hb)]
  exact Heap.get?_push_of_some _ e
theorem ci_sorted (hc : X.calm = true) (hu : X.A.units + 65 < cLine) : CallR X (.builtin "sorted") (rBN (bx X κ) biSorted) := by
  rintro pins s σ H vs us Q I r ⟨A, ds, d, fr, sl, hg, q⟩
  unfold biSorted at hg
  split at hg
  · split at hg
    · rename_i ds ho
      cases hg
      obtain ⟨b, v, rfl, s1⟩ := slot1 sl
      obtain ⟨a, ws, rfl, h1, r1⟩ := s1.lst_inv
      obtain ⟨u, rfl, ru⟩ := vals1 r
      cases (show u = Value.ref a from ru)
      obtain ⟨its, rv, ⟨ob, n, h2, hcl, _, hdat⟩, hz⟩ := I.list (SqL.of h1)
      exact sorted_coll hu I ho r1 hz (fun R E k => wpAny_collect_seq a (.inl rfl) h2 hcl hdat (fun h' hk => k h' s.toks _ hk (by simpa using rv)) (by rw [List.size_toArray, ← rv.length]; exact hz)) q
    · cases hg
  · split at hg
    · rename_i ds ho
      cases hg
      obtain ⟨b, v, rfl, s1⟩ := slot1 sl
      obtain ⟨a, ws, rfl, h1, r1⟩ := s1.tup_inv
      obtain ⟨u, rfl, ru⟩ := vals1 r
      cases (show u = Value.ref a from ru)
      obtain ⟨its, rv, ⟨ob, h2, hcl, n, hdat⟩, hz⟩ := I.tuple h1
      exact sorted_coll hu I ho r1 hz (fun R E k => wpAny_collect_seq a (.inr rfl) h2 hcl hdat (fun h' hk => k h' s.toks _ hk (by simpa using rv)) (by rw [List.size_toArray, ← rv.length]; exact hz)) q
    · cases hg
  · split at hg
    · rename_i ks es ho
      cases hg
      obtain ⟨b, v, rfl, s1⟩ := slot1 sl
      obtain ⟨a, xs, rfl, at', kok, ek, rk, rd⟩ := s1.dic_inv
      obtain ⟨u, rfl, ru⟩ := vals1 r
      cases (show u = Value.ref a from ru)
      obtain ⟨hd, hz, es', ep, ⟨o, h2, hx, hdt⟩, pr⟩ := dict_raw I at'
      have l2 : es'.size = xs.length := by rw [← Array.length_toList]; exact (Paired.length pr).symm
      refine sorted_coll hu I ho rk (by rw [List.length_map]; exact hz) (fun R E k => PySem.W.kdu_collect (kdl_raw hd hx hdt) (I.ok.hd hc) h2 (by omega) fun h' tk acc hk it => k h' tk _ hk ?_) q
      refine vals_of_at (by rw [List.length_map, Array.length_toList]; exact l2.symm.trans it.1.symm) fun j x u h1 h2 => ?_
      obtain ⟨en, hen, hv⟩ := it.2 j u (by rw [← Array.getElem?_toList]; exact h2)
      rw [List.getElem?_map] at h1
      obtain ⟨z, hz1, rfl⟩ := Option.map_eq_some_iff.mp h1
      obtain ⟨en', h3, ent⟩ := paired_get pr hz1
      rw [Array.getElem?_toList, hen] at h3
      cases h3
      rw [hv]
      exact ent.k
    · cases hg
  · cases hg
end
end DL
end
section
/-! DLu: len(set(ints)). -/
namespace DL
open PySem PySem.Spec PyProof.Rows L2

def nubStep (acc : List Int) (x : Int) : List Int := if acc.any (· == x) then acc else acc ++ [x]
def nubI (ns : List Int) : List Int := ns.foldl nubStep []
theorem nub_met (ns : List Int) : ∀ i, i ≤ ns.length → PyProof.Rows.firstMet (fun i => ns.getD i 0) i = nubI (ns.take i)
  | 0, _ => rfl
  | i + 1, hi => by
    have hlt : i < ns.length := hi
    rw [PyProof.Rows.firstMet_succ, nub_met ns i (Nat.le_of_lt hlt)]
    have e1 : ns.getD i 0 = ns[i] := by rw [List.getD_eq_getElem?_getD, List.getElem?_eq_getElem hlt] <;> rfl
    have e2 : ns.take (i + 1) = ns.take i ++ [ns[i]] := by rw [List.take_add_one, List.getElem?_eq_getElem hlt] <;> rfl
    rw [e2]
    unfold nubI
    rw [List.foldl_append]
    show (if (nubI (ns.take i)).any (· == ns.getD i 0) then nubI (ns.take i) else nubI (ns.take i) ++ [ns.getD i 0]) = nubStep (nubI (ns.take i)) ns[i]
    rw [e1]
    rfl
theorem nub_len : ∀ (ns acc : List Int), (ns.foldl nubStep acc).length ≤ acc.length + ns.length
  | [], acc => by simp
  | n :: ns, acc => by
    rw [List.foldl_cons]
    refine Nat.le_trans (nub_len ns _) ?_
    unfold nubStep
    split <;> simp only [List.length_append, List.length_cons, List.length_nil] <;> omega
def dLenSet (f : Ev) : Ev := fun ρ c => match f ρ c with
  | some (.lst ds, c1) => match ints' ds with
    | some ns => if ns.length ≤ 4000 then some (.int (nubI ns).length, c1) else none
    | none => none
  | _ => none
section
variable {X : Cx} {κ : Addr} {a : Expr} {f : Ev} {p p2 q pos : Pos}
theorem de_lenSet (hc : X.calm = true) (hg : Gl X "len") (hm : X.mg "len" = none) (hg2 : Gl X "set") (hm2 : X.mg "set" = none) (ha : DP X κ a f)
    (na : starEach [a] X.env = (false, eval a X.env) :: starEach [] X.env := by rfl) : DE X κ (.Call (.Name "len" p) [.Call (.Name "set" p2) [a] [] q] [] pos) (dLenSet f) := by
  refine ⟨fun pins s σ H Q I ⟨A, ρ, c, d, c', E, hf, qq⟩ => ?_⟩
  unfold dLenSet at hf
  split at hf
  · rename_i ds c1 e1
    split at hf
    · rename_i ns e2
      split at hf
      · rename_i hl
        cases hf
        refine Call_ (ld_blt I hg hm boot_len ?_)
        refine PyProof.Rows.callWith_builtin1 (PyProof.Rows.args_cons ?_ rfl) rfl rfl
        refine Call_ (ld_blt I hg2 hm2 PyProof.Rows.boot_set ?_)
        refine PyProof.Rows.callWith_type1 (PyProof.Rows.args_cons (thn (ha.run pins s σ H (fun v H1 => ∃ b, Ext κ H H1 ∧ H1 κ = some (cupO c') ∧ Slot (bx X κ) A H1 b (.lst ds) v) I ⟨A, ρ, c, _, _, E, e1, fun b v H1 x1 hc1 sl => ⟨b, x1, hc1, sl⟩⟩) fun v s1 ⟨x, H1, I1, r1, b, x1, hc1, sl⟩ => PyProof.Rows.args_nil ?_) na) na rfl
        obtain ⟨l, vs, rfl, hq, rs⟩ := sl.lst_inv
        rw [reps_ints rs e2] at hq
        cases r1
        obtain ⟨its, r, pl, hz⟩ := I1.list (SqL.of hq)
        have hlen : its.toArray.size = ns.length := by rw [List.size_toArray, ← r.length, List.length_map]
        refine call_set_list (I1.ok.hd hc) pl.isList (by simpa using RZ.intsAre_vals r) (by rw [hlen]; unfold scanBound; omega) fun h' tk hS hk => ?_
        refine PyProof.Rows.args_nil ?_
        rw [hlen, nub_met ns ns.length (Nat.le_refl _), List.take_length] at hS
        obtain ⟨o, es, ep, t, ho, hex, hd, _, _, _, hf, hn⟩ := hS
        have I2 : Inv X pins σ H1 { s1 with heap := h', toks := tk } := I1.kept fun b o e => hk b o (Heap.lt_size e) e
        have hnl := nub_len ns []
        exact call_len_set ho hex hd hf (by rw [hn]; unfold nubI; simp only [List.length_nil, Nat.zero_add] at hnl; omega) ⟨.int (nubI ns).length, H1, I2.tok _, ⟨_, by rw [hn]⟩, qq _ H1 x1 hc1 rep_int⟩
      · cases hf
    · cases hf
  · cases hf
end
end DL
end
section
/-! DLv: x, y = a, b by way of a tuple; what is never reached. -/
namespace DL
open PySem PySem.Spec PyProof.Rows L2

section
variable {X : Cx} {κ : Addr} {e1 e2 e3 e4 : Expr} {f1 f2 f3 f4 : Ev} {pos : Pos} {b1 b2 b3 b4 : Bool}
theorem Slot.up {B : Bx} {A : Addr → Prop} {H : Hp} {b : Bool} {d : D} {v : V} {p : Addr} {o : HO} (k : A B.κ) (hp : H p = none) (h : Slot B A H b d v) : Slot B A (upd H p o) b d v := h.mono k (Same.ext (same_upd hp))
theorem SR.up {B : Bx} {A0 A : Addr → Prop} {H0 H : Hp} {σ : L2.St} {ρ : Rho} {c : Cup} {p : Addr} {o : HO} (S : SR B A0 H0 A σ H ρ c) (hp : H p = none) : SR B A0 H0 A σ (upd H p o) ρ c :=
  S.eval (Same.ext (same_upd hp)) (S.E.mono (Same.ext (same_upd hp)) (upd_cup hp S.E.cup)) (fun _ h => h) fun _ h => .inl h
theorem ds_parL2 {i j : Nat} {x y : Str} {px py pt pt2 : Pos} {kt k2} (hN : X.N.Nodup) (hc : X.calm = true) (hfn : ∀ x, X.fn x = true) (hx1 : DX X κ b1 e1 f1) (hx2 : DX X κ b2 e2 f2) (hi : X.N[i]? = some x := by rfl) (hj : X.N[j]? = some y := by rfl)
    (hx : Loc X.env.scope x := by first | exact Or.inl rfl | exact Or.inr rfl) (hy : Loc X.env.scope y := by first | exact Or.inl rfl | exact Or.inr rfl)
    (hw : swappedStores [.Tuple [.Name x px, .Name y py] kt pt] (.Tuple [e1, e2] k2 pt2) X.env = pure none := by rfl)
    (hs : swapsWithSole [.Tuple [.Name x px, .Name y py] kt pt] (.Tuple [e1, e2] k2 pt2) pos.line X.env = pure false := by rfl) (hs1 : starEach [e1, e2] X.env = (false, eval e1 X.env) :: starEach [e2] X.env := by rfl) (hs2 : starEach [e2] X.env = (false, eval e2 X.env) :: starEach [] X.env := by rfl) :
    DS X κ (.Assign [.Tuple [.Name x px, .Name y py] kt pt] (.Tuple [e1, e2] k2 pt2) pos) (sPar2 b1 b2 i j f1 f2) :=
  (ps_asg (pe_tup (pa_cons hx1 (pa_cons hx2 pa_nil hs2) hs1)) (pg_tup hc (pgs_cons (pg_name hN hi hx (.inl (hfn _))) (pgs_cons (pg_name hN hj hy (.inl (hfn _))) pgs_nil))) hs hw).imp fun E σ H ⟨A0, H0, ρ, c, o, ⟨A, S⟩, hf, q⟩ => by
    unfold sPar2 at hf
    split at hf
    · rename_i d1 c1 e1
      split at hf
      · rename_i d2 c2 e2
        split at hf
        · rename_i hl
          cases hf
          refine ⟨A, ρ, c, d1, c1, S.E, e1, fun v1 H1 A1 x1 hc1 g1 g2 E1 s1 fr1 => ?_⟩
          refine ⟨A1, ρ, c1, d2, c2, E1, e2, fun v2 H2 A2 x2 hc2 g3 g4 E2 s2 fr2 => ⟨by show 2 ≤ sizeLine; decide, fun p hp => ?_⟩⟩
          refine ⟨p, [v1, v2], rfl, SqT.of upd_same, rfl, v1, [v2], rfl, v2, [], rfl, rfl, ?_⟩
          have S1 := S.eval x1 E1 g1 g2
          have S2 := S1.eval x2 E2 g3 g4
          have S3 := S2.up (o := .tup [v1, v2]) hp
          have s1' := (s1.cross E1.κA x2 g3 g4).up (o := .tup [v1, v2]) E2.κA hp
          have T1 := S3.set (i := i) hl.1 s1' (S.E.fr fr1) fun hb a hv => S.new0 (fr1 hb a hv)
          have T2 := T1.set (i := j) (by rw [List.length_set]; exact hl.2) (s2.up E2.κA hp) ((E1.fr fr2).set fun hb2 hb1 z => by
            subst hb1; subst hb2
            obtain ⟨a, rfl, _⟩ := s2
            exact slot_there (z ▸ s1) (fr2 rfl a rfl)) fun hb a hv => S1.new0 (fr2 hb a hv)
          exact q _ _ ⟨A2, T2⟩
        · cases hf
      · cases hf
    · cases hf
theorem ds_parL3 {i j l : Nat} {x y z : Str} {px py pz pt pt2 : Pos} {kt k2} (hN : X.N.Nodup) (hc : X.calm = true) (hfn : ∀ x, X.fn x = true) (hx1 : DX X κ b1 e1 f1) (hx2 : DX X κ b2 e2 f2) (hx3 : DX X κ b3 e3 f3)
    (hi : X.N[i]? = some x := by rfl) (hj : X.N[j]? = some y := by rfl) (hl : X.N[l]? = some z := by rfl)
    (hx : Loc X.env.scope x := by first | exact Or.inl rfl | exact Or.inr rfl) (hy : Loc X.env.scope y := by first | exact Or.inl rfl | exact Or.inr rfl) (hz : Loc X.env.scope z := by first | exact Or.inl rfl | exact Or.inr rfl)
    (hw : swappedStores [.Tuple [.Name x px, .Name y py, .Name z pz] kt pt] (.Tuple [e1, e2, e3] k2 pt2) X.env = pure none := by rfl)
    (hs : swapsWithSole [.Tuple [.Name x px, .Name y py, .Name z pz] kt pt] (.Tuple [e1, e2, e3] k2 pt2) pos.line X.env = pure false := by rfl) (hs1 : starEach [e1, e2, e3] X.env = (false, eval e1 X.env) :: starEach [e2, e3] X.env := by rfl) (hs2 : starEach [e2, e3] X.env = (false, eval e2 X.env) :: starEach [e3] X.env := by rfl)
    (hs3 : starEach [e3] X.env = (false, eval e3 X.env) :: starEach [] X.env := by rfl) :
    DS X κ (.Assign [.Tuple [.Name x px, .Name y py, .Name z pz] kt pt] (.Tuple [e1, e2, e3] k2 pt2) pos) (sPar3 b1 b2 b3 i j l f1 f2 f3) :=
  (ps_asg (pe_tup (pa_cons hx1 (pa_cons hx2 (pa_cons hx3 pa_nil hs3) hs2) hs1)) (pg_tup hc (pgs_cons (pg_name hN hi hx (.inl (hfn _))) (pgs_cons (pg_name hN hj hy (.inl (hfn _))) (pgs_cons (pg_name hN hl hz (.inl (hfn _))) pgs_nil)))) hs hw).imp fun E σ H ⟨A0, H0, ρ, c, o, ⟨A, S⟩, hf, q⟩ => by
    unfold sPar3 at hf
    split at hf
    · rename_i d1 c1 e1
      split at hf
      · rename_i d2 c2 e2
        split at hf
        · rename_i d3 c3 e3
          split at hf
          · rename_i hl
            cases hf
            refine ⟨A, ρ, c, d1, c1, S.E, e1, fun v1 H1 A1 x1 hc1 g1 g2 E1 s1 fr1 => ?_⟩
            refine ⟨A1, ρ, c1, d2, c2, E1, e2, fun v2 H2 A2 x2 hc2 g3 g4 E2 s2 fr2 => ?_⟩
            refine ⟨A2, ρ, c2, d3, c3, E2, e3, fun v3 H3 A3 x3 hc3 g5 g6 E3 s3 fr3 => ⟨by show 3 ≤ sizeLine; decide, fun p hp => ?_⟩⟩
            refine ⟨p, [v1, v2, v3], rfl, SqT.of upd_same, rfl, v1, [v2, v3], rfl, v2, [v3], rfl, v3, [], rfl, rfl, ?_⟩
            have S1 := S.eval x1 E1 g1 g2
            have S2 := S1.eval x2 E2 g3 g4
            have S3 := S2.eval x3 E3 g5 g6
            have S4 := S3.up (o := .tup [v1, v2, v3]) hp
            have s1' := s1.cross E1.κA x2 g3 g4
            have s1'' := (s1'.cross E2.κA x3 g5 g6).up (o := .tup [v1, v2, v3]) E3.κA hp
            have s2' := (s2.cross E2.κA x3 g5 g6).up (o := .tup [v1, v2, v3]) E3.κA hp
            have T1 := S4.set (i := i) hl.1 s1'' (S.E.fr fr1) fun hb a hv => S.new0 (fr1 hb a hv)
            have T2 := T1.set (i := j) (by rw [List.length_set]; exact hl.2.1) s2' ((E1.fr fr2).set fun hb2 hb1 z => by
              subst hb1; subst hb2
              obtain ⟨a, rfl, _⟩ := s2
              exact slot_there (z ▸ s1) (fr2 rfl a rfl)) fun hb a hv => S1.new0 (fr2 hb a hv)
            have T3 := T2.set (i := l) (by rw [List.length_set, List.length_set]; exact hl.2.2) (s3.up E3.κA hp) (((E2.fr fr3).set fun hb3 hb1 z => by
              subst hb1; subst hb3
              obtain ⟨a, rfl, _⟩ := s3
              exact slot_there (z ▸ s1') (fr3 rfl a rfl)).set fun hb3 hb2 z => by
                subst hb2; subst hb3
                obtain ⟨a, rfl, _⟩ := s3
                exact slot_there (z ▸ s2) (fr3 rfl a rfl)) fun hb a hv => S2.new0 (fr3 hb a hv)
            exact q _ _ ⟨A3, T3⟩
          · cases hf
        · cases hf
      · cases hf
    · cases hf
end
end DL
end
section
/-! DLw: defs by name; the cup's own def. -/
namespace DL
open PySem PySem.Spec PyProof.Rows L2

/-- a def of the module, by its name -/
structure Dfn (K : PySem.W.Frag) (mg : Str → Option Value) (x : Str) (st : Stmt) : Prop where
  ex : ∃ (f : Addr) (fd : FuncData), Fun K x x st f fd ∧ mg x = some (.ref f)
/-- a def that may be called by its name -/
structure Cal (P : Program) (w : World) (K : PySem.W.Frag) (mg : Str → Option Value) (base : Heap) (k : Nat) (x : Str) (sp : Sp) : Prop where
  ex : ∃ (f : Addr) (fd : FuncData) (ps : List Str), FnOk P w K mg base CX0 k f fd ps sp ∧ mg x = some (.ref f) ∧ PySem.W.keepIn K (.ref f) = true ∧ Binds K fd ps []
theorem hu65 {k : Nat} {A : Around} (r : Room k A) : A.units + 65 < cLine := by have := r.un; omega
theorem hu64 {k : Nat} {A : Around} (r : Room k A) : A.units + 64 < cLine := by have := r.un; omega
section
variable {P : Program} {w : World} {K : PySem.W.Frag} {mg : Str → Option Value} {base : Heap}
theorem cal_none {k : Nat} {x : Str} {st : Stmt} (D : Dfn K mg x st) (ps : List Str) (hb : ∀ {f : Addr} {fd : FuncData}, Fun K x x st f fd → Binds K fd ps []) : Cal P w K mg base k x (spD P w K fun _ _ => none) := by
  obtain ⟨f, fd, F, m⟩ := D.ex
  exact ⟨f, fd, ps, ⟨fun vs H Q E ⟨κ, A, ds, c, d, c', _, _, _, _, h, _⟩ => (by cases h), fun A outer s H args us vs Q E _ _ _ _ ⟨κ, A', ds, c, d, c', _, _, _, _, h, _⟩ => (by cases h)⟩, m, F.kp, hb F⟩
variable {X : Cx} {κ : Addr} {e : Expr} {es : List Expr} {fs : EvL} {g : List D → Cup → Option (D × Cup)} {k : Nat} {x : Str} {p pos : Pos}
theorem de_cal (C : Cal X.prog X.w X.K X.mg X.base k x (spD X.prog X.w X.K g)) (hr : Room k X.A) (hg : Gl X x) (ha : DA X κ (e :: es) fs) (hdb : (x == ("__debug__" : Str)) = false := by decide)
    (he : starEach (e :: es) X.env = (false, eval e X.env) :: starEach es X.env := by rfl) (hpl : (backTo pos (starEach es X.env)).any (·.1) = false := by rfl) : DE X κ (.Call (.Name x p) (e :: es) [] pos) (dCall g fs) := by
  obtain ⟨f, fd, ps, F, m, kp, b⟩ := C.ex
  exact de_call F hr hg m kp b ha hdb he hpl
theorem de_cal0 (C : Cal X.prog X.w X.K X.mg X.base k x (spD X.prog X.w X.K g)) (hr : Room k X.A) (hg : Gl X x) (hdb : (x == ("__debug__" : Str)) = false := by decide) : DE X κ (.Call (.Name x p) [] [] pos) (dCall g dNil) := by
  obtain ⟨f, fd, ps, F, m, kp, b⟩ := C.ex
  exact de_call0 F hr hg m kp b hdb
end
end DL
end
section
/-! DLx: the law's first line, the law. -/
namespace DL
open PySem PySem.Spec PyProof.Rows L2

structure CupOk (c : Cup) : Prop where
  h1 : 0 ≤ c.1
  h2 : 0 ≤ c.2
  h3 : c.2 < 5000000000
/-- the law's cup: a new list of two ints -/
def spCup (K : PySem.W.Frag) : Sp := fun vs H Q _ => ∃ (a : Addr) (ns : List Int), vs = [.ref a] ∧ SqL K H a (ns.map V.int) ∧ ns.length ≤ 63 ∧ ∀ (c : Cup) (p : Addr) (H' : Hp), CupOk c → Same H H' → H p = none → H' p = some (cupO c) → Q (.ref p) H'
def spLaw (K : PySem.W.Frag) : Sp := fun vs H Q _ => ∃ (a : Addr) (ns : List Int), vs = [.ref a] ∧ SqL K H a (ns.map V.int) ∧ ns.length ≤ 63 ∧ ∀ H', Q (.bl true) H'
theorem dss_any {X : Cx} {st : List Stmt} {F : SF} (h : ∀ κ, DSs X κ st F) : PSs X st (fun E σ H => ∃ κ, tS (bx X κ) F E σ H) := ⟨fun pins s σ H E I ⟨κ, q⟩ => (h κ).run pins s σ H E I q⟩
theorem same_trans {H1 H2 H3 : Hp} (a : Same H1 H2) (b : Same H2 H3) : Same H1 H3 := fun x o e => b x o (a x o e)
theorem cupGo_ok {x B C M Z cell : Int} (h : 0 ≤ x) (g : 0 < M ∧ M < 4000000000 ∧ 0 ≤ Z ∧ Z < 100000) : CupOk (x, (cell * B + C) % M + Z) := by
  obtain ⟨a6, a7, a8, a9⟩ := g
  refine ⟨h, ?_, ?_⟩
  · have := Int.emod_nonneg (cell * B + C) (show M ≠ 0 by omega)
    show 0 ≤ (cell * B + C) % M + Z
    omega
  · have := Int.emod_lt_of_pos (cell * B + C) a6
    show (cell * B + C) % M + Z < 5000000000
    omega
/-- the frame behind the first line: the cup alone is known -/
def lawRho (n i : Nat) : Rho := (List.replicate n none).set i (some (false, .cup))
theorem lawRho_at {n i j : Nat} {b : Bool} {d : D} (h : (lawRho n i)[j]? = some (some (b, d))) : i = j ∧ i < n ∧ b = false ∧ d = .cup := by
  unfold lawRho at h
  by_cases hj : i = j
  · subst hj
    by_cases hn : i < n
    · rw [List.getElem?_set_self (by rw [List.length_replicate]; exact hn)] at h
      cases h
      exact ⟨rfl, hn, rfl, rfl⟩
    · rw [List.getElem?_eq_none (by rw [List.length_set, List.length_replicate]; omega)] at h
      cases h
  · rw [List.getElem?_set_ne hj, List.getElem?_replicate] at h
    split at h <;> cases h
theorem law_start {P : Program} {w : World} {K : PySem.W.Frag} {p : Addr} {H : Hp} {σ : L2.St} {c : Cup} {i : Nat} (hi : i < σ.length) (hp : H p = some (cupO c)) : SRel ⟨P, w, K, p⟩ (fun a => a = p) H (σ.set i (some (.ref p))) H (lawRho σ.length i) c :=
  ⟨fun a => a = p, ⟨by simp [lawRho], rfl, hp, fun a h => by subst h; exact ⟨_, hp, trivial⟩, fun j b d h => by
    obtain ⟨rfl, _, rfl, rfl⟩ := lawRho_at h
    exact ⟨.ref p, List.getElem?_set_self hi, by simp only [Slot, Rep]⟩⟩, fun _ h => h, fun _ h => .inl h, fun j d a h _ => by
    obtain ⟨_, _, z, _⟩ := lawRho_at h; exact absurd z (by decide), fun j k d e a h _ _ _ => by
    obtain ⟨_, _, z, _⟩ := lawRho_at h; exact absurd z (by decide), .refl, fun a h => by subst h; exact ⟨_, hp⟩⟩
end DL
end
section
/-! DLy: plain laws of the readings. -/
namespace DL
open PySem PySem.Spec PyProof.Rows L2

theorem lim_eq : lim = 1000000 := rfl
/-! ### comprehensions that draw nothing -/
theorem cmp_pure {bd : Bd} {test : EvB} {elt : Ev} {ρ0 : Rho} (p : D → Bool) (g : D → D) : ∀ {ds : List D} {c : Cup}, (∀ d ∈ ds, ∃ ρ, bd ρ0 d = some ρ ∧ (∀ c, test ρ c = some (p d, c)) ∧ (p d = true → ∀ c, elt ρ c = some (g d, c))) →
    cmpGo bd test elt ρ0 ds c = some ((ds.filter p).map g, c)
  | [], c, _ => rfl
  | d :: ds, c, h => by
    obtain ⟨ρ, h1, h2, h3⟩ := h d List.mem_cons_self
    have ih := cmp_pure (c := c) p g fun d hd => h d (List.mem_cons_of_mem _ hd)
    unfold cmpGo
    rw [h1]
    show (match test ρ c with | some (true, c1) => _ | some (false, c1) => _ | none => none) = _
    rw [h2 c]
    cases hp : p d with
    | true =>
      show (match elt ρ c with | some (e, c2) => _ | none => none) = _
      rw [h3 hp c]
      show (match cmpGo bd test elt ρ0 ds c with | some (r, c3) => some (g d :: r, c3) | none => none) = _
      rw [ih, List.filter_cons_of_pos hp]
      rfl
    | false =>
      show cmpGo bd test elt ρ0 ds c = _
      rw [ih, List.filter_cons_of_neg (by rw [hp]; decide)]
theorem lc_pure {vs : List Nat} {it : EvL} {bd : Bd} {test : EvB} {elt : Ev} {ρ : Rho} {c c1 : Cup} {ds : List D} (p : D → Bool) (g : D → D) (hi : it ρ c = some (ds, c1)) (hl : ds.length ≤ lim)
    (h : ∀ d ∈ ds, ∃ ρ', bd (wipeD ρ vs) d = some ρ' ∧ (∀ c, test ρ' c = some (p d, c)) ∧ (p d = true → ∀ c, elt ρ' c = some (g d, c))) : dLc vs it bd test elt ρ c = some (.lst ((ds.filter p).map g), c1) := by
  unfold dLc
  rw [hi]
  show (if ds.length ≤ lim then _ else _) = _
  rw [if_pos hl, cmp_pure p g h]
/-- .. without an if -/
theorem lc_map {vs : List Nat} {it : EvL} {bd : Bd} {elt : Ev} {ρ : Rho} {c c1 : Cup} {ds : List D} (g : D → D) (hi : it ρ c = some (ds, c1)) (hl : ds.length ≤ lim)
    (h : ∀ d ∈ ds, ∃ ρ', bd (wipeD ρ vs) d = some ρ' ∧ ∀ c, elt ρ' c = some (g d, c)) : dLc vs it bd dYes elt ρ c = some (.lst (ds.map g), c1) := by
  have := lc_pure (test := dYes) (fun _ => true) g hi hl fun d hd => let ⟨ρ', h1, h2⟩ := h d hd; ⟨ρ', h1, fun _ => rfl, fun _ => h2⟩
  rw [this, List.filter_eq_self.mpr fun _ _ => rfl]
theorem bools_map {α : Type} (q : α → Bool) : ∀ l : List α, bools (l.map fun x => .bl (q x)) = some (l.map q)
  | [] => rfl
  | x :: l => by
    rw [List.map_cons, List.map_cons]
    unfold bools
    rw [bools_map q l]
    rfl
theorem ints_map {α : Type} (q : α → Int) : ∀ l : List α, ints' (l.map fun x => .int (q x)) = some (l.map q)
  | [] => rfl
  | x :: l => by
    rw [List.map_cons, List.map_cons]
    unfold ints'
    rw [ints_map q l]
    rfl
/-- all([.. for ..]) -/
theorem all_lc {vs : List Nat} {it : EvL} {bd : Bd} {elt : Ev} {ρ : Rho} {c c1 : Cup} {ds : List D} (q : D → Bool) (hi : it ρ c = some (ds, c1)) (hl : ds.length ≤ lim)
    (h : ∀ d ∈ ds, ∃ ρ', bd (wipeD ρ vs) d = some ρ' ∧ ∀ c, elt ρ' c = some (.bl (q d), c)) : dBi biAll (dCons (dLc vs it bd dYes elt) dNil) ρ c = some (.bl (ds.all q), c1) := by
  have e := lc_map (fun d => .bl (q d)) hi hl h
  unfold dBi dCons
  rw [e]
  show (match biAll [.lst (ds.map fun d => .bl (q d))] with | some d => some (d, c1) | none => none) = _
  unfold biAll
  simp only [bools_map, Option.map_some, List.all_map]
  rfl
/-! ### for -/
theorem for_inv {bd : Bd} {F : SF} (P : Nat → Rho → Cup → Prop) : ∀ {ds : List D} {n : Nat} {ρ : Rho} {c : Cup}, (∀ i d ρ c, ds[i]? = some d → P (n + i) ρ c → ∃ ρ1 ρ2 c2, bd ρ d = some ρ1 ∧ F ρ1 c = some (.nx ρ2 c2) ∧ P (n + i + 1) ρ2 c2) → P n ρ c →
    ∃ ρ' c', forGo bd F ds ρ c = some (.nx ρ' c') ∧ P (n + ds.length) ρ' c'
  | [], n, ρ, c, _, h0 => ⟨ρ, c, rfl, h0⟩
  | d :: ds, n, ρ, c, h, h0 => by
    obtain ⟨ρ1, ρ2, c2, h1, h2, h3⟩ := h 0 d ρ c rfl h0
    obtain ⟨ρ', c', h4, h5⟩ := for_inv (n := n + 1) P (fun i d ρ c e p => by
      have := h (i + 1) d ρ c (by simpa using e) (by rw [show n + (i + 1) = n + 1 + i by omega]; exact p)
      rw [show n + (i + 1) + 1 = n + 1 + i + 1 by omega] at this
      exact this) h3
    refine ⟨ρ', c', ?_, by rw [List.length_cons, show n + (ds.length + 1) = n + 1 + ds.length by omega]; exact h5⟩
    simp only [forGo, h1, h2]
    exact h4
/-- the turns by the items alone -/
theorem for_mem {bd : Bd} {F : SF} (P : Rho → Cup → Prop) {ds : List D} {ρ : Rho} {c : Cup} (h : ∀ d ∈ ds, ∀ ρ c, P ρ c → ∃ ρ1 ρ2 c2, bd ρ d = some ρ1 ∧ F ρ1 c = some (.nx ρ2 c2) ∧ P ρ2 c2) (h0 : P ρ c) : ∃ ρ' c', forGo bd F ds ρ c = some (.nx ρ' c') ∧ P ρ' c' := by
  obtain ⟨ρ', c', h1, h2⟩ := for_inv (n := 0) (fun _ ρ c => P ρ c) (fun i d ρ c e p => h d (List.mem_of_getElem? e) ρ c p) h0
  exact ⟨ρ', c', h1, h2⟩
/-! ### texts -/
theorem okS {s : Str} {n : Nat} : D.okEq n (.str s) = PyData.strOk s := by cases n <;> rfl
theorem eqS (s t : Str) : D.eqv (.str s) (.str t) = (s == t) := by simp only [D.eqv]
/-! ### names: letters and figures -/
def LET : List Nat := ("abcdefghijklmnopqrstuvwxyz" : Str).cps.toList
def SIG : List Nat := ("abcdefghijklmnopqrstuvwxyz0123456789" : Str).cps.toList
def fitsS (s : Str) : Bool := decide (1 ≤ s.length ∧ s.length ≤ 12) && (match s.cps.toList with | [] => false | c :: _ => decide (c ∈ LET)) && s.cps.toList.all fun c => decide (c ∈ SIG)
/-! ### dicts of texts, all True -/
def trues (n : Nat) : List D := List.replicate n (.bl true)
def addK (ns : List D) (s : D) : List D := if kHas ns s then ns else ns ++ [s]
def addsK (ns ss : List D) : List D := ss.foldl addK ns
theorem kRepl_true : ∀ (ks : List D) (n : Nat) (d : D), kRepl ks (trues n) d (.bl true) = trues n
  | [], n, d => by cases n <;> rfl
  | k :: ks, 0, d => rfl
  | k :: ks, n + 1, d => by
    show kRepl (k :: ks) (.bl true :: trues n) d (.bl true) = .bl true :: trues n
    unfold kRepl
    rw [kRepl_true ks n d, ite_self]
theorem kPut_true (ks : List D) (d : D) : kPutD ks (trues ks.length) d (.bl true) = .dic (addK ks d) (trues (addK ks d).length) := by
  unfold kPutD addK
  split
  · rw [kRepl_true]
  · rw [List.length_append]
    show _ = D.dic _ (trues (ks.length + 1))
    unfold trues
    rw [List.replicate_succ']
theorem addK_len (ks : List D) (d : D) : (addK ks d).length ≤ ks.length + 1 := by
  unfold addK
  split
  · omega
  · rw [List.length_append]; exact Nat.le_refl _
theorem addsK_len : ∀ (ss ks : List D), (addsK ks ss).length ≤ ks.length + ss.length
  | [], ks => Nat.le_refl _
  | s :: ss, ks => by
    have h1 := addsK_len ss (addK ks s)
    have h2 := addK_len ks s
    show (addsK (addK ks s) ss).length ≤ ks.length + (ss.length + 1)
    omega
theorem addK_all {P : D → Prop} {ks : List D} {d : D} (h : ∀ k ∈ ks, P k) (hd : P d) : ∀ k ∈ addK ks d, P k := fun k hk => by
  unfold addK at hk
  split at hk
  · exact h k hk
  · rcases List.mem_append.mp hk with z | z
    · exact h k z
    · rw [List.mem_singleton.mp z]; exact hd
theorem addsK_all {P : D → Prop} : ∀ {ss ks : List D}, (∀ k ∈ ks, P k) → (∀ d ∈ ss, P d) → ∀ k ∈ addsK ks ss, P k
  | [], _, h, _ => h
  | s :: ss, ks, h, hs => fun k hk => addsK_all (ss := ss) (ks := addK ks s) (addK_all h (hs s List.mem_cons_self)) (fun d hd => hs d (List.mem_cons_of_mem _ hd)) k hk
/-- keys all alike: one kind of keys fits -/
theorem kPuts_true {P : D → Prop} (fit : ∀ ks d, (∀ k ∈ ks, P k) → P d → keyFits ks d = true) : ∀ {ss ks : List D}, (∀ k ∈ ks, P k) → (∀ d ∈ ss, P d) → ks.length + ss.length ≤ lim →
    kPuts (.dic ks (trues ks.length)) ss (trues ss.length) = some (.dic (addsK ks ss) (trues (addsK ks ss).length))
  | [], ks, _, _, _ => by unfold kPuts; rfl
  | s :: ss, ks, h, hs, hl => by
    show kPuts (.dic ks (trues ks.length)) (s :: ss) (.bl true :: trues ss.length) = _
    have h2 := addK_len ks s
    rw [List.length_cons] at hl
    unfold kPuts
    rw [if_pos (fit ks s h (hs s List.mem_cons_self)), if_pos (by omega), kPut_true]
    exact kPuts_true fit (addK_all h (hs s List.mem_cons_self)) (fun d hd => hs d (List.mem_cons_of_mem _ hd)) (by omega)
def isS : D → Prop
  | .str _ => True
  | _ => False
theorem fitS (ks : List D) (d : D) (h : ∀ k ∈ ks, isS k) (hd : isS d) : keyFits ks d = true := by
  cases d <;> first | exact hd.elim | skip
  unfold keyFits
  rw [List.all_eq_true]
  intro k hk
  have := h k hk
  cases k <;> first | exact this.elim | rfl
/-- a comprehension of a dict that draws nothing -/
theorem dc_pure {bd : Bd} {test : EvB} {fk fv : Ev} {ρ0 : Rho} (p : D → Bool) (k v : D → D) : ∀ {ds ks vs : List D} {c : Cup}, (∀ d ∈ ds, ∃ ρ, bd ρ0 d = some ρ ∧ (∀ c, test ρ c = some (p d, c)) ∧ (p d = true → ∀ c, fk ρ c = some (k d, c) ∧ fv ρ c = some (v d, c))) →
    dcGo bd test fk fv ρ0 ds ks vs c = (kPuts (.dic ks vs) ((ds.filter p).map k) ((ds.filter p).map v)).map fun d => (d, c)
  | [], ks, vs, c, _ => by
    show some (D.dic ks vs, c) = (kPuts (.dic ks vs) [] []).map _
    unfold kPuts
    rfl
  | d :: ds, ks, vs, c, h => by
    obtain ⟨ρ, h1, h2, h3⟩ := h d List.mem_cons_self
    have ih := fun ks vs c => dc_pure (ks := ks) (vs := vs) (c := c) p k v fun d hd => h d (List.mem_cons_of_mem _ hd)
    unfold dcGo
    rw [h1]
    show (match test ρ c with | some (true, c1) => _ | some (false, c1) => _ | none => none) = _
    rw [h2 c]
    cases hp : p d with
    | true =>
      obtain ⟨h4, _⟩ := h3 hp c
      show (match fk ρ c with | some (k, c2) => _ | none => none) = _
      rw [h4]
      show (match fv ρ c with | some (v, c2) => _ | none => none) = _
      rw [(h3 hp c).2, List.filter_cons_of_pos hp, List.map_cons, List.map_cons]
      show (if keyFits ks (k d) = true then (if ks.length < lim then _ else none) else none) = _
      unfold kPuts
      by_cases hf : keyFits ks (k d) = true
      · rw [if_pos hf, if_pos hf]
        by_cases hl : ks.length < lim
        · rw [if_pos hl, if_pos hl]
          obtain ⟨ks', vs', e⟩ : ∃ ks' vs', kPutD ks vs (k d) (v d) = .dic ks' vs' := by unfold kPutD; split <;> exact ⟨_, _, rfl⟩
          rw [e]
          exact ih _ _ c
        · rw [if_neg hl, if_neg hl]; rfl
      · rw [if_neg hf, if_neg hf]; rfl
    | false =>
      show dcGo bd test fk fv ρ0 ds ks vs c = _
      rw [ih, List.filter_cons_of_neg (by rw [hp]; decide)]
/-! ### slices -/
theorem dCut_from (xs : List D) (k : Nat) : dCut xs (some (k : Int)) none = xs.drop k := by
  unfold dCut
  rw [HT.sIx_nat, HT.sIx_none]
  by_cases h : k ≤ xs.length
  · rw [Nat.min_eq_left h]
    exact List.take_of_length_le (by rw [List.length_drop]; exact Nat.le_refl _)
  · rw [Nat.min_eq_right (by omega), List.drop_length, List.drop_eq_nil_of_le (by omega), List.take_nil]
theorem dCut_to (xs : List D) (k : Nat) : dCut xs none (some (k : Int)) = xs.take k := by
  unfold dCut
  rw [HT.sIx_nat, HT.sIx_none, List.drop_zero, Nat.sub_zero]
  by_cases h : k ≤ xs.length
  · rw [Nat.min_eq_left h]
  · rw [Nat.min_eq_right (by omega), List.take_of_length_le (Nat.le_refl _), List.take_of_length_le (by omega)]
theorem dCut_mid (xs : List D) (a b : Nat) : dCut xs (some (a : Int)) (some (b : Int)) = (xs.take b).drop a := by
  unfold dCut
  rw [HT.sIx_nat, HT.sIx_nat, List.drop_take]
  by_cases h : a ≤ xs.length
  · rw [Nat.min_eq_left h]
    by_cases h2 : b ≤ xs.length
    · rw [Nat.min_eq_left h2]
    · rw [Nat.min_eq_right (by omega), List.take_of_length_le (by rw [List.length_drop]; exact Nat.le_refl _), List.take_of_length_le (by rw [List.length_drop]; omega)]
  · rw [Nat.min_eq_right (Nat.le_of_lt (Nat.not_le.mp h)), List.drop_length, List.drop_eq_nil_of_le (Nat.le_of_lt (Nat.not_le.mp h)), List.take_nil, List.take_nil]
/-! ### a loop that hands back r at the first item that fails -/
theorem for_test {bd : Bd} {F : SF} (P : Rho → Prop) (q : D → Bool) (r : D) (c : Cup) : ∀ {ds : List D} {ρ : Rho}, (∀ d ∈ ds, ∀ ρ, P ρ → ∃ ρ1, bd ρ d = some ρ1 ∧ (q d = true → ∃ ρ2, F ρ1 c = some (.nx ρ2 c) ∧ P ρ2) ∧ (q d = false → F ρ1 c = some (.rt r c))) → P ρ →
    (ds.all q = true → ∃ ρ', forGo bd F ds ρ c = some (.nx ρ' c) ∧ P ρ') ∧ (ds.all q = false → forGo bd F ds ρ c = some (.rt r c))
  | [], ρ, _, hp => ⟨fun _ => ⟨ρ, rfl, hp⟩, fun h => by simp at h⟩
  | d :: ds, ρ, h, hp => by
    obtain ⟨ρ1, h1, h2, h3⟩ := h d List.mem_cons_self ρ hp
    cases hq : q d with
    | false =>
      refine ⟨fun z => ?_, fun _ => ?_⟩
      · rw [List.all_cons, hq] at z; cases z
      · simp only [forGo, h1, h3 hq]
    | true =>
      obtain ⟨ρ2, h4, h5⟩ := h2 hq
      have ih := for_test (ds := ds) P q r c (fun d hd => h d (List.mem_cons_of_mem _ hd)) h5
      rw [List.all_cons, hq, Bool.true_and]
      simp only [forGo, h1, h4]
      exact ih
theorem sortD_len (ds : List D) : (sortD ds).length = ds.length := by unfold sortD; rw [List.length_mergeSort]
end DL
end
section
/-! the readings of the defs; printed by gen.py -/
namespace K46
open PySem PySem.Spec PyProof.Rows L2 DL
def gc_AIR : D := (.str ".")
def gc_LONGEST : D := (.int 12)
def gc_SIGNS : D := (.str "abcdefghijklmnopqrstuvwxyz0123456789")
def gc_LETTERS : D := (.str "abcdefghijklmnopqrstuvwxyz")
def gc_WIDE : D := (.int 30)
def gc_NOTES : D := (.int 200)
def gc_CONTEXTS : D := (.int 60)
def b__law_roll : SF := (sSeq (sIf (dTest (dBin opGt (dCup0 0) (dC (.int 0)))) (sSeq (sSet false 2 (dBin opMod (dBi biInt (dCons (dCup0 0) dNil)) (dVarP 1)))
    (sSeq (sCup0 0 (dBin opFdiv (dCup0 0) (dVarP 1)))
    (sSeq (sRet (dVar 2))
    sNext))) sNext)
    (sSeq (sCup1 0 (dBin opMod (dBi biInt (dCons (dBin opAdd (dBin opMult (dCup1 0) (dC (.int 30937))) (dC (.int 7933))) dNil)) (dC (.int 2147482949))))
    (sSeq (sSet false 3 (dBin opMod (dBi biInt (dCons (dBin opMult (dCup1 0) (dBin opAdd (dCup1 0) (dC (.int 233)))) dNil)) (dC (.int 2147482937))))
    (sSeq (sRet (dBin opMod (dBi biInt (dCons (dBin opFdiv (dVarP 3) (dC (.int 811))) dNil)) (dVarP 1)))
    sNext))))
def g__law_roll : List D → Cup → Option (D × Cup) := fD 2 4 b__law_roll
def b__law_some : SF := (sSeq (sRet (dBin opIx (dVarP 1) (dCall g__law_roll (dCons (dVar 0) (dCons (dBi biLen (dCons (dVarP 1) dNil)) dNil)))))
    sNext)
def g__law_some : List D → Cup → Option (D × Cup) := fD 2 2 b__law_some
def b__law_names : SF := (sSeq (sPar2 false true 5 4 (dLc [6] (dItems (dLst (dCons (dC (.str "")) (dCons (dC (.str "a")) (dCons (dC (.str "ab")) (dCons (dC (.str "b")) (dCons (dC (.str "b1")) (dCons (dC (.str "c")) (dCons (dC (.str "z9")) (dCons (dC (.str "z")) (dCons (dC (.str "q")) (dCons (dC (.str "x")) (dCons (dC (.str "x1")) (dCons (dC (.str "m")) (dCons (dC (.str "n")) (dCons (dC (.str "t")) (dCons (dC (.str "w")) dNil))))))))))))))))) (bName 6) dYes (dBin opAdd (dVarP 2) (dVarP 6))) (dLst dNil))
    (sSeq (sFor (dRng1 (dCons (dVarP 1) dNil)) (bName 3) (sSeq (sDropM (mApp 4 (dCall g__law_some (dCons (dVar 0) (dCons (dVar 5) dNil)))))
    (sSeq (sSet false 5 (dLc [6] (dItems (dVar 5)) (bName 6) (dTest (dBin opNe (dVarP 6) (dBin opIx (dVarP 4) (dNeg (dC (.int 1)))))) (dVar 6)))
    sNext)))
    (sSeq (sFrz 4 (sRet (dVar 4)))
    sNext)))
def g__law_names : List D → Cup → Option (D × Cup) := fD 3 7 b__law_names
def b__law_drawing : SF := (sSeq (sSet false 4 (dTup dNil))
    (sSeq (sFor (dRng1 (dCons (dVarP 1) dNil)) (bName 5) (sSeq (sSet false 7 (dTup dNil))
    (sSeq (sFor (dRng1 (dCons (dVarP 2) dNil)) (bName 6) (sSeq (sPar2 false false 8 9 (dIf (dTest (dBin opNe (dVarP 4) (dTup dNil))) (dBin opIx (dBin opIx (dVarP 4) (dNeg (dC (.int 1)))) (dVarP 6)) (dC (.str "."))) (dIf (dTest (dBin opNe (dVarP 7) (dTup dNil))) (dBin opIx (dVarP 7) (dNeg (dC (.int 1)))) (dC (.str "."))))
    (sSeq (sSet false 7 (dBin opAdd (dVarP 7) (dTup (dCons (dCall g__law_some (dCons (dVar 0) (dCons (dLst (dCons (dVar 8) (dCons (dVar 8) (dCons (dVar 9) (dCons (dC (.str ".")) (dCons (dCall g__law_some (dCons (dVar 0) (dCons (dVar 3) dNil))) (dCons (dCall g__law_some (dCons (dVar 0) (dCons (dVar 3) dNil))) dNil))))))) dNil))) dNil))))
    sNext)))
    (sSeq (sSet false 4 (dBin opAdd (dVarP 4) (dTup (dCons (dVar 7) dNil))))
    sNext))))
    (sSeq (sRet (dVar 4))
    sNext)))
def g__law_drawing : List D → Cup → Option (D × Cup) := fD 4 10 b__law_drawing
def b__law_same (self : List D → Cup → Option (D × Cup)) : SF := (sSeq (sIf (dTest (dIsi .tuple (dVarP 1))) (sSeq (sIf (dOr (dNot (dTest (dIsi .tuple (dVarP 0)))) (dTest (dBin opNe (dBi biLen (dCons (dVarP 0) dNil)) (dBi biLen (dCons (dVarP 1) dNil))))) (sSeq (sRet (dC (.bl false)))
    sNext) sNext)
    (sSeq (sRet (dBi biAll (dCons (dLc [2] (dRng1 (dCons (dBi biLen (dCons (dVarP 1) dNil)) dNil)) (bName 2) dYes (dCall (self) (dCons (dBin opIx (dVarP 0) (dVarP 2)) (dCons (dBin opIx (dVarP 1) (dVarP 2)) dNil)))) dNil)))
    sNext)) sNext)
    (sSeq (sIf (dTest (dBin opIs (dVarP 1) (dC .non))) (sSeq (sRet (dBin opIs (dVarP 0) (dC .non)))
    sNext) sNext)
    (sSeq (sIf (dTest (dIsi .bool (dVarP 1))) (sSeq (sRet (dIf (dTest (dVar 1)) (dBin opIs (dVarP 0) (dC (.bl true))) (dBin opIs (dVarP 0) (dC (.bl false)))))
    sNext) sNext)
    (sSeq (sIf (dTest (dIsi .int (dVarP 1))) (sSeq (sRet (dIf (dTest (dIsi .int (dVarP 0))) (dIf (dTest (dBl (dNot (dTest (dIsi .bool (dVarP 0)))))) (dBin opEq (dBi biInt (dCons (dVarP 0) dNil)) (dVarP 1)) (dC (.bl false))) (dC (.bl false))))
    sNext) sNext)
    (sSeq (sRet (dIf (dTest (dIsi .str (dVarP 0))) (dBin opEq (dBi biStr (dCons (dVarP 0) dNil)) (dVarP 1)) (dC (.bl false))))
    sNext)))))
def g__law_same : Nat → List D → Cup → Option (D × Cup)
  | 0 => fun _ _ => none
  | k + 1 => fD 2 3 (b__law_same (g__law_same k))
def b__law_wide : SF := (sSeq (sSet true 2 (dLst dNil))
    (sSeq (sFor (dRng2 (dCons (dC (.int 1)) (dCons (dC (.int 31)) dNil))) (bName 4) (sSeq (sSet false 5 (dBi biMin2 (dCons (dC (.int 29)) (dCons (dBi biMax2 (dCons (dC (.int 0)) (dCons (dVarP 1) dNil))) dNil))))
    (sSeq (sSet false 1 (dBin opSub (dVarP 1) (dVarP 5)))
    (sSeq (sSet false 3 (dLc [6] (dRng1 (dCons (dIf (dTest (dBin opGt (dVarP 5) (dC (.int 0)))) (dBin opAdd (dVarP 5) (dC (.int 1))) (dC (.int 0))) dNil)) (bName 6) dYes (dBin opIx (dVarP 0) (dBin opMod (dBin opMult (dVarP 6) (dVarP 4)) (dC (.int 59))))))
    (sSeq (sDropM (mApp 2 (dBin opAdd (dVarP 3) (dBin opMult (dLst (dCons (dC (.str ".")) dNil)) (dBin opSub (dC (.int 30)) (dBi biLen (dCons (dVarP 3) dNil)))))))
    sNext)))))
    (sSeq (sFrz 2 (sRet (dBi biTup (dCons (dLc [7] (dRng1 (dCons (dC (.int 30)) dNil)) (bName 7) dYes (dBi biTup (dCons (dLc [8] (dItems (dVar 2)) (bName 8) dYes (dBin opIx (dVarP 8) (dVarP 7))) dNil))) dNil))))
    sNext)))
def g__law_wide : List D → Cup → Option (D × Cup) := fD 2 9 b__law_wide
def b_is_tuple_of : SF := (sSeq (sRet (dIf (dTest (dIsi .tuple (dVarP 0))) (dChain opLe opLe (dVarP 1) (dBi biLen (dCons (dVarP 0) dNil)) (dVarP 2)) (dC (.bl false))))
    sNext)
def g_is_tuple_of : List D → Cup → Option (D × Cup) := fD 3 3 b_is_tuple_of
def b_names_in : SF := (sSeq (sSet true 1 dDic0)
    (sSeq (sFor (dItems (dVar 0)) (bName 2) (sSeq (sDropM (mUpd 1 (dDc [3] (dItems (dVar 2)) (bName 3) (dTest (dBin opNe (dVarP 3) (dC gc_AIR))) (dVar 3) (dC (.bl true)))))
    sNext))
    (sSeq (sRet (dBn biSorted (dCons (dBn biList (dCons (dVarP 1) dNil)) dNil)))
    sNext)))
def g_names_in : List D → Cup → Option (D × Cup) := fD 1 4 b_names_in
def b_notes_in : SF := (sSeq (sSet true 1 dDic0)
    (sSeq (sFor (dZip (dCons (dVar 0) (dCons (dSl (dVarP 0) (dPart (dC (.int 1))) dNoPart) dNil))) (bTup 2 (bCons (bName 2) (bCons (bName 3) bNil))) (sSeq (sFor (dZip (dCons (dVar 2) (dCons (dVar 3) dNil))) (bTup 2 (bCons (bName 4) (bCons (bName 5) bNil))) (sSeq (sIf (dAnd (dTest (dBin opNotIn (dC gc_AIR) (dTup (dCons (dVar 4) (dCons (dVar 5) dNil))))) (dTest (dBin opNe (dVarP 4) (dVarP 5)))) (sSeq (sPut 1 (dTup (dCons (dC (.str "over")) (dCons (dVar 4) (dCons (dVar 5) dNil)))) (dC (.bl true)))
    sNext) sNext)
    sNext))
    sNext))
    (sSeq (sRet (dBn biSorted (dCons (dBn biList (dCons (dVarP 1) dNil)) dNil)))
    sNext)))
def g_notes_in : List D → Cup → Option (D × Cup) := fD 1 6 b_notes_in
def b_fits_name : SF := (sSeq (sIf (dOr (dNot (dTest (dIsi .str (dVarP 0)))) (dNot (dTest (dChain opLe opLe (dC (.int 1)) (dBi biLen (dCons (dVarP 0) dNil)) (dC gc_LONGEST))))) (sSeq (sRet (dC (.bl false)))
    sNext) sNext)
    (sSeq (sRet (dIf (dTest (dBin opIn (dBin opIx (dVarP 0) (dC (.int 0))) (dC gc_LETTERS))) (dBi biAll (dCons (dLc [1] (dItems (dVar 0)) (bName 1) dYes (dBin opIn (dVarP 1) (dC gc_SIGNS))) dNil)) (dC (.bl false))))
    sNext))
def g_fits_name : List D → Cup → Option (D × Cup) := fD 1 2 b_fits_name
def b_fits_drawing : SF := (sSeq (sIf (dOr (dNot (dTest (dCall g_is_tuple_of (dCons (dVar 0) (dCons (dC (.int 1)) (dCons (dC gc_WIDE) dNil)))))) (dNot (dTest (dBi biAll (dCons (dLc [1] (dItems (dVar 0)) (bName 1) dYes (dCall g_is_tuple_of (dCons (dVar 1) (dCons (dC (.int 1)) (dCons (dC gc_WIDE) dNil))))) dNil))))) (sSeq (sRet (dC (.bl false)))
    sNext) sNext)
    (sSeq (sIf (dTest (dBin opNe (dLenSet (dLc [1] (dItems (dVar 0)) (bName 1) dYes (dBi biLen (dCons (dVarP 1) dNil)))) (dC (.int 1)))) (sSeq (sRet (dC (.bl false)))
    sNext) sNext)
    (sSeq (sFor (dItems (dVar 0)) (bName 1) (sSeq (sIf (dNot (dTest (dBi biAll (dCons (dLc [2] (dItems (dVar 1)) (bName 2) dYes (dIf (dTest (dCall g_fits_name (dCons (dVar 2) dNil))) (dC (.bl true)) (dIf (dTest (dIsi .str (dVarP 2))) (dBin opEq (dVarP 2) (dC gc_AIR)) (dC (.bl false))))) dNil)))) (sSeq (sRet (dC (.bl false)))
    sNext) sNext)
    sNext))
    (sSeq (sRet (dIf (dTest (dBin opLe (dBi biLen (dCons (dCall g_names_in (dCons (dVar 0) dNil)) dNil)) (dC gc_CONTEXTS))) (dBin opLe (dBi biLen (dCons (dCall g_notes_in (dCons (dVar 0) dNil)) dNil)) (dC gc_NOTES)) (dC (.bl false))))
    sNext))))
def g_fits_drawing : List D → Cup → Option (D × Cup) := fD 1 3 b_fits_drawing
def b_is_drawing : SF := (sSeq (sRet (dCall g_fits_drawing (dCons (dVar 0) dNil)))
    sNext)
def g_is_drawing : List D → Cup → Option (D × Cup) := fD 1 1 b_is_drawing
def b_need_drawing : SF := (sSeq (sIf (dNot (dTest (dCall g_fits_drawing (dCons (dVar 0) dNil)))) (sSeq (fun _ _ => none)
    sNext) sNext)
    sNext)
def g_need_drawing : List D → Cup → Option (D × Cup) := fD 1 1 b_need_drawing
def b_names_of : SF := (sSeq (sDrop (dCall g_need_drawing (dCons (dVar 0) dNil)))
    (sSeq (sRet (dBi biTup (dCons (dCall g_names_in (dCons (dVar 0) dNil)) dNil)))
    sNext))
def g_names_of : List D → Cup → Option (D × Cup) := fD 1 1 b_names_of
def b_drawn_notes : SF := (sSeq (sDrop (dCall g_need_drawing (dCons (dVar 0) dNil)))
    (sSeq (sRet (dBi biTup (dCons (dCall g_notes_in (dCons (dVar 0) dNil)) dNil)))
    sNext))
def g_drawn_notes : List D → Cup → Option (D × Cup) := fD 1 1 b_drawn_notes
def b__law_notes : SF := (sSeq (sSet true 1 dDic0)
    (sSeq (sFor (dRng1 (dCons (dBin opSub (dBi biLen (dCons (dVarP 0) dNil)) (dC (.int 1))) dNil)) (bName 2) (sSeq (sFor (dRng1 (dCons (dBi biLen (dCons (dBin opIx (dVarP 0) (dC (.int 0))) dNil)) dNil)) (bName 5) (sSeq (sPar2 false false 3 4 (dBin opIx (dBin opIx (dVarP 0) (dVarP 2)) (dVarP 5)) (dBin opIx (dBin opIx (dVarP 0) (dBin opAdd (dVarP 2) (dC (.int 1)))) (dVarP 5)))
    (sSeq (sIf (dAnd (dTest (dBin opNe (dVarP 3) (dVarP 4))) (dAnd (dTest (dBin opNe (dVarP 3) (dC (.str ".")))) (dTest (dBin opNe (dVarP 4) (dC (.str ".")))))) (sSeq (sPut 1 (dTup (dCons (dC (.str "over")) (dCons (dVar 3) (dCons (dVar 4) dNil)))) (dC (.bl true)))
    sNext) sNext)
    sNext)))
    sNext))
    (sSeq (sRet (dBi biTup (dCons (dBn biSorted (dCons (dVarP 1) dNil)) dNil)))
    sNext)))
def g__law_notes : List D → Cup → Option (D × Cup) := fD 1 6 b__law_notes
def b__law_all_names : SF := (sSeq (sSet true 1 dDic0)
    (sSeq (sFor (dItems (dVar 0)) (bName 2) (sSeq (sDropM (mUpd 1 (dDict (dCons (dLc [3] (dItems (dVar 2)) (bName 3) (dTest (dBin opNe (dVarP 3) (dC (.str ".")))) (dTup (dCons (dVar 3) (dCons (dC (.bl true)) dNil)))) dNil))))
    sNext))
    (sSeq (sRet (dBn biSorted (dCons (dVarP 1) dNil)))
    sNext)))
def g__law_all_names : List D → Cup → Option (D × Cup) := fD 1 4 b__law_all_names
def b__law_bounds_right : SF := (sSeq (sSet false 2 (dLc [7] (dRng1 (dCons (dC (.int 61)) dNil)) (bName 7) dYes (dBin opAdd (dC (.str "n")) (dBi biStr (dCons (dBin opAdd (dC (.int 10)) (dVarP 7)) dNil)))))
    (sSeq (sPar2 false false 1 3 (dCall g__law_some (dCons (dVar 0) (dCons (dVar 2) dNil))) (dCall g__law_wide (dCons (dSl (dVarP 2) dNoPart (dPart (dC (.int 59)))) (dCons (dC (.int 200)) dNil))))
    (sSeq (sSet false 4 (dLst (dCons (dBin opMult (dTup (dCons (dBin opMult (dTup (dCons (dVar 1) dNil)) (dC (.int 30))) dNil)) (dC (.int 30))) (dCons (dBin opMult (dTup (dCons (dBin opMult (dTup (dCons (dC (.str ".")) dNil)) (dC (.int 30))) dNil)) (dC (.int 30))) (dCons (dTup (dCons (dBi biTup (dCons (dSl (dVarP 2) dNoPart (dPart (dC (.int 30)))) dNil)) (dCons (dBi biTup (dCons (dSl (dVarP 2) (dPart (dC (.int 30))) (dPart (dC (.int 60)))) dNil)) dNil))) (dCons (dTup (dCons (dTup (dCons (dVar 1) dNil)) dNil)) (dCons (dTup (dCons (dTup (dCons (dC (.str ".")) dNil)) dNil)) (dCons (dVar 3) dNil))))))))
    (sSeq (sSet false 5 (dLst (dCons (dTup (dCons (dBin opMult (dTup (dCons (dVar 1) dNil)) (dC (.int 31))) dNil)) (dCons (dBin opMult (dTup (dCons (dTup (dCons (dVar 1) dNil)) dNil)) (dC (.int 31))) (dCons (dTup (dCons (dBi biTup (dCons (dSl (dVarP 2) dNoPart (dPart (dC (.int 30)))) dNil)) (dCons (dBi biTup (dCons (dSl (dVarP 2) (dPart (dC (.int 30))) (dPart (dC (.int 60)))) dNil)) (dCons (dBi biTup (dCons (dSl (dVarP 2) (dPart (dC (.int 31))) (dPart (dC (.int 61)))) dNil)) dNil)))) (dCons (dCall g__law_wide (dCons (dSl (dVarP 2) dNoPart (dPart (dC (.int 59)))) (dCons (dC (.int 201)) dNil))) dNil))))))
    (sSeq (sIf (dTest (dBin opNe (dLc [8] (dItems (dBin opAdd (dVarP 4) (dVarP 5))) (bName 8) dYes (dCall g_is_drawing (dCons (dVar 8) dNil))) (dBin opAdd (dBin opMult (dLst (dCons (dC (.bl true)) dNil)) (dC (.int 6))) (dBin opMult (dLst (dCons (dC (.bl false)) dNil)) (dC (.int 4)))))) (sSeq (sRet (dC (.bl false)))
    sNext) sNext)
    (sSeq (sSet false 6 (dTup (dCons (dBi biTup (dCons (dSl (dVarP 2) dNoPart (dPart (dC (.int 20)))) dNil)) (dCons (dBi biTup (dCons (dSl (dVarP 2) (dPart (dC (.int 20))) (dPart (dC (.int 40)))) dNil)) (dCons (dBi biTup (dCons (dSl (dVarP 2) (dPart (dC (.int 40))) (dPart (dC (.int 60)))) dNil)) dNil)))))
    (sSeq (sIf (dNot (dTest (dCall (g__law_same 20) (dCons (dTup (dCons (dBi biLen (dCons (dCall g_names_of (dCons (dVar 6) dNil)) dNil)) (dCons (dBi biLen (dCons (dCall g_drawn_notes (dCons (dVar 6) dNil)) dNil)) (dCons (dBi biLen (dCons (dCall g_drawn_notes (dCons (dVar 3) dNil)) dNil)) dNil)))) (dCons (dTup (dCons (dC (.int 60)) (dCons (dC (.int 40)) (dCons (dC (.int 200)) dNil)))) dNil))))) (sSeq (sRet (dC (.bl false)))
    sNext) sNext)
    (sSeq (sRet (dCall (g__law_same 20) (dCons (dTup (dCons (dCall g_names_of (dCons (dVar 3) dNil)) (dCons (dCall g_drawn_notes (dCons (dVar 3) dNil)) dNil))) (dCons (dTup (dCons (dBi biTup (dCons (dCall g__law_all_names (dCons (dVar 3) dNil)) dNil)) (dCons (dCall g__law_notes (dCons (dVar 3) dNil)) dNil))) dNil))))
    sNext))))))))
def g__law_bounds_right : List D → Cup → Option (D × Cup) := fD 1 9 b__law_bounds_right
def b__law_written : SF := (sSeq (sSet false 2 (dCall g__law_some (dCons (dVar 0) (dCons (dLst (dCons (dC (.str "m")) (dCons (dC (.str "k2")) (dCons (dC (.str "zz")) dNil)))) dNil))))
    (sSeq (sSet false 1 (dTup (dCons (dTup (dCons (dC (.str "a")) (dCons (dVar 2) (dCons (dC (.str ".")) (dCons (dC (.str "a")) dNil))))) (dCons (dTup (dCons (dC (.str "a")) (dCons (dC (.str ".")) (dCons (dVar 2) (dCons (dVar 2) dNil))))) (dCons (dTup (dCons (dVar 2) (dCons (dC (.str "a")) (dCons (dVar 2) (dCons (dC (.str "a")) dNil))))) (dCons (dTup (dCons (dC (.str "a")) (dCons (dC (.str "a")) (dCons (dC (.str ".")) (dCons (dC (.str ".")) dNil))))) (dCons (dTup (dCons (dC (.str ".")) (dCons (dVar 2) (dCons (dC (.str "a")) (dCons (dC (.str "b")) dNil))))) dNil)))))))
    (sSeq (sSet false 3 (dBi biTup (dCons (dBn biSorted (dCons (dLst (dCons (dTup (dCons (dC (.str "over")) (dCons (dC (.str "a")) (dCons (dVar 2) dNil)))) (dCons (dTup (dCons (dC (.str "over")) (dCons (dVar 2) (dCons (dC (.str "a")) dNil)))) dNil))) dNil)) dNil)))
    (sSeq (sRet (dCall (g__law_same 20) (dCons (dTup (dCons (dCall g_drawn_notes (dCons (dVar 1) dNil)) (dCons (dCall g_names_of (dCons (dVar 1) dNil)) (dCons (dCall g_drawn_notes (dCons (dTup (dCons (dTup (dCons (dC (.str ".")) dNil)) dNil)) dNil)) dNil)))) (dCons (dTup (dCons (dVar 3) (dCons (dTup (dCons (dC (.str "a")) (dCons (dC (.str "b")) (dCons (dVar 2) dNil)))) (dCons (dTup dNil) dNil)))) dNil))))
    sNext))))
def g__law_written : List D → Cup → Option (D × Cup) := fD 1 4 b__law_written
def b__law_bent : SF := (sSeq (sPar2 false false 4 5 (dCall g__law_roll (dCons (dVar 0) (dCons (dBi biLen (dCons (dVarP 1) dNil)) dNil))) (dCall g__law_roll (dCons (dVar 0) (dCons (dBi biLen (dCons (dBin opIx (dVarP 1) (dC (.int 0))) dNil)) dNil))))
    (sSeq (sPar2 false false 3 7 (dBin opIx (dVarP 1) (dVarP 4)) (dLst (dCons (dC (.str "")) (dCons (dC (.str "A")) (dCons (dC (.str "1a")) (dCons (dBin opMult (dC (.str "a")) (dC (.int 13))) (dCons (dC (.str "..")) (dCons (dC (.str " ")) (dCons (dC (.str "a.")) (dCons (dC .non) (dCons (dC (.int 5)) (dCons (dC (.bl true)) (dCons (dTup (dCons (dC (.str ".")) dNil)) (dCons (dLst (dCons (dC (.str "a")) dNil)) dNil))))))))))))))
    (sSeq (sSet false 6 (dBin opAdd (dLc [8] (dItems (dVar 7)) (bName 8) dYes (dBin opAdd (dBin opAdd (dSl (dVarP 3) dNoPart (dPart (dVarP 5))) (dTup (dCons (dVar 8) dNil))) (dSl (dVarP 3) (dPart (dBin opAdd (dVarP 5) (dC (.int 1)))) dNoPart))) (dLst (dCons (dBn biList (dCons (dVarP 3) dNil)) (dCons (dTup dNil) (dCons (dBin opMult (dC (.str "a")) (dBi biLen (dCons (dVarP 3) dNil))) (dCons (dC .non) dNil)))))))
    (sSeq (sSet false 6 (dBin opAdd (dVarP 6) (dIf (dTest (dBin opGt (dBi biLen (dCons (dVarP 1) dNil)) (dC (.int 1)))) (dLst (dCons (dBin opAdd (dVarP 3) (dTup (dCons (dC (.str "a")) dNil))) (dCons (dSl (dVarP 3) (dPart (dC (.int 1))) dNoPart) dNil))) (dLst dNil))))
    (sSeq (sSet false 2 (dLc [9] (dItems (dVar 6)) (bName 9) dYes (dBin opAdd (dBin opAdd (dSl (dVarP 1) dNoPart (dPart (dVarP 4))) (dTup (dCons (dVar 9) dNil))) (dSl (dVarP 1) (dPart (dBin opAdd (dVarP 4) (dC (.int 1)))) dNoPart))))
    (sSeq (sSet false 2 (dBin opAdd (dVarP 2) (dLst (dCons (dBn biList (dCons (dVarP 1) dNil)) (dCons (dTup dNil) (dCons (dC .non) (dCons (dVar 3) (dCons (dC (.str "drawing")) (dCons (dC (.int 7)) (dCons (dBin opAdd (dVarP 1) (dTup (dCons (dBin opMult (dTup (dCons (dC (.str ".")) dNil)) (dBin opAdd (dBi biLen (dCons (dVarP 3) dNil)) (dC (.int 1)))) dNil))) (dCons (dBin opAdd (dVarP 1) (dTup (dCons (dSl (dVarP 3) dNoPart (dPart (dNeg (dC (.int 1))))) dNil))) dNil)))))))))))
    (sSeq (sRet (dBin opAdd (dVarP 2) (dLst (dCons (dBin opIx (dVarP 1) (dC (.int 0))) (dCons (dTup (dCons (dVar 1) dNil)) dNil)))))
    sNext)))))))
def g__law_bent : List D → Cup → Option (D × Cup) := fD 2 10 b__law_bent
def b_law : SF := (sSeq (sFor (dRng1 (dCons (dC (.int 5)) dNil)) (bName 1) (sSeq (sSet false 3 (dCall g__law_names (dCons (dVar 4) (dCons (dBin opAdd (dC (.int 1)) (dCall g__law_roll (dCons (dVar 4) (dCons (dC (.int 9)) dNil)))) (dCons (dC (.str "c")) dNil)))))
    (sSeq (sSet false 2 (dCall g__law_drawing (dCons (dVar 4) (dCons (dBin opAdd (dC (.int 1)) (dCall g__law_roll (dCons (dVar 4) (dCons (dC (.int 7)) dNil)))) (dCons (dBin opAdd (dC (.int 1)) (dCall g__law_roll (dCons (dVar 4) (dCons (dC (.int 7)) dNil)))) (dCons (dVar 3) dNil))))))
    (sSeq (sIf (dOr (dTest (dBin opIsNot (dCall g_is_drawing (dCons (dVar 2) dNil)) (dC (.bl true)))) (dTest (dBin opNe (dLc [5] (dItems (dCall g__law_bent (dCons (dVar 4) (dCons (dVar 2) dNil)))) (bName 5) (dTest (dBin opIsNot (dCall g_is_drawing (dCons (dVar 5) dNil)) (dC (.bl false)))) (dVar 5)) (dLst dNil)))) (sSeq (sRet (dC (.bl false)))
    sNext) sNext)
    (sSeq (sIf (dNot (dTest (dCall (g__law_same 20) (dCons (dTup (dCons (dCall g_names_of (dCons (dVar 2) dNil)) (dCons (dCall g_drawn_notes (dCons (dVar 2) dNil)) dNil))) (dCons (dTup (dCons (dBi biTup (dCons (dCall g__law_all_names (dCons (dVar 2) dNil)) dNil)) (dCons (dCall g__law_notes (dCons (dVar 2) dNil)) dNil))) dNil))))) (sSeq (sRet (dC (.bl false)))
    sNext) sNext)
    sNext)))))
    (sSeq (sRet (dIf (dTest (dCall g__law_bounds_right (dCons (dVar 4) dNil))) (dCall g__law_written (dCons (dVar 4) dNil)) (dC (.bl false))))
    sNext))
def lawN : Nat := 6
end K46
end
section
/-! the derivations; printed by gen.py -/
namespace K46
open PySem PySem.Spec PyProof.Rows L2 DL
def topS (i : Nat) : Stmt := PySem.Challenge.pw_earthorder_k46_whole_drawings_and_notes.main.body.getD i (.Pass ⟨0, 0, 0, 0⟩)
abbrev s__law_cup : Stmt := topS 22
abbrev s__law_roll : Stmt := topS 23
abbrev s__law_some : Stmt := topS 24
abbrev s__law_names : Stmt := topS 26
abbrev s__law_drawing : Stmt := topS 27
abbrev s__law_same : Stmt := topS 25
abbrev s__law_wide : Stmt := topS 31
abbrev s_is_tuple_of : Stmt := topS 10
abbrev s_names_in : Stmt := topS 14
abbrev s_notes_in : Stmt := topS 15
abbrev s_fits_name : Stmt := topS 9
abbrev s_fits_drawing : Stmt := topS 16
abbrev s_is_drawing : Stmt := topS 18
abbrev s_need_drawing : Stmt := topS 17
abbrev s_names_of : Stmt := topS 19
abbrev s_drawn_notes : Stmt := topS 20
abbrev s__law_notes : Stmt := topS 28
abbrev s__law_all_names : Stmt := topS 29
abbrev s__law_bounds_right : Stmt := topS 32
abbrev s__law_written : Stmt := topS 33
abbrev s__law_bent : Stmt := topS 30
abbrev s_law : Stmt := topS 34
theorem sc__law_roll : FnScope ["cup", "many", "found", "deep"] ["cup", "many"] (defScope s__law_roll) := ⟨rfl, rfl, rfl, by decide +kernel, rfl, by decide +kernel, by decide +kernel⟩
theorem sc__law_some : FnScope ["cup", "things"] ["cup", "things"] (defScope s__law_some) := ⟨rfl, rfl, rfl, by decide +kernel, rfl, by decide +kernel, by decide +kernel⟩
theorem sc__law_names : FnScope ["cup", "many", "first", "turn", "found", "pool", "one"] ["cup", "many", "first"] (defScope s__law_names) := ⟨rfl, rfl, rfl, by decide +kernel, rfl, by decide +kernel, by decide +kernel⟩
theorem sc__law_drawing : FnScope ["cup", "rows", "columns", "names", "found", "at", "column", "cells", "above", "left"] ["cup", "rows", "columns", "names"] (defScope s__law_drawing) := ⟨rfl, rfl, rfl, by decide +kernel, rfl, by decide +kernel, by decide +kernel⟩
theorem sc__law_same : FnScope ["told", "due", "at"] ["told", "due"] (defScope s__law_same) := ⟨rfl, rfl, rfl, by decide +kernel, rfl, by decide +kernel, by decide +kernel⟩
theorem sc__law_wide : FnScope ["names", "many", "columns", "cells", "step", "pairs", "at", "row", "column"] ["names", "many"] (defScope s__law_wide) := ⟨rfl, rfl, rfl, by decide +kernel, rfl, by decide +kernel, by decide +kernel⟩
theorem sc_is_tuple_of : FnScope ["value", "least", "most"] ["value", "least", "most"] (defScope s_is_tuple_of) := ⟨rfl, rfl, rfl, by decide +kernel, rfl, by decide +kernel, by decide +kernel⟩
theorem sc_names_in : FnScope ["value", "found", "row", "cell"] ["value"] (defScope s_names_in) := ⟨rfl, rfl, rfl, by decide +kernel, rfl, by decide +kernel, by decide +kernel⟩
theorem sc_notes_in : FnScope ["value", "found", "row", "under", "one", "other"] ["value"] (defScope s_notes_in) := ⟨rfl, rfl, rfl, by decide +kernel, rfl, by decide +kernel, by decide +kernel⟩
theorem sc_fits_name : FnScope ["value", "sign"] ["value"] (defScope s_fits_name) := ⟨rfl, rfl, rfl, by decide +kernel, rfl, by decide +kernel, by decide +kernel⟩
theorem sc_fits_drawing : FnScope ["value", "row", "cell"] ["value"] (defScope s_fits_drawing) := ⟨rfl, rfl, rfl, by decide +kernel, rfl, by decide +kernel, by decide +kernel⟩
theorem sc_is_drawing : FnScope ["value"] ["value"] (defScope s_is_drawing) := ⟨rfl, rfl, rfl, by decide +kernel, rfl, by decide +kernel, by decide +kernel⟩
theorem sc_need_drawing : FnScope ["value"] ["value"] (defScope s_need_drawing) := ⟨rfl, rfl, rfl, by decide +kernel, rfl, by decide +kernel, by decide +kernel⟩
theorem sc_names_of : FnScope ["drawing"] ["drawing"] (defScope s_names_of) := ⟨rfl, rfl, rfl, by decide +kernel, rfl, by decide +kernel, by decide +kernel⟩
theorem sc_drawn_notes : FnScope ["drawing"] ["drawing"] (defScope s_drawn_notes) := ⟨rfl, rfl, rfl, by decide +kernel, rfl, by decide +kernel, by decide +kernel⟩
theorem sc__law_notes : FnScope ["drawing", "found", "at", "one", "other", "column"] ["drawing"] (defScope s__law_notes) := ⟨rfl, rfl, rfl, by decide +kernel, rfl, by decide +kernel, by decide +kernel⟩
theorem sc__law_all_names : FnScope ["drawing", "found", "row", "cell"] ["drawing"] (defScope s__law_all_names) := ⟨rfl, rfl, rfl, by decide +kernel, rfl, by decide +kernel, by decide +kernel⟩
theorem sc__law_bounds_right : FnScope ["cup", "name", "names", "wide", "good", "bad", "three", "at", "one"] ["cup"] (defScope s__law_bounds_right) := ⟨rfl, rfl, rfl, by decide +kernel, rfl, by decide +kernel, by decide +kernel⟩
theorem sc__law_written : FnScope ["cup", "drawing", "one", "due"] ["cup"] (defScope s__law_written) := ⟨rfl, rfl, rfl, by decide +kernel, rfl, by decide +kernel, by decide +kernel⟩
theorem sc__law_bent : FnScope ["cup", "drawing", "found", "row", "at", "column", "bent", "odds", "odd", "one"] ["cup", "drawing"] (defScope s__law_bent) := ⟨rfl, rfl, rfl, by decide +kernel, rfl, by decide +kernel, by decide +kernel⟩
theorem sc_law : FnScope ["script", "turn", "drawing", "names", "cup", "one"] ["script"] (defScope s_law) := ⟨rfl, rfl, rfl, by decide +kernel, rfl, by decide +kernel, by decide +kernel⟩
theorem sc__law_cup : FnScope ["script", "cell"] ["script"] (defScope s__law_cup) := ⟨rfl, rfl, rfl, by decide +kernel, rfl, by decide +kernel, by decide +kernel⟩
/-- the built-ins that no name of the module hides, the constants -/
structure Glo (mg : Str → Option Value) : Prop where
  abs : mg "abs" = none
  all : mg "all" = none
  bool : mg "bool" = none
  dict : mg "dict" = none
  int : mg "int" = none
  isinstance : mg "isinstance" = none
  len : mg "len" = none
  list : mg "list" = none
  max : mg "max" = none
  min : mg "min" = none
  range : mg "range" = none
  set : mg "set" = none
  sorted : mg "sorted" = none
  str : mg "str" = none
  tuple : mg "tuple" = none
  zip : mg "zip" = none
  AIR : ∃ t, mg "AIR" = some (.str "." t)
  LONGEST : ∃ t, mg "LONGEST" = some (.int 12 t)
  SIGNS : ∃ t, mg "SIGNS" = some (.str "abcdefghijklmnopqrstuvwxyz0123456789" t)
  LETTERS : ∃ t, mg "LETTERS" = some (.str "abcdefghijklmnopqrstuvwxyz" t)
  WIDE : ∃ t, mg "WIDE" = some (.int 30 t)
  NOTES : ∃ t, mg "NOTES" = some (.int 200 t)
  CONTEXTS : ∃ t, mg "CONTEXTS" = some (.int 60 t)
section
variable {P : Program} {w : World} {K : PySem.W.Frag} {mg : Str → Option Value} {base : Heap}
theorem ok__law_roll (G : Glo mg)  (D : Dfn K mg "_law_roll" s__law_roll) : Cal P w K mg base 1 "_law_roll" (spD P w K g__law_roll) := by
  unfold g__law_roll
  obtain ⟨f, fd, F, m⟩ := D.ex
  refine ⟨f, fd, ["cup", "many"], fn_D (k := 0) (N := ["cup", "many", "found", "deep"]) (ps := ["cup", "many"]) (G := b__law_roll) F sc__law_roll (fun cdv A outer s H E κ hr => ?_), m, F.kp, (F.binds (ps := ["cup", "many"]) fun _ _ _ _ _ _ us hl => match us, hl with | [_, _], _ => rfl)⟩
  unfold b__law_roll
  exact (dss_cons (ds_if (dt_cmp op_gt ok_gt (DE.dp (de_cup0 0)) (DE.dp de_int) (by first | exact nobehind _ (by decide) (by decide) | rfl)) (dss_cons (ds_set (i := 2) sc__law_roll.nd (DE.dx (de_op op_mod ok_mod (DE.dp (de_ty ci_int (by rfl) G.int (by rfl) (dpa_cons (DE.dp (de_cup0 0)) dpa_nil))) (dp_var 1))))
    (dss_cons (ds_cup0 0 (de_op op_fdiv ok_fdiv (DE.dp (de_cup0 0)) (dp_var 1)))
    (dss_cons (ds_ret (de_var 2))
    dss_nil))) dss_nil)
    (dss_cons (ds_cup1 0 (de_op op_mod ok_mod (DE.dp (de_ty ci_int (by rfl) G.int (by rfl) (dpa_cons (DE.dp (de_op op_addD ok_add (DE.dp (de_op op_multD ok_D (DE.dp (de_cup1 0)) (DE.dp de_int))) (DE.dp de_int))) dpa_nil))) (DE.dp de_int)))
    (dss_cons (ds_set (i := 3) sc__law_roll.nd (DE.dx (de_op op_mod ok_mod (DE.dp (de_ty ci_int (by rfl) G.int (by rfl) (dpa_cons (DE.dp (de_op op_multD ok_D (DE.dp (de_cup1 0)) (DE.dp (de_op op_addD ok_add (DE.dp (de_cup1 0)) (DE.dp de_int))))) dpa_nil))) (DE.dp de_int))))
    (dss_cons (ds_ret (de_op op_mod ok_mod (DE.dp (de_ty ci_int (by rfl) G.int (by rfl) (dpa_cons (DE.dp (de_op op_fdiv ok_fdiv (dp_var 3) (DE.dp de_int))) dpa_nil))) (dp_var 1)))
    dss_nil))))
theorem ok__law_some (G : Glo mg) (C__law_roll : Cal P w K mg base 1 "_law_roll" (spD P w K g__law_roll)) (D : Dfn K mg "_law_some" s__law_some) : Cal P w K mg base 2 "_law_some" (spD P w K g__law_some) := by
  unfold g__law_some
  obtain ⟨f, fd, F, m⟩ := D.ex
  refine ⟨f, fd, ["cup", "things"], fn_D (k := 1) (N := ["cup", "things"]) (ps := ["cup", "things"]) (G := b__law_some) F sc__law_some (fun cdv A outer s H E κ hr => ?_), m, F.kp, (F.binds (ps := ["cup", "things"]) fun _ _ _ _ _ _ us hl => match us, hl with | [_, _], _ => rfl)⟩
  unfold b__law_some
  exact (dss_cons (ds_ret (de_ix (hu65 hr) (dp_var 1) (DE.dp (de_cal C__law_roll (hr.mono (by decide)) (by rfl) (da_cons (de_var 0) (da_cons (de_bi ci_len (by rfl) G.len (by rfl) (dpa_cons (dp_var 1) dpa_nil)) da_nil))))))
    dss_nil)
theorem ok__law_names (G : Glo mg) (C__law_some : Cal P w K mg base 2 "_law_some" (spD P w K g__law_some)) (D : Dfn K mg "_law_names" s__law_names) : Cal P w K mg base 3 "_law_names" (spD P w K g__law_names) := by
  unfold g__law_names
  obtain ⟨f, fd, F, m⟩ := D.ex
  refine ⟨f, fd, ["cup", "many", "first"], fn_D (k := 2) (N := ["cup", "many", "first", "turn", "found", "pool", "one"]) (ps := ["cup", "many", "first"]) (G := b__law_names) F sc__law_names (fun cdv A outer s H E κ hr => ?_), m, F.kp, (F.binds (ps := ["cup", "many", "first"]) fun _ _ _ _ _ _ us hl => match us, hl with | [_, _, _], _ => rfl)⟩
  unfold b__law_names
  exact (dss_cons (ds_parL2 (i := 5) (j := 4) sc__law_names.nd rfl (fun _ => rfl) (DE.dx (DN.de (dn_lc (own := [("one", 6)]) rfl sc__law_names.nd (di_val (DN.de (dn_lst (da_cons de_str (da_cons de_str (da_cons de_str (da_cons de_str (da_cons de_str (da_cons de_str (da_cons de_str (da_cons de_str (da_cons de_str (da_cons de_str (da_cons de_str (da_cons de_str (da_cons de_str (da_cons de_str (da_cons de_str da_nil)))))))))))))))))) (blkOk_by (by kernel_rfl)) (by decide) (fun _ _ _ _ _ => (dg_name (i := 6) sc__law_names.nd)) (fun _ _ _ _ _ => dts_nil) (fun _ _ _ _ _ => (de_op op_addD ok_add (dp_var 2) (dp_var 6)))))) (DN.dx (dn_lst da_nil)))
    (dss_cons (ds_for PassesOwn.never rfl (di_range1 (by rfl) G.range (dpa_cons (dp_var 1) dpa_nil)) (dg_name (i := 3) sc__law_names.nd) (dss_cons (ds_exprM (dm_app 4 (de_cal C__law_some (hr.mono (by decide)) (by rfl) (da_cons (de_var 0) (da_cons (de_var 5) da_nil)))))
    (dss_cons (ds_setLc (i := 5) (own := [("one", 6)]) false rfl sc__law_names.nd (di_val (de_var 5)) (blkOk_by (by kernel_rfl)) (by decide) (fun _ _ _ _ _ => (dg_name (i := 6) sc__law_names.nd)) (fun _ _ _ _ _ => (dts_one (dt_cmp (op_neD (hu64 hr)) ok_ne (dp_var 6) (DE.dp (de_ix (hu65 hr) (dp_var 4) (DE.dp (de_neg de_int)))) (by first | exact nobehind _ (by decide) (by decide) | rfl)))) (fun _ _ _ _ _ => (de_var 6)))
    dss_nil)))
    (dss_cons (ds_frz 4 (ds_ret (de_var 4)))
    dss_nil)))
theorem ok__law_drawing (G : Glo mg) (C__law_some : Cal P w K mg base 2 "_law_some" (spD P w K g__law_some)) (D : Dfn K mg "_law_drawing" s__law_drawing) : Cal P w K mg base 3 "_law_drawing" (spD P w K g__law_drawing) := by
  unfold g__law_drawing
  obtain ⟨f, fd, F, m⟩ := D.ex
  refine ⟨f, fd, ["cup", "rows", "columns", "names"], fn_D (k := 2) (N := ["cup", "rows", "columns", "names", "found", "at", "column", "cells", "above", "left"]) (ps := ["cup", "rows", "columns", "names"]) (G := b__law_drawing) F sc__law_drawing (fun cdv A outer s H E κ hr => ?_), m, F.kp, (F.binds (ps := ["cup", "rows", "columns", "names"]) fun _ _ _ _ _ _ us hl => match us, hl with | [_, _, _, _], _ => rfl)⟩
  unfold b__law_drawing
  exact (dss_cons (ds_set (i := 4) sc__law_drawing.nd (DE.dx (de_tup da_nil)))
    (dss_cons (ds_for PassesOwn.never rfl (di_range1 (by rfl) G.range (dpa_cons (dp_var 1) dpa_nil)) (dg_name (i := 5) sc__law_drawing.nd) (dss_cons (ds_set (i := 7) sc__law_drawing.nd (DE.dx (de_tup da_nil)))
    (dss_cons (ds_for PassesOwn.never rfl (di_range1 (by rfl) G.range (dpa_cons (dp_var 2) dpa_nil)) (dg_name (i := 6) sc__law_drawing.nd) (dss_cons (ds_par2 (i := 8) (j := 9) sc__law_drawing.nd rfl (DE.dx (de_ife (dt_cmp (op_neD (hu64 hr)) ok_ne (dp_var 4) (DE.dp (de_tup da_nil)) (by first | exact nobehind _ (by decide) (by decide) | rfl)) (de_ix (hu65 hr) (DE.dp (de_ix (hu65 hr) (dp_var 4) (DE.dp (de_neg de_int)))) (dp_var 6)) de_str)) (DE.dx (de_ife (dt_cmp (op_neD (hu64 hr)) ok_ne (dp_var 7) (DE.dp (de_tup da_nil)) (by first | exact nobehind _ (by decide) (by decide) | rfl)) (de_ix (hu65 hr) (dp_var 7) (DE.dp (de_neg de_int))) de_str)))
    (dss_cons (ds_set (i := 7) sc__law_drawing.nd (DE.dx (de_op op_addD ok_add (dp_var 7) (DE.dp (de_tup (da_cons (de_cal C__law_some (hr.mono (by decide)) (by rfl) (da_cons (de_var 0) (da_cons (DN.de (dn_lst (da_cons (de_var 8) (da_cons (de_var 8) (da_cons (de_var 9) (da_cons de_str (da_cons (de_cal C__law_some (hr.mono (by decide)) (by rfl) (da_cons (de_var 0) (da_cons (de_var 3) da_nil))) (da_cons (de_cal C__law_some (hr.mono (by decide)) (by rfl) (da_cons (de_var 0) (da_cons (de_var 3) da_nil))) da_nil)))))))) da_nil))) da_nil))))))
    dss_nil)))
    (dss_cons (ds_set (i := 4) sc__law_drawing.nd (DE.dx (de_op op_addD ok_add (dp_var 4) (DE.dp (de_tup (da_cons (de_var 7) da_nil))))))
    dss_nil))))
    (dss_cons (ds_ret (de_var 4))
    dss_nil)))
theorem ok__law_same_n (G : Glo mg)  (D : Dfn K mg "_law_same" s__law_same) : ∀ n, Cal P w K mg base (1 + n) "_law_same" (spD P w K (g__law_same n))
  | 0 => cal_none D ["told", "due"] fun F => (F.binds (ps := ["told", "due"]) fun _ _ _ _ _ _ us hl => match us, hl with | [_, _], _ => rfl)
  | n + 1 => by
    show Cal P w K mg base (1 + n + 1) "_law_same" (spD P w K (fD 2 3 (b__law_same (g__law_same n))))
    have hself := ok__law_same_n G  D n
    obtain ⟨f, fd, F, m⟩ := D.ex
    refine ⟨f, fd, ["told", "due"], fn_D (k := 1 + n) (N := ["told", "due", "at"]) (ps := ["told", "due"]) (G := b__law_same (g__law_same n)) F sc__law_same (fun cdv A outer s H E κ hr => ?_), m, F.kp, (F.binds (ps := ["told", "due"]) fun _ _ _ _ _ _ us hl => match us, hl with | [_, _], _ => rfl)⟩
    unfold b__law_same
    exact (dss_cons (ds_if (dt_val (isi_pe .tuple (dp_var 1) (by rfl) G.isinstance (by rfl) G.tuple (by rfl) (by decide) (by decide) rfl rfl rfl)) (dss_cons (ds_if (dt_w (dw_or (dt_not (dt_val (isi_pe .tuple (dp_var 0) (by rfl) G.isinstance (by rfl) G.tuple (by rfl) (by decide) (by decide) rfl rfl rfl))) (dw_or1 (dt_cmp (op_neD (hu64 hr)) ok_ne (DE.dp (de_bi ci_len (by rfl) G.len (by rfl) (dpa_cons (dp_var 0) dpa_nil))) (DE.dp (de_bi ci_len (by rfl) G.len (by rfl) (dpa_cons (dp_var 1) dpa_nil))) (by first | exact nobehind _ (by decide) (by decide) | rfl))))) (dss_cons (ds_ret de_bl)
    dss_nil) dss_nil)
    (dss_cons (ds_ret (de_bi (ci_all rfl) (by rfl) G.all (by rfl) (dpa_cons (DE.dp (DN.de (dn_lc (own := [("at", 2)]) rfl sc__law_same.nd (di_range1 (by rfl) G.range (dpa_cons (DE.dp (de_bi ci_len (by rfl) G.len (by rfl) (dpa_cons (dp_var 1) dpa_nil))) dpa_nil)) (blkOk_by (by kernel_rfl)) (by decide) (fun _ _ _ _ _ => (dg_name (i := 2) sc__law_same.nd)) (fun _ _ _ _ _ => dts_nil) (fun _ _ _ _ _ => (de_cal hself (hr.mono (by omega)) (by rfl) (da_cons (de_ix (hu65 hr) (dp_var 0) (dp_var 2)) (da_cons (de_ix (hu65 hr) (dp_var 1) (dp_var 2)) da_nil))))))) dpa_nil)))
    dss_nil)) dss_nil)
    (dss_cons (ds_if (dt_cmp op_isS ok_is (dp_var 1) (DE.dp de_non) (by first | exact nobehind _ (by decide) (by decide) | rfl)) (dss_cons (ds_ret (de_cmp op_isS ok_is (dp_var 0) (DE.dp de_non) (by first | exact nobehind _ (by decide) (by decide) | rfl)))
    dss_nil) dss_nil)
    (dss_cons (ds_if (dt_val (isi_pe .bool (dp_var 1) (by rfl) G.isinstance (by rfl) G.bool (by rfl) (by decide) (by decide) rfl rfl rfl)) (dss_cons (ds_ret (de_ife (dt_val (de_var 1)) (de_cmp op_isS ok_is (dp_var 0) (DE.dp de_bl) (by first | exact nobehind _ (by decide) (by decide) | rfl)) (de_cmp op_isS ok_is (dp_var 0) (DE.dp de_bl) (by first | exact nobehind _ (by decide) (by decide) | rfl))))
    dss_nil) dss_nil)
    (dss_cons (ds_if (dt_val (isi_pe .int (dp_var 1) (by rfl) G.isinstance (by rfl) G.int (by rfl) (by decide) (by decide) rfl rfl rfl)) (dss_cons (ds_ret (de_and (isi_pe .int (dp_var 0) (by rfl) G.isinstance (by rfl) G.int (by rfl) (by decide) (by decide) rfl rfl rfl) (de_and (de_not (isi_pe .bool (dp_var 0) (by rfl) G.isinstance (by rfl) G.bool (by rfl) (by decide) (by decide) rfl rfl rfl)) (de_one (de_cmp (op_eqD (hu64 hr)) ok_eq (DE.dp (de_ty ci_int (by rfl) G.int (by rfl) (dpa_cons (dp_var 0) dpa_nil))) (dp_var 1) (by first | exact nobehind _ (by decide) (by decide) | rfl))))))
    dss_nil) dss_nil)
    (dss_cons (ds_ret (de_and (isi_pe .str (dp_var 0) (by rfl) G.isinstance (by rfl) G.str (by rfl) (by decide) (by decide) rfl rfl rfl) (de_one (de_cmp (op_eqD (hu64 hr)) ok_eq (DE.dp (de_ty ci_str (by rfl) G.str (by rfl) (dpa_cons (dp_var 0) dpa_nil))) (dp_var 1) (by first | exact nobehind _ (by decide) (by decide) | rfl)))))
    dss_nil)))))
theorem ok__law_same (G : Glo mg)  (D : Dfn K mg "_law_same" s__law_same) : Cal P w K mg base 21 "_law_same" (spD P w K (g__law_same 20)) := ok__law_same_n G  D 20
theorem ok__law_wide (G : Glo mg)  (D : Dfn K mg "_law_wide" s__law_wide) : Cal P w K mg base 1 "_law_wide" (spD P w K g__law_wide) := by
  unfold g__law_wide
  obtain ⟨f, fd, F, m⟩ := D.ex
  refine ⟨f, fd, ["names", "many"], fn_D (k := 0) (N := ["names", "many", "columns", "cells", "step", "pairs", "at", "row", "column"]) (ps := ["names", "many"]) (G := b__law_wide) F sc__law_wide (fun cdv A outer s H E κ hr => ?_), m, F.kp, (F.binds (ps := ["names", "many"]) fun _ _ _ _ _ _ us hl => match us, hl with | [_, _], _ => rfl)⟩
  unfold b__law_wide
  exact (dss_cons (ds_set (i := 2) sc__law_wide.nd (DN.dx (dn_lst da_nil)))
    (dss_cons (ds_for PassesOwn.never rfl (di_range2 (by rfl) G.range (dpa_cons (DE.dp de_int) (dpa_cons (DE.dp de_int) dpa_nil))) (dg_name (i := 4) sc__law_wide.nd) (dss_cons (ds_set (i := 5) sc__law_wide.nd (DE.dx (de_bi (ci_min2 rfl) (by rfl) G.min (by rfl) (dpa_cons (DE.dp de_int) (dpa_cons (DE.dp (de_bi (ci_max2 rfl) (by rfl) G.max (by rfl) (dpa_cons (DE.dp de_int) (dpa_cons (dp_var 1) dpa_nil)))) dpa_nil)))))
    (dss_cons (ds_set (i := 1) sc__law_wide.nd (DE.dx (de_op op_sub ok_sub (dp_var 1) (dp_var 5))))
    (dss_cons (ds_setLc (i := 3) (own := [("at", 6)]) false rfl sc__law_wide.nd (di_range1 (by rfl) G.range (dpa_cons (DE.dp (de_ife (dt_cmp op_gt ok_gt (dp_var 5) (DE.dp de_int) (by first | exact nobehind _ (by decide) (by decide) | rfl)) (de_op op_addD ok_add (dp_var 5) (DE.dp de_int)) de_int)) dpa_nil)) (blkOk_by (by kernel_rfl)) (by decide) (fun _ _ _ _ _ => (dg_name (i := 6) sc__law_wide.nd)) (fun _ _ _ _ _ => dts_nil) (fun _ _ _ _ _ => (de_ix (hu65 hr) (dp_var 0) (DE.dp (de_op op_mod ok_mod (DE.dp (de_op op_multD ok_D (dp_var 6) (dp_var 4))) (DE.dp de_int))))))
    (dss_cons (ds_exprM (dm_app 2 (de_op op_addD ok_add (dp_var 3) (DE.dp (de_op op_multD ok_D (DE.dp (DN.de (dn_lst (da_cons de_str da_nil)))) (DE.dp (de_op op_sub ok_sub (DE.dp de_int) (DE.dp (de_bi ci_len (by rfl) G.len (by rfl) (dpa_cons (dp_var 3) dpa_nil))))))))))
    dss_nil)))))
    (dss_cons (ds_frz 2 (ds_ret (de_ty ci_tuple (by rfl) G.tuple (by rfl) (dpa_cons (DE.dp (DN.de (dn_lc (own := [("row", 7)]) rfl sc__law_wide.nd (di_range1 (by rfl) G.range (dpa_cons (DE.dp de_int) dpa_nil)) (blkOk_by (by kernel_rfl)) (by decide) (fun _ _ _ _ _ => (dg_name (i := 7) sc__law_wide.nd)) (fun _ _ _ _ _ => dts_nil) (fun _ _ _ _ _ => (de_ty ci_tuple (by rfl) G.tuple (by rfl) (dpa_cons (DE.dp (DN.de (dn_lc (own := [("column", 8)]) rfl sc__law_wide.nd (di_val (de_var 2)) (blkOk_by (by kernel_rfl)) (by decide) (fun _ _ _ _ _ => (dg_name (i := 8) sc__law_wide.nd)) (fun _ _ _ _ _ => dts_nil) (fun _ _ _ _ _ => (de_ix (hu65 hr) (dp_var 8) (dp_var 7)))))) dpa_nil)))))) dpa_nil))))
    dss_nil)))
theorem ok_is_tuple_of (G : Glo mg)  (D : Dfn K mg "is_tuple_of" s_is_tuple_of) : Cal P w K mg base 1 "is_tuple_of" (spD P w K g_is_tuple_of) := by
  unfold g_is_tuple_of
  obtain ⟨f, fd, F, m⟩ := D.ex
  refine ⟨f, fd, ["value", "least", "most"], fn_D (k := 0) (N := ["value", "least", "most"]) (ps := ["value", "least", "most"]) (G := b_is_tuple_of) F sc_is_tuple_of (fun cdv A outer s H E κ hr => ?_), m, F.kp, (F.binds (ps := ["value", "least", "most"]) fun _ _ _ _ _ _ us hl => match us, hl with | [_, _, _], _ => rfl)⟩
  unfold b_is_tuple_of
  exact (dss_cons (ds_ret (de_and (isi_pe .tuple (dp_var 0) (by rfl) G.isinstance (by rfl) G.tuple (by rfl) (by decide) (by decide) rfl rfl rfl) (de_one (de_chain op_le op_le ok_le ok_le (dp_var 1) (DE.dp (de_bi ci_len (by rfl) G.len (by rfl) (dpa_cons (dp_var 0) dpa_nil))) (dp_var 2)))))
    dss_nil)
theorem ok_names_in (G : Glo mg)  (D : Dfn K mg "names_in" s_names_in) : Cal P w K mg base 1 "names_in" (spD P w K g_names_in) := by
  unfold g_names_in
  obtain ⟨t_AIR, G_AIR⟩ := G.AIR
  obtain ⟨f, fd, F, m⟩ := D.ex
  refine ⟨f, fd, ["value"], fn_D (k := 0) (N := ["value", "found", "row", "cell"]) (ps := ["value"]) (G := b_names_in) F sc_names_in (fun cdv A outer s H E κ hr => ?_), m, F.kp, (F.binds (ps := ["value"]) fun _ _ _ _ _ _ us hl => match us, hl with | [_], _ => rfl)⟩
  unfold b_names_in
  exact (dss_cons (ds_set (i := 1) sc_names_in.nd (DN.dx dn_dic0))
    (dss_cons (ds_for PassesOwn.never rfl (di_val (de_var 0)) (dg_name (i := 2) sc_names_in.nd) (dss_cons (ds_exprM (dm_upd 1 (dn_dc (own := [("cell", 3)]) rfl (hu65 hr) sc_names_in.nd (di_val (de_var 2)) (blkOk_by (by kernel_rfl)) (by decide) (fun _ _ _ _ _ => (dg_name (i := 3) sc_names_in.nd)) (fun _ _ _ _ _ => (dts_one (dt_cmp (op_neD (hu64 hr)) ok_ne (dp_var 3) (DE.dp (de_glob (v := .str ".") (by rfl) G_AIR ⟨t_AIR, rfl⟩ (fun _ => by simp only [Rep, gc_AIR]))) (by first | exact nobehind _ (by decide) (by decide) | rfl)))) (fun _ _ _ _ _ => (de_var 3)) (fun _ _ _ _ _ => de_bl))))
    dss_nil))
    (dss_cons (ds_ret (DN.de (dn_bi (ci_sorted rfl (hu65 hr)) (by rfl) G.sorted (by rfl) (dpa_cons (DE.dp (DN.de (dn_ty (ci_list rfl) (by rfl) G.list (by rfl) (dpa_cons (dp_var 1) dpa_nil)))) dpa_nil))))
    dss_nil)))
theorem ok_notes_in (G : Glo mg)  (D : Dfn K mg "notes_in" s_notes_in) : Cal P w K mg base 1 "notes_in" (spD P w K g_notes_in) := by
  unfold g_notes_in
  obtain ⟨t_AIR, G_AIR⟩ := G.AIR
  obtain ⟨f, fd, F, m⟩ := D.ex
  refine ⟨f, fd, ["value"], fn_D (k := 0) (N := ["value", "found", "row", "under", "one", "other"]) (ps := ["value"]) (G := b_notes_in) F sc_notes_in (fun cdv A outer s H E κ hr => ?_), m, F.kp, (F.binds (ps := ["value"]) fun _ _ _ _ _ _ us hl => match us, hl with | [_], _ => rfl)⟩
  unfold b_notes_in
  exact (dss_cons (ds_set (i := 1) sc_notes_in.nd (DN.dx dn_dic0))
    (dss_cons (ds_for PassesOwn.never rfl (di_zip (by rfl) G.zip (da_cons (de_var 0) (da_cons (de_slice (dp_var 0) (do_some (DE.dp de_int)) do_none) da_nil))) (dg_tup rfl (dgs_cons (dg_name (i := 2) sc_notes_in.nd) (dgs_cons (dg_name (i := 3) sc_notes_in.nd) dgs_nil))) (dss_cons (ds_for PassesOwn.never rfl (di_zip (by rfl) G.zip (da_cons (de_var 2) (da_cons (de_var 3) da_nil))) (dg_tup rfl (dgs_cons (dg_name (i := 4) sc_notes_in.nd) (dgs_cons (dg_name (i := 5) sc_notes_in.nd) dgs_nil))) (dss_cons (ds_if (dt_w (dw_and (dt_cmp (op_notInD' (hu65 hr)) ok_D (DE.dp (de_glob (v := .str ".") (by rfl) G_AIR ⟨t_AIR, rfl⟩ (fun _ => by simp only [Rep, gc_AIR]))) (DE.dp (de_tup (da_cons (de_var 4) (da_cons (de_var 5) da_nil)))) (by first | exact nobehind _ (by decide) (by decide) | rfl)) (dw_and1 (dt_cmp (op_neD (hu64 hr)) ok_ne (dp_var 4) (dp_var 5) (by first | exact nobehind _ (by decide) (by decide) | rfl))))) (dss_cons (ds_put (i := 1) (hu65 hr) (de_tup (da_cons de_str (da_cons (de_var 4) (da_cons (de_var 5) da_nil)))) de_bl)
    dss_nil) dss_nil)
    dss_nil))
    dss_nil))
    (dss_cons (ds_ret (DN.de (dn_bi (ci_sorted rfl (hu65 hr)) (by rfl) G.sorted (by rfl) (dpa_cons (DE.dp (DN.de (dn_ty (ci_list rfl) (by rfl) G.list (by rfl) (dpa_cons (dp_var 1) dpa_nil)))) dpa_nil))))
    dss_nil)))
theorem ok_fits_name (G : Glo mg)  (D : Dfn K mg "fits_name" s_fits_name) : Cal P w K mg base 1 "fits_name" (spD P w K g_fits_name) := by
  unfold g_fits_name
  obtain ⟨t_LONGEST, G_LONGEST⟩ := G.LONGEST
  obtain ⟨t_SIGNS, G_SIGNS⟩ := G.SIGNS
  obtain ⟨t_LETTERS, G_LETTERS⟩ := G.LETTERS
  obtain ⟨f, fd, F, m⟩ := D.ex
  refine ⟨f, fd, ["value"], fn_D (k := 0) (N := ["value", "sign"]) (ps := ["value"]) (G := b_fits_name) F sc_fits_name (fun cdv A outer s H E κ hr => ?_), m, F.kp, (F.binds (ps := ["value"]) fun _ _ _ _ _ _ us hl => match us, hl with | [_], _ => rfl)⟩
  unfold b_fits_name
  exact (dss_cons (ds_if (dt_w (dw_or (dt_not (dt_val (isi_pe .str (dp_var 0) (by rfl) G.isinstance (by rfl) G.str (by rfl) (by decide) (by decide) rfl rfl rfl))) (dw_or1 (dt_not (dt_chain op_le op_le ok_le ok_le (DE.dp de_int) (DE.dp (de_bi ci_len (by rfl) G.len (by rfl) (dpa_cons (dp_var 0) dpa_nil))) (DE.dp (de_glob (v := .int 12) (by rfl) G_LONGEST ⟨t_LONGEST, rfl⟩ (fun _ => by simp only [Rep, gc_LONGEST])))))))) (dss_cons (ds_ret de_bl)
    dss_nil) dss_nil)
    (dss_cons (ds_ret (de_and (de_cmp (op_inD' (hu65 hr)) ok_D (DE.dp (de_ix (hu65 hr) (dp_var 0) (DE.dp de_int))) (DE.dp (de_glob (v := .str "abcdefghijklmnopqrstuvwxyz") (by rfl) G_LETTERS ⟨t_LETTERS, rfl⟩ (fun _ => by simp only [Rep, gc_LETTERS]))) (by first | exact nobehind _ (by decide) (by decide) | rfl)) (de_one (de_bi (ci_all rfl) (by rfl) G.all (by rfl) (dpa_cons (DE.dp (DN.de (dn_lc (own := [("sign", 1)]) rfl sc_fits_name.nd (di_val (de_var 0)) (blkOk_by (by kernel_rfl)) (by decide) (fun _ _ _ _ _ => (dg_name (i := 1) sc_fits_name.nd)) (fun _ _ _ _ _ => dts_nil) (fun _ _ _ _ _ => (de_cmp (op_inD' (hu65 hr)) ok_D (dp_var 1) (DE.dp (de_glob (v := .str "abcdefghijklmnopqrstuvwxyz0123456789") (by rfl) G_SIGNS ⟨t_SIGNS, rfl⟩ (fun _ => by simp only [Rep, gc_SIGNS]))) (by first | exact nobehind _ (by decide) (by decide) | rfl)))))) dpa_nil)))))
    dss_nil))
theorem ok_fits_drawing (G : Glo mg) (C_is_tuple_of : Cal P w K mg base 1 "is_tuple_of" (spD P w K g_is_tuple_of)) (C_names_in : Cal P w K mg base 1 "names_in" (spD P w K g_names_in)) (C_notes_in : Cal P w K mg base 1 "notes_in" (spD P w K g_notes_in)) (C_fits_name : Cal P w K mg base 1 "fits_name" (spD P w K g_fits_name)) (D : Dfn K mg "fits_drawing" s_fits_drawing) : Cal P w K mg base 2 "fits_drawing" (spD P w K g_fits_drawing) := by
  unfold g_fits_drawing
  obtain ⟨t_WIDE, G_WIDE⟩ := G.WIDE
  obtain ⟨t_AIR, G_AIR⟩ := G.AIR
  obtain ⟨t_NOTES, G_NOTES⟩ := G.NOTES
  obtain ⟨t_CONTEXTS, G_CONTEXTS⟩ := G.CONTEXTS
  obtain ⟨f, fd, F, m⟩ := D.ex
  refine ⟨f, fd, ["value"], fn_D (k := 1) (N := ["value", "row", "cell"]) (ps := ["value"]) (G := b_fits_drawing) F sc_fits_drawing (fun cdv A outer s H E κ hr => ?_), m, F.kp, (F.binds (ps := ["value"]) fun _ _ _ _ _ _ us hl => match us, hl with | [_], _ => rfl)⟩
  unfold b_fits_drawing
  exact (dss_cons (ds_if (dt_w (dw_or (dt_not (dt_val (de_cal C_is_tuple_of (hr.mono (by decide)) (by rfl) (da_cons (de_var 0) (da_cons de_int (da_cons (de_glob (v := .int 30) (by rfl) G_WIDE ⟨t_WIDE, rfl⟩ (fun _ => by simp only [Rep, gc_WIDE])) da_nil)))))) (dw_or1 (dt_not (dt_val (de_bi (ci_all rfl) (by rfl) G.all (by rfl) (dpa_cons (DE.dp (DN.de (dn_lc (own := [("row", 1)]) rfl sc_fits_drawing.nd (di_val (de_var 0)) (blkOk_by (by kernel_rfl)) (by decide) (fun _ _ _ _ _ => (dg_name (i := 1) sc_fits_drawing.nd)) (fun _ _ _ _ _ => dts_nil) (fun _ _ _ _ _ => (de_cal C_is_tuple_of (hr.mono (by decide)) (by rfl) (da_cons (de_var 1) (da_cons de_int (da_cons (de_glob (v := .int 30) (by rfl) G_WIDE ⟨t_WIDE, rfl⟩ (fun _ => by simp only [Rep, gc_WIDE])) da_nil)))))))) dpa_nil))))))) (dss_cons (ds_ret de_bl)
    dss_nil) dss_nil)
    (dss_cons (ds_if (dt_cmp (op_neD (hu64 hr)) ok_ne (DE.dp (de_lenSet rfl (by rfl) G.len (by rfl) G.set (DE.dp (DN.de (dn_lc (own := [("row", 1)]) rfl sc_fits_drawing.nd (di_val (de_var 0)) (blkOk_by (by kernel_rfl)) (by decide) (fun _ _ _ _ _ => (dg_name (i := 1) sc_fits_drawing.nd)) (fun _ _ _ _ _ => dts_nil) (fun _ _ _ _ _ => (de_bi ci_len (by rfl) G.len (by rfl) (dpa_cons (dp_var 1) dpa_nil)))))))) (DE.dp de_int) (by first | exact nobehind _ (by decide) (by decide) | rfl)) (dss_cons (ds_ret de_bl)
    dss_nil) dss_nil)
    (dss_cons (ds_for PassesOwn.never rfl (di_val (de_var 0)) (dg_name (i := 1) sc_fits_drawing.nd) (dss_cons (ds_if (dt_not (dt_val (de_bi (ci_all rfl) (by rfl) G.all (by rfl) (dpa_cons (DE.dp (DN.de (dn_lc (own := [("cell", 2)]) rfl sc_fits_drawing.nd (di_val (de_var 1)) (blkOk_by (by kernel_rfl)) (by decide) (fun _ _ _ _ _ => (dg_name (i := 2) sc_fits_drawing.nd)) (fun _ _ _ _ _ => dts_nil) (fun _ _ _ _ _ => (de_or (de_cal C_fits_name (hr.mono (by decide)) (by rfl) (da_cons (de_var 2) da_nil)) (de_one (de_and (isi_pe .str (dp_var 2) (by rfl) G.isinstance (by rfl) G.str (by rfl) (by decide) (by decide) rfl rfl rfl) (de_one (de_cmp (op_eqD (hu64 hr)) ok_eq (dp_var 2) (DE.dp (de_glob (v := .str ".") (by rfl) G_AIR ⟨t_AIR, rfl⟩ (fun _ => by simp only [Rep, gc_AIR]))) (by first | exact nobehind _ (by decide) (by decide) | rfl)))))))))) dpa_nil)))) (dss_cons (ds_ret de_bl)
    dss_nil) dss_nil)
    dss_nil))
    (dss_cons (ds_ret (de_and (de_cmp op_le ok_le (DE.dp (de_bi ci_len (by rfl) G.len (by rfl) (dpa_cons (DE.dp (de_cal C_names_in (hr.mono (by decide)) (by rfl) (da_cons (de_var 0) da_nil))) dpa_nil))) (DE.dp (de_glob (v := .int 60) (by rfl) G_CONTEXTS ⟨t_CONTEXTS, rfl⟩ (fun _ => by simp only [Rep, gc_CONTEXTS]))) (by first | exact nobehind _ (by decide) (by decide) | rfl)) (de_one (de_cmp op_le ok_le (DE.dp (de_bi ci_len (by rfl) G.len (by rfl) (dpa_cons (DE.dp (de_cal C_notes_in (hr.mono (by decide)) (by rfl) (da_cons (de_var 0) da_nil))) dpa_nil))) (DE.dp (de_glob (v := .int 200) (by rfl) G_NOTES ⟨t_NOTES, rfl⟩ (fun _ => by simp only [Rep, gc_NOTES]))) (by first | exact nobehind _ (by decide) (by decide) | rfl)))))
    dss_nil))))
theorem ok_is_drawing (G : Glo mg) (C_fits_drawing : Cal P w K mg base 2 "fits_drawing" (spD P w K g_fits_drawing)) (D : Dfn K mg "is_drawing" s_is_drawing) : Cal P w K mg base 3 "is_drawing" (spD P w K g_is_drawing) := by
  unfold g_is_drawing
  obtain ⟨f, fd, F, m⟩ := D.ex
  refine ⟨f, fd, ["value"], fn_D (k := 2) (N := ["value"]) (ps := ["value"]) (G := b_is_drawing) F sc_is_drawing (fun cdv A outer s H E κ hr => ?_), m, F.kp, (F.binds (ps := ["value"]) fun _ _ _ _ _ _ us hl => match us, hl with | [_], _ => rfl)⟩
  unfold b_is_drawing
  exact (dss_cons (ds_ret (de_cal C_fits_drawing (hr.mono (by decide)) (by rfl) (da_cons (de_var 0) da_nil)))
    dss_nil)
theorem ok_need_drawing (G : Glo mg) (C_fits_drawing : Cal P w K mg base 2 "fits_drawing" (spD P w K g_fits_drawing)) (D : Dfn K mg "need_drawing" s_need_drawing) : Cal P w K mg base 3 "need_drawing" (spD P w K g_need_drawing) := by
  unfold g_need_drawing
  obtain ⟨f, fd, F, m⟩ := D.ex
  refine ⟨f, fd, ["value"], fn_D (k := 2) (N := ["value"]) (ps := ["value"]) (G := b_need_drawing) F sc_need_drawing (fun cdv A outer s H E κ hr => ?_), m, F.kp, (F.binds (ps := ["value"]) fun _ _ _ _ _ _ us hl => match us, hl with | [_], _ => rfl)⟩
  unfold b_need_drawing
  exact (dss_cons (ds_if (dt_not (dt_val (de_cal C_fits_drawing (hr.mono (by decide)) (by rfl) (da_cons (de_var 0) da_nil)))) (dss_cons ds_never
    dss_nil) dss_nil)
    dss_nil)
theorem ok_names_of (G : Glo mg) (C_need_drawing : Cal P w K mg base 3 "need_drawing" (spD P w K g_need_drawing)) (C_names_in : Cal P w K mg base 1 "names_in" (spD P w K g_names_in)) (D : Dfn K mg "names_of" s_names_of) : Cal P w K mg base 4 "names_of" (spD P w K g_names_of) := by
  unfold g_names_of
  obtain ⟨f, fd, F, m⟩ := D.ex
  refine ⟨f, fd, ["drawing"], fn_D (k := 3) (N := ["drawing"]) (ps := ["drawing"]) (G := b_names_of) F sc_names_of (fun cdv A outer s H E κ hr => ?_), m, F.kp, (F.binds (ps := ["drawing"]) fun _ _ _ _ _ _ us hl => match us, hl with | [_], _ => rfl)⟩
  unfold b_names_of
  exact (dss_cons (ds_expr (de_cal C_need_drawing (hr.mono (by decide)) (by rfl) (da_cons (de_var 0) da_nil)))
    (dss_cons (ds_ret (de_ty ci_tuple (by rfl) G.tuple (by rfl) (dpa_cons (DE.dp (de_cal C_names_in (hr.mono (by decide)) (by rfl) (da_cons (de_var 0) da_nil))) dpa_nil)))
    dss_nil))
theorem ok_drawn_notes (G : Glo mg) (C_need_drawing : Cal P w K mg base 3 "need_drawing" (spD P w K g_need_drawing)) (C_notes_in : Cal P w K mg base 1 "notes_in" (spD P w K g_notes_in)) (D : Dfn K mg "drawn_notes" s_drawn_notes) : Cal P w K mg base 4 "drawn_notes" (spD P w K g_drawn_notes) := by
  unfold g_drawn_notes
  obtain ⟨f, fd, F, m⟩ := D.ex
  refine ⟨f, fd, ["drawing"], fn_D (k := 3) (N := ["drawing"]) (ps := ["drawing"]) (G := b_drawn_notes) F sc_drawn_notes (fun cdv A outer s H E κ hr => ?_), m, F.kp, (F.binds (ps := ["drawing"]) fun _ _ _ _ _ _ us hl => match us, hl with | [_], _ => rfl)⟩
  unfold b_drawn_notes
  exact (dss_cons (ds_expr (de_cal C_need_drawing (hr.mono (by decide)) (by rfl) (da_cons (de_var 0) da_nil)))
    (dss_cons (ds_ret (de_ty ci_tuple (by rfl) G.tuple (by rfl) (dpa_cons (DE.dp (de_cal C_notes_in (hr.mono (by decide)) (by rfl) (da_cons (de_var 0) da_nil))) dpa_nil)))
    dss_nil))
theorem ok__law_notes (G : Glo mg)  (D : Dfn K mg "_law_notes" s__law_notes) : Cal P w K mg base 1 "_law_notes" (spD P w K g__law_notes) := by
  unfold g__law_notes
  obtain ⟨f, fd, F, m⟩ := D.ex
  refine ⟨f, fd, ["drawing"], fn_D (k := 0) (N := ["drawing", "found", "at", "one", "other", "column"]) (ps := ["drawing"]) (G := b__law_notes) F sc__law_notes (fun cdv A outer s H E κ hr => ?_), m, F.kp, (F.binds (ps := ["drawing"]) fun _ _ _ _ _ _ us hl => match us, hl with | [_], _ => rfl)⟩
  unfold b__law_notes
  exact (dss_cons (ds_set (i := 1) sc__law_notes.nd (DN.dx dn_dic0))
    (dss_cons (ds_for PassesOwn.never rfl (di_range1 (by rfl) G.range (dpa_cons (DE.dp (de_op op_sub ok_sub (DE.dp (de_bi ci_len (by rfl) G.len (by rfl) (dpa_cons (dp_var 0) dpa_nil))) (DE.dp de_int))) dpa_nil)) (dg_name (i := 2) sc__law_notes.nd) (dss_cons (ds_for PassesOwn.never rfl (di_range1 (by rfl) G.range (dpa_cons (DE.dp (de_bi ci_len (by rfl) G.len (by rfl) (dpa_cons (DE.dp (de_ix (hu65 hr) (dp_var 0) (DE.dp de_int))) dpa_nil))) dpa_nil)) (dg_name (i := 5) sc__law_notes.nd) (dss_cons (ds_par2 (i := 3) (j := 4) sc__law_notes.nd rfl (DE.dx (de_ix (hu65 hr) (DE.dp (de_ix (hu65 hr) (dp_var 0) (dp_var 2))) (dp_var 5))) (DE.dx (de_ix (hu65 hr) (DE.dp (de_ix (hu65 hr) (dp_var 0) (DE.dp (de_op op_addD ok_add (dp_var 2) (DE.dp de_int))))) (dp_var 5))))
    (dss_cons (ds_if (dt_w (dw_and (dt_cmp (op_neD (hu64 hr)) ok_ne (dp_var 3) (dp_var 4) (by first | exact nobehind _ (by decide) (by decide) | rfl)) (dw_and (dt_cmp (op_neD (hu64 hr)) ok_ne (dp_var 3) (DE.dp de_str) (by first | exact nobehind _ (by decide) (by decide) | rfl)) (dw_and1 (dt_cmp (op_neD (hu64 hr)) ok_ne (dp_var 4) (DE.dp de_str) (by first | exact nobehind _ (by decide) (by decide) | rfl)))))) (dss_cons (ds_put (i := 1) (hu65 hr) (de_tup (da_cons de_str (da_cons (de_var 3) (da_cons (de_var 4) da_nil)))) de_bl)
    dss_nil) dss_nil)
    dss_nil)))
    dss_nil))
    (dss_cons (ds_ret (de_ty ci_tuple (by rfl) G.tuple (by rfl) (dpa_cons (DE.dp (DN.de (dn_bi (ci_sorted rfl (hu65 hr)) (by rfl) G.sorted (by rfl) (dpa_cons (dp_var 1) dpa_nil)))) dpa_nil)))
    dss_nil)))
theorem ok__law_all_names (G : Glo mg)  (D : Dfn K mg "_law_all_names" s__law_all_names) : Cal P w K mg base 1 "_law_all_names" (spD P w K g__law_all_names) := by
  unfold g__law_all_names
  obtain ⟨f, fd, F, m⟩ := D.ex
  refine ⟨f, fd, ["drawing"], fn_D (k := 0) (N := ["drawing", "found", "row", "cell"]) (ps := ["drawing"]) (G := b__law_all_names) F sc__law_all_names (fun cdv A outer s H E κ hr => ?_), m, F.kp, (F.binds (ps := ["drawing"]) fun _ _ _ _ _ _ us hl => match us, hl with | [_], _ => rfl)⟩
  unfold b__law_all_names
  exact (dss_cons (ds_set (i := 1) sc__law_all_names.nd (DN.dx dn_dic0))
    (dss_cons (ds_for PassesOwn.never rfl (di_val (de_var 0)) (dg_name (i := 2) sc__law_all_names.nd) (dss_cons (ds_exprM (dm_upd 1 (dn_dict rfl (by rfl) G.dict (by rfl) (dpa_cons (DE.dp (DN.de (dn_lc (own := [("cell", 3)]) rfl sc__law_all_names.nd (di_val (de_var 2)) (blkOk_by (by kernel_rfl)) (by decide) (fun _ _ _ _ _ => (dg_name (i := 3) sc__law_all_names.nd)) (fun _ _ _ _ _ => (dts_one (dt_cmp (op_neD (hu64 hr)) ok_ne (dp_var 3) (DE.dp de_str) (by first | exact nobehind _ (by decide) (by decide) | rfl)))) (fun _ _ _ _ _ => (de_tup (da_cons (de_var 3) (da_cons de_bl da_nil))))))) dpa_nil))))
    dss_nil))
    (dss_cons (ds_ret (DN.de (dn_bi (ci_sorted rfl (hu65 hr)) (by rfl) G.sorted (by rfl) (dpa_cons (dp_var 1) dpa_nil))))
    dss_nil)))
theorem ok__law_bounds_right (G : Glo mg) (C__law_same : Cal P w K mg base 21 "_law_same" (spD P w K (g__law_same 20))) (C__law_some : Cal P w K mg base 2 "_law_some" (spD P w K g__law_some)) (C__law_wide : Cal P w K mg base 1 "_law_wide" (spD P w K g__law_wide)) (C_is_drawing : Cal P w K mg base 3 "is_drawing" (spD P w K g_is_drawing)) (C_names_of : Cal P w K mg base 4 "names_of" (spD P w K g_names_of)) (C_drawn_notes : Cal P w K mg base 4 "drawn_notes" (spD P w K g_drawn_notes)) (C__law_notes : Cal P w K mg base 1 "_law_notes" (spD P w K g__law_notes)) (C__law_all_names : Cal P w K mg base 1 "_law_all_names" (spD P w K g__law_all_names)) (D : Dfn K mg "_law_bounds_right" s__law_bounds_right) : Cal P w K mg base 22 "_law_bounds_right" (spD P w K g__law_bounds_right) := by
  unfold g__law_bounds_right
  obtain ⟨f, fd, F, m⟩ := D.ex
  refine ⟨f, fd, ["cup"], fn_D (k := 21) (N := ["cup", "name", "names", "wide", "good", "bad", "three", "at", "one"]) (ps := ["cup"]) (G := b__law_bounds_right) F sc__law_bounds_right (fun cdv A outer s H E κ hr => ?_), m, F.kp, (F.binds (ps := ["cup"]) fun _ _ _ _ _ _ us hl => match us, hl with | [_], _ => rfl)⟩
  unfold b__law_bounds_right
  exact (dss_cons (ds_setLc (i := 2) (own := [("at", 7)]) false rfl sc__law_bounds_right.nd (di_range1 (by rfl) G.range (dpa_cons (DE.dp de_int) dpa_nil)) (blkOk_by (by kernel_rfl)) (by decide) (fun _ _ _ _ _ => (dg_name (i := 7) sc__law_bounds_right.nd)) (fun _ _ _ _ _ => dts_nil) (fun _ _ _ _ _ => (de_op op_addD ok_add (DE.dp de_str) (DE.dp (de_ty ci_str (by rfl) G.str (by rfl) (dpa_cons (DE.dp (de_op op_addD ok_add (DE.dp de_int) (dp_var 7))) dpa_nil))))))
    (dss_cons (ds_par2 (i := 1) (j := 3) sc__law_bounds_right.nd rfl (DE.dx (de_cal C__law_some (hr.mono (by decide)) (by rfl) (da_cons (de_var 0) (da_cons (de_var 2) da_nil)))) (DE.dx (de_cal C__law_wide (hr.mono (by decide)) (by rfl) (da_cons (de_slice (dp_var 2) do_none (do_some (DE.dp de_int))) (da_cons de_int da_nil)))))
    (dss_cons (ds_set (i := 4) sc__law_bounds_right.nd (DE.dx (DN.de (dn_lst (da_cons (de_op op_multD ok_D (DE.dp (de_tup (da_cons (de_op op_multD ok_D (DE.dp (de_tup (da_cons (de_var 1) da_nil))) (DE.dp de_int)) da_nil))) (DE.dp de_int)) (da_cons (de_op op_multD ok_D (DE.dp (de_tup (da_cons (de_op op_multD ok_D (DE.dp (de_tup (da_cons de_str da_nil))) (DE.dp de_int)) da_nil))) (DE.dp de_int)) (da_cons (de_tup (da_cons (de_ty ci_tuple (by rfl) G.tuple (by rfl) (dpa_cons (DE.dp (de_slice (dp_var 2) do_none (do_some (DE.dp de_int)))) dpa_nil)) (da_cons (de_ty ci_tuple (by rfl) G.tuple (by rfl) (dpa_cons (DE.dp (de_slice (dp_var 2) (do_some (DE.dp de_int)) (do_some (DE.dp de_int)))) dpa_nil)) da_nil))) (da_cons (de_tup (da_cons (de_tup (da_cons (de_var 1) da_nil)) da_nil)) (da_cons (de_tup (da_cons (de_tup (da_cons de_str da_nil)) da_nil)) (da_cons (de_var 3) da_nil))))))))))
    (dss_cons (ds_set (i := 5) sc__law_bounds_right.nd (DE.dx (DN.de (dn_lst (da_cons (de_tup (da_cons (de_op op_multD ok_D (DE.dp (de_tup (da_cons (de_var 1) da_nil))) (DE.dp de_int)) da_nil)) (da_cons (de_op op_multD ok_D (DE.dp (de_tup (da_cons (de_tup (da_cons (de_var 1) da_nil)) da_nil))) (DE.dp de_int)) (da_cons (de_tup (da_cons (de_ty ci_tuple (by rfl) G.tuple (by rfl) (dpa_cons (DE.dp (de_slice (dp_var 2) do_none (do_some (DE.dp de_int)))) dpa_nil)) (da_cons (de_ty ci_tuple (by rfl) G.tuple (by rfl) (dpa_cons (DE.dp (de_slice (dp_var 2) (do_some (DE.dp de_int)) (do_some (DE.dp de_int)))) dpa_nil)) (da_cons (de_ty ci_tuple (by rfl) G.tuple (by rfl) (dpa_cons (DE.dp (de_slice (dp_var 2) (do_some (DE.dp de_int)) (do_some (DE.dp de_int)))) dpa_nil)) da_nil)))) (da_cons (de_cal C__law_wide (hr.mono (by decide)) (by rfl) (da_cons (de_slice (dp_var 2) do_none (do_some (DE.dp de_int))) (da_cons de_int da_nil))) da_nil))))))))
    (dss_cons (ds_if (dt_cmp (op_neD (hu64 hr)) ok_ne (DE.dp (DN.de (dn_lc (own := [("one", 8)]) rfl sc__law_bounds_right.nd (di_val (de_op op_addD ok_add (dp_var 4) (dp_var 5))) (blkOk_by (by kernel_rfl)) (by decide) (fun _ _ _ _ _ => (dg_name (i := 8) sc__law_bounds_right.nd)) (fun _ _ _ _ _ => dts_nil) (fun _ _ _ _ _ => (de_cal C_is_drawing (hr.mono (by decide)) (by rfl) (da_cons (de_var 8) da_nil)))))) (DE.dp (de_op op_addD ok_add (DE.dp (de_op op_multD ok_D (DE.dp (DN.de (dn_lst (da_cons de_bl da_nil)))) (DE.dp de_int))) (DE.dp (de_op op_multD ok_D (DE.dp (DN.de (dn_lst (da_cons de_bl da_nil)))) (DE.dp de_int))))) (by first | exact nobehind _ (by decide) (by decide) | rfl)) (dss_cons (ds_ret de_bl)
    dss_nil) dss_nil)
    (dss_cons (ds_set (i := 6) sc__law_bounds_right.nd (DE.dx (de_tup (da_cons (de_ty ci_tuple (by rfl) G.tuple (by rfl) (dpa_cons (DE.dp (de_slice (dp_var 2) do_none (do_some (DE.dp de_int)))) dpa_nil)) (da_cons (de_ty ci_tuple (by rfl) G.tuple (by rfl) (dpa_cons (DE.dp (de_slice (dp_var 2) (do_some (DE.dp de_int)) (do_some (DE.dp de_int)))) dpa_nil)) (da_cons (de_ty ci_tuple (by rfl) G.tuple (by rfl) (dpa_cons (DE.dp (de_slice (dp_var 2) (do_some (DE.dp de_int)) (do_some (DE.dp de_int)))) dpa_nil)) da_nil))))))
    (dss_cons (ds_if (dt_not (dt_val (de_cal C__law_same (hr.mono (by decide)) (by rfl) (da_cons (de_tup (da_cons (de_bi ci_len (by rfl) G.len (by rfl) (dpa_cons (DE.dp (de_cal C_names_of (hr.mono (by decide)) (by rfl) (da_cons (de_var 6) da_nil))) dpa_nil)) (da_cons (de_bi ci_len (by rfl) G.len (by rfl) (dpa_cons (DE.dp (de_cal C_drawn_notes (hr.mono (by decide)) (by rfl) (da_cons (de_var 6) da_nil))) dpa_nil)) (da_cons (de_bi ci_len (by rfl) G.len (by rfl) (dpa_cons (DE.dp (de_cal C_drawn_notes (hr.mono (by decide)) (by rfl) (da_cons (de_var 3) da_nil))) dpa_nil)) da_nil)))) (da_cons (de_tup (da_cons de_int (da_cons de_int (da_cons de_int da_nil)))) da_nil))))) (dss_cons (ds_ret de_bl)
    dss_nil) dss_nil)
    (dss_cons (ds_ret (de_cal C__law_same (hr.mono (by decide)) (by rfl) (da_cons (de_tup (da_cons (de_cal C_names_of (hr.mono (by decide)) (by rfl) (da_cons (de_var 3) da_nil)) (da_cons (de_cal C_drawn_notes (hr.mono (by decide)) (by rfl) (da_cons (de_var 3) da_nil)) da_nil))) (da_cons (de_tup (da_cons (de_ty ci_tuple (by rfl) G.tuple (by rfl) (dpa_cons (DE.dp (de_cal C__law_all_names (hr.mono (by decide)) (by rfl) (da_cons (de_var 3) da_nil))) dpa_nil)) (da_cons (de_cal C__law_notes (hr.mono (by decide)) (by rfl) (da_cons (de_var 3) da_nil)) da_nil))) da_nil))))
    dss_nil))))))))
theorem ok__law_written (G : Glo mg) (C__law_some : Cal P w K mg base 2 "_law_some" (spD P w K g__law_some)) (C__law_same : Cal P w K mg base 21 "_law_same" (spD P w K (g__law_same 20))) (C_drawn_notes : Cal P w K mg base 4 "drawn_notes" (spD P w K g_drawn_notes)) (C_names_of : Cal P w K mg base 4 "names_of" (spD P w K g_names_of)) (D : Dfn K mg "_law_written" s__law_written) : Cal P w K mg base 22 "_law_written" (spD P w K g__law_written) := by
  unfold g__law_written
  obtain ⟨f, fd, F, m⟩ := D.ex
  refine ⟨f, fd, ["cup"], fn_D (k := 21) (N := ["cup", "drawing", "one", "due"]) (ps := ["cup"]) (G := b__law_written) F sc__law_written (fun cdv A outer s H E κ hr => ?_), m, F.kp, (F.binds (ps := ["cup"]) fun _ _ _ _ _ _ us hl => match us, hl with | [_], _ => rfl)⟩
  unfold b__law_written
  exact (dss_cons (ds_set (i := 2) sc__law_written.nd (DE.dx (de_cal C__law_some (hr.mono (by decide)) (by rfl) (da_cons (de_var 0) (da_cons (DN.de (dn_lst (da_cons de_str (da_cons de_str (da_cons de_str da_nil))))) da_nil)))))
    (dss_cons (ds_set (i := 1) sc__law_written.nd (DE.dx (de_tup (da_cons (de_tup (da_cons de_str (da_cons (de_var 2) (da_cons de_str (da_cons de_str da_nil))))) (da_cons (de_tup (da_cons de_str (da_cons de_str (da_cons (de_var 2) (da_cons (de_var 2) da_nil))))) (da_cons (de_tup (da_cons (de_var 2) (da_cons de_str (da_cons (de_var 2) (da_cons de_str da_nil))))) (da_cons (de_tup (da_cons de_str (da_cons de_str (da_cons de_str (da_cons de_str da_nil))))) (da_cons (de_tup (da_cons de_str (da_cons (de_var 2) (da_cons de_str (da_cons de_str da_nil))))) da_nil))))))))
    (dss_cons (ds_set (i := 3) sc__law_written.nd (DE.dx (de_ty ci_tuple (by rfl) G.tuple (by rfl) (dpa_cons (DE.dp (DN.de (dn_bi (ci_sorted rfl (hu65 hr)) (by rfl) G.sorted (by rfl) (dpa_cons (DE.dp (DN.de (dn_lst (da_cons (de_tup (da_cons de_str (da_cons de_str (da_cons (de_var 2) da_nil)))) (da_cons (de_tup (da_cons de_str (da_cons (de_var 2) (da_cons de_str da_nil)))) da_nil))))) dpa_nil)))) dpa_nil))))
    (dss_cons (ds_ret (de_cal C__law_same (hr.mono (by decide)) (by rfl) (da_cons (de_tup (da_cons (de_cal C_drawn_notes (hr.mono (by decide)) (by rfl) (da_cons (de_var 1) da_nil)) (da_cons (de_cal C_names_of (hr.mono (by decide)) (by rfl) (da_cons (de_var 1) da_nil)) (da_cons (de_cal C_drawn_notes (hr.mono (by decide)) (by rfl) (da_cons (de_tup (da_cons (de_tup (da_cons de_str da_nil)) da_nil)) da_nil)) da_nil)))) (da_cons (de_tup (da_cons (de_var 3) (da_cons (de_tup (da_cons de_str (da_cons de_str (da_cons (de_var 2) da_nil)))) (da_cons (de_tup da_nil) da_nil)))) da_nil))))
    dss_nil))))
theorem ok__law_bent (G : Glo mg) (C__law_roll : Cal P w K mg base 1 "_law_roll" (spD P w K g__law_roll)) (D : Dfn K mg "_law_bent" s__law_bent) : Cal P w K mg base 2 "_law_bent" (spD P w K g__law_bent) := by
  unfold g__law_bent
  obtain ⟨f, fd, F, m⟩ := D.ex
  refine ⟨f, fd, ["cup", "drawing"], fn_D (k := 1) (N := ["cup", "drawing", "found", "row", "at", "column", "bent", "odds", "odd", "one"]) (ps := ["cup", "drawing"]) (G := b__law_bent) F sc__law_bent (fun cdv A outer s H E κ hr => ?_), m, F.kp, (F.binds (ps := ["cup", "drawing"]) fun _ _ _ _ _ _ us hl => match us, hl with | [_, _], _ => rfl)⟩
  unfold b__law_bent
  exact (dss_cons (ds_parL2 (i := 4) (j := 5) sc__law_bent.nd rfl (fun _ => rfl) (DE.dx (de_cal C__law_roll (hr.mono (by decide)) (by rfl) (da_cons (de_var 0) (da_cons (de_bi ci_len (by rfl) G.len (by rfl) (dpa_cons (dp_var 1) dpa_nil)) da_nil)))) (DE.dx (de_cal C__law_roll (hr.mono (by decide)) (by rfl) (da_cons (de_var 0) (da_cons (de_bi ci_len (by rfl) G.len (by rfl) (dpa_cons (DE.dp (de_ix (hu65 hr) (dp_var 1) (DE.dp de_int))) dpa_nil)) da_nil)))))
    (dss_cons (ds_parL2 (i := 3) (j := 7) sc__law_bent.nd rfl (fun _ => rfl) (DE.dx (de_ix (hu65 hr) (dp_var 1) (dp_var 4))) (DE.dx (DN.de (dn_lst (da_cons de_str (da_cons de_str (da_cons de_str (da_cons (de_op op_multD ok_D (DE.dp de_str) (DE.dp de_int)) (da_cons de_str (da_cons de_str (da_cons de_str (da_cons de_non (da_cons de_int (da_cons de_bl (da_cons (de_tup (da_cons de_str da_nil)) (da_cons (DN.de (dn_lst (da_cons de_str da_nil))) da_nil))))))))))))))))
    (dss_cons (ds_set (i := 6) sc__law_bent.nd (DE.dx (de_op op_addD ok_add (DE.dp (DN.de (dn_lc (own := [("odd", 8)]) rfl sc__law_bent.nd (di_val (de_var 7)) (blkOk_by (by kernel_rfl)) (by decide) (fun _ _ _ _ _ => (dg_name (i := 8) sc__law_bent.nd)) (fun _ _ _ _ _ => dts_nil) (fun _ _ _ _ _ => (de_op op_addD ok_add (DE.dp (de_op op_addD ok_add (DE.dp (de_slice (dp_var 3) do_none (do_some (dp_var 5)))) (DE.dp (de_tup (da_cons (de_var 8) da_nil))))) (DE.dp (de_slice (dp_var 3) (do_some (DE.dp (de_op op_addD ok_add (dp_var 5) (DE.dp de_int)))) do_none))))))) (DE.dp (DN.de (dn_lst (da_cons (DN.de (dn_ty (ci_list rfl) (by rfl) G.list (by rfl) (dpa_cons (dp_var 3) dpa_nil))) (da_cons (de_tup da_nil) (da_cons (de_op op_multD ok_D (DE.dp de_str) (DE.dp (de_bi ci_len (by rfl) G.len (by rfl) (dpa_cons (dp_var 3) dpa_nil)))) (da_cons de_non da_nil))))))))))
    (dss_cons (ds_set (i := 6) sc__law_bent.nd (DE.dx (de_op op_addD ok_add (dp_var 6) (DE.dp (de_ife (dt_cmp op_gt ok_gt (DE.dp (de_bi ci_len (by rfl) G.len (by rfl) (dpa_cons (dp_var 1) dpa_nil))) (DE.dp de_int) (by first | exact nobehind _ (by decide) (by decide) | rfl)) (DN.de (dn_lst (da_cons (de_op op_addD ok_add (dp_var 3) (DE.dp (de_tup (da_cons de_str da_nil)))) (da_cons (de_slice (dp_var 3) (do_some (DE.dp de_int)) do_none) da_nil)))) (DN.de (dn_lst da_nil)))))))
    (dss_cons (ds_setLc (i := 2) (own := [("one", 9)]) false rfl sc__law_bent.nd (di_val (de_var 6)) (blkOk_by (by kernel_rfl)) (by decide) (fun _ _ _ _ _ => (dg_name (i := 9) sc__law_bent.nd)) (fun _ _ _ _ _ => dts_nil) (fun _ _ _ _ _ => (de_op op_addD ok_add (DE.dp (de_op op_addD ok_add (DE.dp (de_slice (dp_var 1) do_none (do_some (dp_var 4)))) (DE.dp (de_tup (da_cons (de_var 9) da_nil))))) (DE.dp (de_slice (dp_var 1) (do_some (DE.dp (de_op op_addD ok_add (dp_var 4) (DE.dp de_int)))) do_none)))))
    (dss_cons (ds_set (i := 2) sc__law_bent.nd (DE.dx (de_op op_addD ok_add (dp_var 2) (DE.dp (DN.de (dn_lst (da_cons (DN.de (dn_ty (ci_list rfl) (by rfl) G.list (by rfl) (dpa_cons (dp_var 1) dpa_nil))) (da_cons (de_tup da_nil) (da_cons de_non (da_cons (de_var 3) (da_cons de_str (da_cons de_int (da_cons (de_op op_addD ok_add (dp_var 1) (DE.dp (de_tup (da_cons (de_op op_multD ok_D (DE.dp (de_tup (da_cons de_str da_nil))) (DE.dp (de_op op_addD ok_add (DE.dp (de_bi ci_len (by rfl) G.len (by rfl) (dpa_cons (dp_var 3) dpa_nil))) (DE.dp de_int)))) da_nil)))) (da_cons (de_op op_addD ok_add (dp_var 1) (DE.dp (de_tup (da_cons (de_slice (dp_var 3) do_none (do_some (DE.dp (de_neg de_int)))) da_nil)))) da_nil))))))))))))))
    (dss_cons (ds_ret (de_op op_addD ok_add (dp_var 2) (DE.dp (DN.de (dn_lst (da_cons (de_ix (hu65 hr) (dp_var 1) (DE.dp de_int)) (da_cons (de_tup (da_cons (de_var 1) da_nil)) da_nil)))))))
    dss_nil)))))))
/-- behind the first line of the law -/
theorem ok_law_body (G : Glo mg) (C__law_names : Cal P w K mg base 3 "_law_names" (spD P w K g__law_names)) (C__law_drawing : Cal P w K mg base 3 "_law_drawing" (spD P w K g__law_drawing)) (C__law_bounds_right : Cal P w K mg base 22 "_law_bounds_right" (spD P w K g__law_bounds_right)) (C__law_written : Cal P w K mg base 22 "_law_written" (spD P w K g__law_written)) (C__law_same : Cal P w K mg base 21 "_law_same" (spD P w K (g__law_same 20))) (C__law_roll : Cal P w K mg base 1 "_law_roll" (spD P w K g__law_roll)) (C_is_drawing : Cal P w K mg base 3 "is_drawing" (spD P w K g_is_drawing)) (C_names_of : Cal P w K mg base 4 "names_of" (spD P w K g_names_of)) (C_drawn_notes : Cal P w K mg base 4 "drawn_notes" (spD P w K g_drawn_notes)) (C__law_notes : Cal P w K mg base 1 "_law_notes" (spD P w K g__law_notes)) (C__law_bent : Cal P w K mg base 2 "_law_bent" (spD P w K g__law_bent)) (C__law_all_names : Cal P w K mg base 1 "_law_all_names" (spD P w K g__law_all_names)) (f : Addr) (cdv : Value) (A : Around) (outer : List Env) (s : Shared) (H : Hp) (E : XK) (κ : Addr) (hr : Room 22 (A.deeper (envOfC "law" (defScope s_law) s.heap.objs.size f cdv))) :
    DSs (cxOf CX0 P w K mg base ["script", "turn", "drawing", "names", "cup", "one"] "law" (defScope s_law) f cdv A outer s H E).nox κ (defBody s_law).tail b_law := by
  unfold b_law
  exact (dss_cons (ds_for PassesOwn.never rfl (di_range1 (by rfl) G.range (dpa_cons (DE.dp de_int) dpa_nil)) (dg_name (i := 1) sc_law.nd) (dss_cons (ds_set (i := 3) sc_law.nd (DE.dx (de_cal C__law_names (hr.mono (by decide)) (by rfl) (da_cons (de_var 4) (da_cons (de_op op_addD ok_add (DE.dp de_int) (DE.dp (de_cal C__law_roll (hr.mono (by decide)) (by rfl) (da_cons (de_var 4) (da_cons de_int da_nil))))) (da_cons de_str da_nil))))))
    (dss_cons (ds_set (i := 2) sc_law.nd (DE.dx (de_cal C__law_drawing (hr.mono (by decide)) (by rfl) (da_cons (de_var 4) (da_cons (de_op op_addD ok_add (DE.dp de_int) (DE.dp (de_cal C__law_roll (hr.mono (by decide)) (by rfl) (da_cons (de_var 4) (da_cons de_int da_nil))))) (da_cons (de_op op_addD ok_add (DE.dp de_int) (DE.dp (de_cal C__law_roll (hr.mono (by decide)) (by rfl) (da_cons (de_var 4) (da_cons de_int da_nil))))) (da_cons (de_var 3) da_nil)))))))
    (dss_cons (ds_if (dt_w (dw_or (dt_cmp op_isNotS ok_isNot (DE.dp (de_cal C_is_drawing (hr.mono (by decide)) (by rfl) (da_cons (de_var 2) da_nil))) (DE.dp de_bl) (by first | exact nobehind _ (by decide) (by decide) | rfl)) (dw_or1 (dt_cmp (op_neD (hu64 hr)) ok_ne (DE.dp (DN.de (dn_lc (own := [("one", 5)]) rfl sc_law.nd (di_val (de_cal C__law_bent (hr.mono (by decide)) (by rfl) (da_cons (de_var 4) (da_cons (de_var 2) da_nil)))) (blkOk_by (by kernel_rfl)) (by decide) (fun _ _ _ _ _ => (dg_name (i := 5) sc_law.nd)) (fun _ _ _ _ _ => (dts_one (dt_cmp op_isNotS ok_isNot (DE.dp (de_cal C_is_drawing (hr.mono (by decide)) (by rfl) (da_cons (de_var 5) da_nil))) (DE.dp de_bl) (by first | exact nobehind _ (by decide) (by decide) | rfl)))) (fun _ _ _ _ _ => (de_var 5))))) (DE.dp (DN.de (dn_lst da_nil))) (by first | exact nobehind _ (by decide) (by decide) | rfl))))) (dss_cons (ds_ret de_bl)
    dss_nil) dss_nil)
    (dss_cons (ds_if (dt_not (dt_val (de_cal C__law_same (hr.mono (by decide)) (by rfl) (da_cons (de_tup (da_cons (de_cal C_names_of (hr.mono (by decide)) (by rfl) (da_cons (de_var 2) da_nil)) (da_cons (de_cal C_drawn_notes (hr.mono (by decide)) (by rfl) (da_cons (de_var 2) da_nil)) da_nil))) (da_cons (de_tup (da_cons (de_ty ci_tuple (by rfl) G.tuple (by rfl) (dpa_cons (DE.dp (de_cal C__law_all_names (hr.mono (by decide)) (by rfl) (da_cons (de_var 2) da_nil))) dpa_nil)) (da_cons (de_cal C__law_notes (hr.mono (by decide)) (by rfl) (da_cons (de_var 2) da_nil)) da_nil))) da_nil))))) (dss_cons (ds_ret de_bl)
    dss_nil) dss_nil)
    dss_nil)))))
    (dss_cons (ds_ret (de_and (de_cal C__law_bounds_right (hr.mono (by decide)) (by rfl) (da_cons (de_var 4) da_nil)) (de_one (de_cal C__law_written (hr.mono (by decide)) (by rfl) (da_cons (de_var 4) da_nil)))))
    dss_nil))
end
end K46
end
section
/-! the law, what the top has written; printed by gen.py -/
namespace K46
open PySem PySem.Spec PyProof.Rows L2 DL
section
variable {P : Program} {w : World} {K : PySem.W.Frag} {mg : Str → Option Value} {base : Heap}
theorem ok__law_cup (G : Glo mg) {f : Addr} {fd : FuncData} (F : Fun K "_law_cup" "_law_cup" s__law_cup f fd) : FnOk P w K mg base CX0 1 f fd ["script"] (spCup K) := by
  refine F.ok sc__law_cup (fun vs H Q E h => ?_) (fun cdv A outer s H vs Q E hr h => ?_)
  · obtain ⟨a, ns, rfl, _⟩ := h
    rfl
  · obtain ⟨a, ns, rfl, hS, hlen, q⟩ := h
    refine ⟨_, pss_cons (ps_set (i := 1) sc__law_cup.nd rfl (.inl rfl) (pe_callB call_abs (by rfl) G.abs (by rfl) (pa_cons (pe_ix ix_list (pe_op op_cat (pe_callTy call_list_of (by rfl) G.list (by rfl) (pa_cons (pv 0) pa_nil)) (pe_lst (pa_cons pe_int pa_nil))) pe_int (fun _ _ => rfl)) pa_nil)))
      (pss_one (ps_ret (pe_lst (pa_cons (pe_ifExp (pt_cmpR op_ge (pv 1) (pe_op op_pow pe_int pe_int) (nomark _)) (pe_op op_fdiv (pv 1) pe_int) pe_int) (pa_cons (pe_op op_add (pe_op op_mod (pe_callTy call_int1 (by rfl) G.int (by rfl) (pa_cons (pe_op op_add (pe_op op_mul (pv 1) pe_int) pe_int) pa_nil)) pe_int) pe_int) pa_nil))))), ?_⟩
    have hl0 : (ns.map V.int).length ≤ 63 := by rw [List.length_map]; exact hlen
    refine ⟨.ref a, rfl, a, _, rfl, .inl hS, fun l1 n1 => ⟨by decide, fun l2 n2 => ?_⟩⟩
    have n12 : l1 ≠ l2 := fun e => by subst e; rw [upd_same] at n2; cases n2
    refine ⟨l1, l2, _, _, rfl, rfl, by rw [upd_ne n12, upd_same], upd_same, ?_, fun l3 n3 => ?_⟩
    · rw [sizeLine_eq]; simp only [List.length_cons, List.length_nil]; omega
    obtain ⟨z, r, hz⟩ : ∃ z r, ns.map V.int ++ [V.int 0] = V.int z :: r := by
      cases ns with
      | nil => exact ⟨0, [], rfl⟩
      | cons n r => exact ⟨n, _, rfl⟩
    refine ⟨l3, _, 0, .int z, rfl, rfl, SqL.of upd_same, by rw [hz]; exact atI_nat (j := 0) rfl, z, rfl, ?_⟩
    generalize hcell : (if z < 0 then -z else z) = cell
    have hc0 : 0 ≤ cell := by rw [← hcell]; split <;> omega
    have s3 : Same H (upd (upd (upd H l1 (.lst (ns.map V.int))) l2 (.lst [.int 0])) l3 (.lst (ns.map V.int ++ [.int 0]))) := same_trans (same_upd n1) (same_trans (same_upd n2) (same_upd n3))
    generalize upd (upd (upd H l1 (.lst (ns.map V.int))) l2 (.lst [.int 0])) l3 (.lst (ns.map V.int ++ [.int 0])) = H3 at s3
    have fin : ∀ (x B C M Z : Int), 0 ≤ x → 0 < M ∧ M < 4000000000 ∧ 0 ≤ Z ∧ Z < 100000 → ∀ p, H3 p = none → Q (.ref p) (upd H3 p (.lst [.int x, .int ((cell * B + C) % M + Z)])) := fun x B C M Z g0 g p hp => by
      refine q (_, _) p _ (cupGo_ok g0 g) (same_trans s3 (same_upd hp)) ?_ upd_same
      cases e : H p with
      | none => rfl
      | some o => rw [s3 p o e] at hp; cases hp
    refine ⟨.int cell, rfl, 10, 18, rfl, rfl, ⟨by decide, by decide, by decide⟩, cell, _, rfl, rfl, _, rfl, ?_⟩
    refine ite2 (fun e => ?_) (fun e => ?_)
    · refine ⟨.int cell, rfl, cell, _, rfl, rfl, ⟨by decide, by decide⟩, ?_⟩
      refine ⟨.int cell, rfl, cell, _, rfl, rfl, .inr ⟨by decide, by decide⟩, _, _, rfl, rfl, .inl ⟨_, rfl, _, _, rfl, rfl, (by show (0 : Int) < _; decide), _, _, rfl, rfl, ?_⟩⟩
      exact ⟨by show 2 ≤ sizeLine; decide, fun p hp => fin _ _ _ _ _ (Int.ediv_nonneg hc0 (by decide)) ⟨by decide, by decide, by decide, by decide⟩ p hp⟩
    · refine ⟨.int cell, rfl, cell, _, rfl, rfl, .inr ⟨by decide, by decide⟩, _, _, rfl, rfl, .inl ⟨_, rfl, _, _, rfl, rfl, (by show (0 : Int) < _; decide), _, _, rfl, rfl, ?_⟩⟩
      exact ⟨by show 2 ≤ sizeLine; decide, fun p hp => fin _ _ _ _ _ (Int.le_refl 0) ⟨by decide, by decide, by decide, by decide⟩ p hp⟩
theorem ok_law (math : ∀ c, CupOk c → ∃ c', b_law (lawRho 6 4) c = some (.rt (.bl true) c')) (G : Glo mg) (C__law_names : Cal P w K mg base 3 "_law_names" (spD P w K g__law_names)) (C__law_drawing : Cal P w K mg base 3 "_law_drawing" (spD P w K g__law_drawing)) (C__law_bounds_right : Cal P w K mg base 22 "_law_bounds_right" (spD P w K g__law_bounds_right)) (C__law_written : Cal P w K mg base 22 "_law_written" (spD P w K g__law_written)) (C__law_same : Cal P w K mg base 21 "_law_same" (spD P w K (g__law_same 20))) (C__law_roll : Cal P w K mg base 1 "_law_roll" (spD P w K g__law_roll)) (C_is_drawing : Cal P w K mg base 3 "is_drawing" (spD P w K g_is_drawing)) (C_names_of : Cal P w K mg base 4 "names_of" (spD P w K g_names_of)) (C_drawn_notes : Cal P w K mg base 4 "drawn_notes" (spD P w K g_drawn_notes)) (C__law_notes : Cal P w K mg base 1 "_law_notes" (spD P w K g__law_notes)) (C__law_bent : Cal P w K mg base 2 "_law_bent" (spD P w K g__law_bent)) (C__law_all_names : Cal P w K mg base 1 "_law_all_names" (spD P w K g__law_all_names)) {f fc : Addr} {fd fdc : FuncData} (Fc : Fun K "_law_cup" "_law_cup" s__law_cup fc fdc) (mc : mg "_law_cup" = some (.ref fc)) (F : Fun K "law" "law" s_law f fd) : FnOk P w K mg base CX0 24 f fd ["script"] (spLaw K) := by
  have bc := Fc.binds (ps := ["script"]) fun _ _ _ _ _ _ us hl => match us, hl with | [_], _ => rfl
  have GC : FnOk P w K mg base CX0 1 fc fdc ["script"] (spCup K) := ok__law_cup G Fc
  refine F.ok sc_law (fun vs H Q E h => ?_) (fun cdv A outer s H vs Q E hr h => ?_)
  · obtain ⟨a, ns, rfl, _⟩ := h
    rfl
  · obtain ⟨a, ns, rfl, hS, hlen, q⟩ := h
    refine ⟨_, pss_cons (ps_set (i := 4) sc_law.nd rfl (by first | exact .inl rfl | exact .inr rfl) (pe_call GC (hr.mono (by decide)) (by rfl) mc Fc.kp bc .nil pass0 (pa_cons (pv 0) pa_nil))) (dss_any fun κ => ok_law_body G C__law_names C__law_drawing C__law_bounds_right C__law_written C__law_same C__law_roll C_is_drawing C_names_of C_drawn_notes C__law_notes C__law_bent C__law_all_names f cdv A outer s H E κ (hr.mono (by decide))), ?_⟩
    refine ⟨.ref a, rfl, a, ns, rfl, hS, hlen, fun c p H' hc sm hp0 hp => ⟨p, ?_⟩⟩
    obtain ⟨c', hm⟩ := math c hc
    refine ⟨fun x => x = p, H', lawRho 6 4, c, _, law_start (i := 4) (σ := L2.start ["script", "turn", "drawing", "names", "cup", "one"] [V.ref a]) (show 4 < 6 by decide) hp, hm, fun v H2 _ _ r => ?_⟩
    have e : v = .bl true := by simpa only [Rep] using r
    subst e
    exact q H2
end
theorem all_mk (math : ∀ c, CupOk c → ∃ c', b_law (lawRho 6 4) c = some (.rt (.bl true) c')) {l : PySem.W.OpenLaw} {w : World} {K : PySem.W.Frag} {h : Heap} {mg : Str → Option Value} {fa : Addr} (X : K.In h) (NG : h.Ns mainGlobals mg) (hfa : mg "law" = some (.ref fa))
    {f1 : Addr} {od1 an1 : Option Addr} {sl1 : Array (Option Value)} {oc1 kV1 dc1 pm1 cd1 ct1 : Value}
    {f2 : Addr} {od2 an2 : Option Addr} {sl2 : Array (Option Value)} {oc2 kV2 dc2 pm2 cd2 ct2 : Value}
    {f3 : Addr} {od3 an3 : Option Addr} {sl3 : Array (Option Value)} {oc3 kV3 dc3 pm3 cd3 ct3 : Value}
    {f4 : Addr} {od4 an4 : Option Addr} {sl4 : Array (Option Value)} {oc4 kV4 dc4 pm4 cd4 ct4 : Value}
    {f5 : Addr} {od5 an5 : Option Addr} {sl5 : Array (Option Value)} {oc5 kV5 dc5 pm5 cd5 ct5 : Value}
    {f6 : Addr} {od6 an6 : Option Addr} {sl6 : Array (Option Value)} {oc6 kV6 dc6 pm6 cd6 ct6 : Value}
    {f7 : Addr} {od7 an7 : Option Addr} {sl7 : Array (Option Value)} {oc7 kV7 dc7 pm7 cd7 ct7 : Value}
    {f8 : Addr} {od8 an8 : Option Addr} {sl8 : Array (Option Value)} {oc8 kV8 dc8 pm8 cd8 ct8 : Value}
    {f9 : Addr} {od9 an9 : Option Addr} {sl9 : Array (Option Value)} {oc9 kV9 dc9 pm9 cd9 ct9 : Value}
    {f10 : Addr} {od10 an10 : Option Addr} {sl10 : Array (Option Value)} {oc10 kV10 dc10 pm10 cd10 ct10 : Value}
    {f11 : Addr} {od11 an11 : Option Addr} {sl11 : Array (Option Value)} {oc11 kV11 dc11 pm11 cd11 ct11 : Value}
    {f12 : Addr} {od12 an12 : Option Addr} {sl12 : Array (Option Value)} {oc12 kV12 dc12 pm12 cd12 ct12 : Value}
    {f13 : Addr} {od13 an13 : Option Addr} {sl13 : Array (Option Value)} {oc13 kV13 dc13 pm13 cd13 ct13 : Value}
    {f14 : Addr} {od14 an14 : Option Addr} {sl14 : Array (Option Value)} {oc14 kV14 dc14 pm14 cd14 ct14 : Value}
    {f15 : Addr} {od15 an15 : Option Addr} {sl15 : Array (Option Value)} {oc15 kV15 dc15 pm15 cd15 ct15 : Value}
    {f16 : Addr} {od16 an16 : Option Addr} {sl16 : Array (Option Value)} {oc16 kV16 dc16 pm16 cd16 ct16 : Value}
    {f17 : Addr} {od17 an17 : Option Addr} {sl17 : Array (Option Value)} {oc17 kV17 dc17 pm17 cd17 ct17 : Value}
    {f18 : Addr} {od18 an18 : Option Addr} {sl18 : Array (Option Value)} {oc18 kV18 dc18 pm18 cd18 ct18 : Value}
    {f19 : Addr} {od19 an19 : Option Addr} {sl19 : Array (Option Value)} {oc19 kV19 dc19 pm19 cd19 ct19 : Value}
    {f20 : Addr} {od20 an20 : Option Addr} {sl20 : Array (Option Value)} {oc20 kV20 dc20 pm20 cd20 ct20 : Value}
    {f21 : Addr} {od21 an21 : Option Addr} {sl21 : Array (Option Value)} {oc21 kV21 dc21 pm21 cd21 ct21 : Value}
    {f22 : Addr} {od22 an22 : Option Addr} {sl22 : Array (Option Value)} {oc22 kV22 dc22 pm22 cd22 ct22 : Value}
    {t1 : Tok}
    {t2 : Tok}
    {t3 : Tok}
    {t4 : Tok}
    {t5 : Tok}
    {t6 : Tok}
    {t7 : Tok}
    (a1 : PySem.W.nsIn K mainGlobals "_law_cup" = some (some (.ref f1))) (l1 : K.lookup f1 = some ⟨oc1, od1, .func (PySem.W.fnOf "_law_cup" "_law_cup" (defArgs s__law_cup) (defBody s__law_cup) (defScope s__law_cup) .none kV1 dc1 pm1 an1 cd1 ct1), sl1⟩) (c1 : PySem.W.codeIn K cd1 "_law_cup" = true) (k1 : PySem.W.keepIn K (.ref f1) = true)
    (a2 : PySem.W.nsIn K mainGlobals "_law_roll" = some (some (.ref f2))) (l2 : K.lookup f2 = some ⟨oc2, od2, .func (PySem.W.fnOf "_law_roll" "_law_roll" (defArgs s__law_roll) (defBody s__law_roll) (defScope s__law_roll) .none kV2 dc2 pm2 an2 cd2 ct2), sl2⟩) (c2 : PySem.W.codeIn K cd2 "_law_roll" = true) (k2 : PySem.W.keepIn K (.ref f2) = true)
    (a3 : PySem.W.nsIn K mainGlobals "_law_some" = some (some (.ref f3))) (l3 : K.lookup f3 = some ⟨oc3, od3, .func (PySem.W.fnOf "_law_some" "_law_some" (defArgs s__law_some) (defBody s__law_some) (defScope s__law_some) .none kV3 dc3 pm3 an3 cd3 ct3), sl3⟩) (c3 : PySem.W.codeIn K cd3 "_law_some" = true) (k3 : PySem.W.keepIn K (.ref f3) = true)
    (a4 : PySem.W.nsIn K mainGlobals "_law_names" = some (some (.ref f4))) (l4 : K.lookup f4 = some ⟨oc4, od4, .func (PySem.W.fnOf "_law_names" "_law_names" (defArgs s__law_names) (defBody s__law_names) (defScope s__law_names) .none kV4 dc4 pm4 an4 cd4 ct4), sl4⟩) (c4 : PySem.W.codeIn K cd4 "_law_names" = true) (k4 : PySem.W.keepIn K (.ref f4) = true)
    (a5 : PySem.W.nsIn K mainGlobals "_law_drawing" = some (some (.ref f5))) (l5 : K.lookup f5 = some ⟨oc5, od5, .func (PySem.W.fnOf "_law_drawing" "_law_drawing" (defArgs s__law_drawing) (defBody s__law_drawing) (defScope s__law_drawing) .none kV5 dc5 pm5 an5 cd5 ct5), sl5⟩) (c5 : PySem.W.codeIn K cd5 "_law_drawing" = true) (k5 : PySem.W.keepIn K (.ref f5) = true)
    (a6 : PySem.W.nsIn K mainGlobals "_law_same" = some (some (.ref f6))) (l6 : K.lookup f6 = some ⟨oc6, od6, .func (PySem.W.fnOf "_law_same" "_law_same" (defArgs s__law_same) (defBody s__law_same) (defScope s__law_same) .none kV6 dc6 pm6 an6 cd6 ct6), sl6⟩) (c6 : PySem.W.codeIn K cd6 "_law_same" = true) (k6 : PySem.W.keepIn K (.ref f6) = true)
    (a7 : PySem.W.nsIn K mainGlobals "_law_wide" = some (some (.ref f7))) (l7 : K.lookup f7 = some ⟨oc7, od7, .func (PySem.W.fnOf "_law_wide" "_law_wide" (defArgs s__law_wide) (defBody s__law_wide) (defScope s__law_wide) .none kV7 dc7 pm7 an7 cd7 ct7), sl7⟩) (c7 : PySem.W.codeIn K cd7 "_law_wide" = true) (k7 : PySem.W.keepIn K (.ref f7) = true)
    (a8 : PySem.W.nsIn K mainGlobals "is_tuple_of" = some (some (.ref f8))) (l8 : K.lookup f8 = some ⟨oc8, od8, .func (PySem.W.fnOf "is_tuple_of" "is_tuple_of" (defArgs s_is_tuple_of) (defBody s_is_tuple_of) (defScope s_is_tuple_of) .none kV8 dc8 pm8 an8 cd8 ct8), sl8⟩) (c8 : PySem.W.codeIn K cd8 "is_tuple_of" = true) (k8 : PySem.W.keepIn K (.ref f8) = true)
    (a9 : PySem.W.nsIn K mainGlobals "names_in" = some (some (.ref f9))) (l9 : K.lookup f9 = some ⟨oc9, od9, .func (PySem.W.fnOf "names_in" "names_in" (defArgs s_names_in) (defBody s_names_in) (defScope s_names_in) .none kV9 dc9 pm9 an9 cd9 ct9), sl9⟩) (c9 : PySem.W.codeIn K cd9 "names_in" = true) (k9 : PySem.W.keepIn K (.ref f9) = true)
    (a10 : PySem.W.nsIn K mainGlobals "notes_in" = some (some (.ref f10))) (l10 : K.lookup f10 = some ⟨oc10, od10, .func (PySem.W.fnOf "notes_in" "notes_in" (defArgs s_notes_in) (defBody s_notes_in) (defScope s_notes_in) .none kV10 dc10 pm10 an10 cd10 ct10), sl10⟩) (c10 : PySem.W.codeIn K cd10 "notes_in" = true) (k10 : PySem.W.keepIn K (.ref f10) = true)
    (a11 : PySem.W.nsIn K mainGlobals "fits_name" = some (some (.ref f11))) (l11 : K.lookup f11 = some ⟨oc11, od11, .func (PySem.W.fnOf "fits_name" "fits_name" (defArgs s_fits_name) (defBody s_fits_name) (defScope s_fits_name) .none kV11 dc11 pm11 an11 cd11 ct11), sl11⟩) (c11 : PySem.W.codeIn K cd11 "fits_name" = true) (k11 : PySem.W.keepIn K (.ref f11) = true)
    (a12 : PySem.W.nsIn K mainGlobals "fits_drawing" = some (some (.ref f12))) (l12 : K.lookup f12 = some ⟨oc12, od12, .func (PySem.W.fnOf "fits_drawing" "fits_drawing" (defArgs s_fits_drawing) (defBody s_fits_drawing) (defScope s_fits_drawing) .none kV12 dc12 pm12 an12 cd12 ct12), sl12⟩) (c12 : PySem.W.codeIn K cd12 "fits_drawing" = true) (k12 : PySem.W.keepIn K (.ref f12) = true)
    (a13 : PySem.W.nsIn K mainGlobals "is_drawing" = some (some (.ref f13))) (l13 : K.lookup f13 = some ⟨oc13, od13, .func (PySem.W.fnOf "is_drawing" "is_drawing" (defArgs s_is_drawing) (defBody s_is_drawing) (defScope s_is_drawing) .none kV13 dc13 pm13 an13 cd13 ct13), sl13⟩) (c13 : PySem.W.codeIn K cd13 "is_drawing" = true) (k13 : PySem.W.keepIn K (.ref f13) = true)
    (a14 : PySem.W.nsIn K mainGlobals "need_drawing" = some (some (.ref f14))) (l14 : K.lookup f14 = some ⟨oc14, od14, .func (PySem.W.fnOf "need_drawing" "need_drawing" (defArgs s_need_drawing) (defBody s_need_drawing) (defScope s_need_drawing) .none kV14 dc14 pm14 an14 cd14 ct14), sl14⟩) (c14 : PySem.W.codeIn K cd14 "need_drawing" = true) (k14 : PySem.W.keepIn K (.ref f14) = true)
    (a15 : PySem.W.nsIn K mainGlobals "names_of" = some (some (.ref f15))) (l15 : K.lookup f15 = some ⟨oc15, od15, .func (PySem.W.fnOf "names_of" "names_of" (defArgs s_names_of) (defBody s_names_of) (defScope s_names_of) .none kV15 dc15 pm15 an15 cd15 ct15), sl15⟩) (c15 : PySem.W.codeIn K cd15 "names_of" = true) (k15 : PySem.W.keepIn K (.ref f15) = true)
    (a16 : PySem.W.nsIn K mainGlobals "drawn_notes" = some (some (.ref f16))) (l16 : K.lookup f16 = some ⟨oc16, od16, .func (PySem.W.fnOf "drawn_notes" "drawn_notes" (defArgs s_drawn_notes) (defBody s_drawn_notes) (defScope s_drawn_notes) .none kV16 dc16 pm16 an16 cd16 ct16), sl16⟩) (c16 : PySem.W.codeIn K cd16 "drawn_notes" = true) (k16 : PySem.W.keepIn K (.ref f16) = true)
    (a17 : PySem.W.nsIn K mainGlobals "_law_notes" = some (some (.ref f17))) (l17 : K.lookup f17 = some ⟨oc17, od17, .func (PySem.W.fnOf "_law_notes" "_law_notes" (defArgs s__law_notes) (defBody s__law_notes) (defScope s__law_notes) .none kV17 dc17 pm17 an17 cd17 ct17), sl17⟩) (c17 : PySem.W.codeIn K cd17 "_law_notes" = true) (k17 : PySem.W.keepIn K (.ref f17) = true)
    (a18 : PySem.W.nsIn K mainGlobals "_law_all_names" = some (some (.ref f18))) (l18 : K.lookup f18 = some ⟨oc18, od18, .func (PySem.W.fnOf "_law_all_names" "_law_all_names" (defArgs s__law_all_names) (defBody s__law_all_names) (defScope s__law_all_names) .none kV18 dc18 pm18 an18 cd18 ct18), sl18⟩) (c18 : PySem.W.codeIn K cd18 "_law_all_names" = true) (k18 : PySem.W.keepIn K (.ref f18) = true)
    (a19 : PySem.W.nsIn K mainGlobals "_law_bounds_right" = some (some (.ref f19))) (l19 : K.lookup f19 = some ⟨oc19, od19, .func (PySem.W.fnOf "_law_bounds_right" "_law_bounds_right" (defArgs s__law_bounds_right) (defBody s__law_bounds_right) (defScope s__law_bounds_right) .none kV19 dc19 pm19 an19 cd19 ct19), sl19⟩) (c19 : PySem.W.codeIn K cd19 "_law_bounds_right" = true) (k19 : PySem.W.keepIn K (.ref f19) = true)
    (a20 : PySem.W.nsIn K mainGlobals "_law_written" = some (some (.ref f20))) (l20 : K.lookup f20 = some ⟨oc20, od20, .func (PySem.W.fnOf "_law_written" "_law_written" (defArgs s__law_written) (defBody s__law_written) (defScope s__law_written) .none kV20 dc20 pm20 an20 cd20 ct20), sl20⟩) (c20 : PySem.W.codeIn K cd20 "_law_written" = true) (k20 : PySem.W.keepIn K (.ref f20) = true)
    (a21 : PySem.W.nsIn K mainGlobals "_law_bent" = some (some (.ref f21))) (l21 : K.lookup f21 = some ⟨oc21, od21, .func (PySem.W.fnOf "_law_bent" "_law_bent" (defArgs s__law_bent) (defBody s__law_bent) (defScope s__law_bent) .none kV21 dc21 pm21 an21 cd21 ct21), sl21⟩) (c21 : PySem.W.codeIn K cd21 "_law_bent" = true) (k21 : PySem.W.keepIn K (.ref f21) = true)
    (a22 : PySem.W.nsIn K mainGlobals "law" = some (some (.ref f22))) (l22 : K.lookup f22 = some ⟨oc22, od22, .func (PySem.W.fnOf "law" "law" (defArgs s_law) (defBody s_law) (defScope s_law) .none kV22 dc22 pm22 an22 cd22 ct22), sl22⟩) (c22 : PySem.W.codeIn K cd22 "law" = true) (k22 : PySem.W.keepIn K (.ref f22) = true)
    (z1 : PySem.W.nsIn K mainGlobals "abs" = some none)
    (z2 : PySem.W.nsIn K mainGlobals "all" = some none)
    (z3 : PySem.W.nsIn K mainGlobals "bool" = some none)
    (z4 : PySem.W.nsIn K mainGlobals "dict" = some none)
    (z5 : PySem.W.nsIn K mainGlobals "int" = some none)
    (z6 : PySem.W.nsIn K mainGlobals "isinstance" = some none)
    (z7 : PySem.W.nsIn K mainGlobals "len" = some none)
    (z8 : PySem.W.nsIn K mainGlobals "list" = some none)
    (z9 : PySem.W.nsIn K mainGlobals "max" = some none)
    (z10 : PySem.W.nsIn K mainGlobals "min" = some none)
    (z11 : PySem.W.nsIn K mainGlobals "range" = some none)
    (z12 : PySem.W.nsIn K mainGlobals "set" = some none)
    (z13 : PySem.W.nsIn K mainGlobals "sorted" = some none)
    (z14 : PySem.W.nsIn K mainGlobals "str" = some none)
    (z15 : PySem.W.nsIn K mainGlobals "tuple" = some none)
    (z16 : PySem.W.nsIn K mainGlobals "zip" = some none)
    (g1 : PySem.W.nsIn K mainGlobals "AIR" = some (some (.str "." t1)))
    (g2 : PySem.W.nsIn K mainGlobals "LONGEST" = some (some (.int 12 t2)))
    (g3 : PySem.W.nsIn K mainGlobals "SIGNS" = some (some (.str "abcdefghijklmnopqrstuvwxyz0123456789" t3)))
    (g4 : PySem.W.nsIn K mainGlobals "LETTERS" = some (some (.str "abcdefghijklmnopqrstuvwxyz" t4)))
    (g5 : PySem.W.nsIn K mainGlobals "WIDE" = some (some (.int 30 t5)))
    (g6 : PySem.W.nsIn K mainGlobals "NOTES" = some (some (.int 200 t6)))
    (g7 : PySem.W.nsIn K mainGlobals "CONTEXTS" = some (some (.int 60 t7))) :
    ∃ fd : FuncData, (∀ (s : Shared) (v : Value), BindsTo s fd ⟨[v], []⟩ [("script", v)]) ∧ ∀ base : Heap, K.In base → base.Ns mainGlobals mg → FnOk l.prog w K mg base CX0 24 fa fd ["script"] (spLaw K) := by
  have e := hfa.symm.trans (PySem.W.mg_of X NG a22)
  cases e
  have G : Glo mg := ⟨PySem.W.mg_none_of X NG z1, PySem.W.mg_none_of X NG z2, PySem.W.mg_none_of X NG z3, PySem.W.mg_none_of X NG z4, PySem.W.mg_none_of X NG z5, PySem.W.mg_none_of X NG z6, PySem.W.mg_none_of X NG z7, PySem.W.mg_none_of X NG z8, PySem.W.mg_none_of X NG z9, PySem.W.mg_none_of X NG z10, PySem.W.mg_none_of X NG z11, PySem.W.mg_none_of X NG z12, PySem.W.mg_none_of X NG z13, PySem.W.mg_none_of X NG z14, PySem.W.mg_none_of X NG z15, PySem.W.mg_none_of X NG z16, ⟨_, PySem.W.mg_of X NG g1⟩, ⟨_, PySem.W.mg_of X NG g2⟩, ⟨_, PySem.W.mg_of X NG g3⟩, ⟨_, PySem.W.mg_of X NG g4⟩, ⟨_, PySem.W.mg_of X NG g5⟩, ⟨_, PySem.W.mg_of X NG g6⟩, ⟨_, PySem.W.mg_of X NG g7⟩⟩
  have F1 := fun_mk (st := s__law_cup) l1 c1 k1
  have D2 : Dfn K mg "_law_roll" s__law_roll := ⟨_, _, fun_mk (st := s__law_roll) l2 c2 k2, PySem.W.mg_of X NG a2⟩
  have D3 : Dfn K mg "_law_some" s__law_some := ⟨_, _, fun_mk (st := s__law_some) l3 c3 k3, PySem.W.mg_of X NG a3⟩
  have D4 : Dfn K mg "_law_names" s__law_names := ⟨_, _, fun_mk (st := s__law_names) l4 c4 k4, PySem.W.mg_of X NG a4⟩
  have D5 : Dfn K mg "_law_drawing" s__law_drawing := ⟨_, _, fun_mk (st := s__law_drawing) l5 c5 k5, PySem.W.mg_of X NG a5⟩
  have D6 : Dfn K mg "_law_same" s__law_same := ⟨_, _, fun_mk (st := s__law_same) l6 c6 k6, PySem.W.mg_of X NG a6⟩
  have D7 : Dfn K mg "_law_wide" s__law_wide := ⟨_, _, fun_mk (st := s__law_wide) l7 c7 k7, PySem.W.mg_of X NG a7⟩
  have D8 : Dfn K mg "is_tuple_of" s_is_tuple_of := ⟨_, _, fun_mk (st := s_is_tuple_of) l8 c8 k8, PySem.W.mg_of X NG a8⟩
  have D9 : Dfn K mg "names_in" s_names_in := ⟨_, _, fun_mk (st := s_names_in) l9 c9 k9, PySem.W.mg_of X NG a9⟩
  have D10 : Dfn K mg "notes_in" s_notes_in := ⟨_, _, fun_mk (st := s_notes_in) l10 c10 k10, PySem.W.mg_of X NG a10⟩
  have D11 : Dfn K mg "fits_name" s_fits_name := ⟨_, _, fun_mk (st := s_fits_name) l11 c11 k11, PySem.W.mg_of X NG a11⟩
  have D12 : Dfn K mg "fits_drawing" s_fits_drawing := ⟨_, _, fun_mk (st := s_fits_drawing) l12 c12 k12, PySem.W.mg_of X NG a12⟩
  have D13 : Dfn K mg "is_drawing" s_is_drawing := ⟨_, _, fun_mk (st := s_is_drawing) l13 c13 k13, PySem.W.mg_of X NG a13⟩
  have D14 : Dfn K mg "need_drawing" s_need_drawing := ⟨_, _, fun_mk (st := s_need_drawing) l14 c14 k14, PySem.W.mg_of X NG a14⟩
  have D15 : Dfn K mg "names_of" s_names_of := ⟨_, _, fun_mk (st := s_names_of) l15 c15 k15, PySem.W.mg_of X NG a15⟩
  have D16 : Dfn K mg "drawn_notes" s_drawn_notes := ⟨_, _, fun_mk (st := s_drawn_notes) l16 c16 k16, PySem.W.mg_of X NG a16⟩
  have D17 : Dfn K mg "_law_notes" s__law_notes := ⟨_, _, fun_mk (st := s__law_notes) l17 c17 k17, PySem.W.mg_of X NG a17⟩
  have D18 : Dfn K mg "_law_all_names" s__law_all_names := ⟨_, _, fun_mk (st := s__law_all_names) l18 c18 k18, PySem.W.mg_of X NG a18⟩
  have D19 : Dfn K mg "_law_bounds_right" s__law_bounds_right := ⟨_, _, fun_mk (st := s__law_bounds_right) l19 c19 k19, PySem.W.mg_of X NG a19⟩
  have D20 : Dfn K mg "_law_written" s__law_written := ⟨_, _, fun_mk (st := s__law_written) l20 c20 k20, PySem.W.mg_of X NG a20⟩
  have D21 : Dfn K mg "_law_bent" s__law_bent := ⟨_, _, fun_mk (st := s__law_bent) l21 c21 k21, PySem.W.mg_of X NG a21⟩
  have F22 := fun_mk (st := s_law) l22 c22 k22
  refine ⟨PySem.W.fnOf "law" "law" (defArgs s_law) (defBody s_law) (defScope s_law) .none kV22 dc22 pm22 an22 cd22 ct22, fun s v => .of_eq rfl, fun base _ _ => ?_⟩
  have C__law_roll := ok__law_roll (P := l.prog) (w := w) (base := base) G  D2
  have C__law_some := ok__law_some (P := l.prog) (w := w) (base := base) G C__law_roll D3
  have C__law_names := ok__law_names (P := l.prog) (w := w) (base := base) G C__law_some D4
  have C__law_drawing := ok__law_drawing (P := l.prog) (w := w) (base := base) G C__law_some D5
  have C__law_same := ok__law_same (P := l.prog) (w := w) (base := base) G  D6
  have C__law_wide := ok__law_wide (P := l.prog) (w := w) (base := base) G  D7
  have C_is_tuple_of := ok_is_tuple_of (P := l.prog) (w := w) (base := base) G  D8
  have C_names_in := ok_names_in (P := l.prog) (w := w) (base := base) G  D9
  have C_notes_in := ok_notes_in (P := l.prog) (w := w) (base := base) G  D10
  have C_fits_name := ok_fits_name (P := l.prog) (w := w) (base := base) G  D11
  have C_fits_drawing := ok_fits_drawing (P := l.prog) (w := w) (base := base) G C_is_tuple_of C_names_in C_notes_in C_fits_name D12
  have C_is_drawing := ok_is_drawing (P := l.prog) (w := w) (base := base) G C_fits_drawing D13
  have C_need_drawing := ok_need_drawing (P := l.prog) (w := w) (base := base) G C_fits_drawing D14
  have C_names_of := ok_names_of (P := l.prog) (w := w) (base := base) G C_need_drawing C_names_in D15
  have C_drawn_notes := ok_drawn_notes (P := l.prog) (w := w) (base := base) G C_need_drawing C_notes_in D16
  have C__law_notes := ok__law_notes (P := l.prog) (w := w) (base := base) G  D17
  have C__law_all_names := ok__law_all_names (P := l.prog) (w := w) (base := base) G  D18
  have C__law_bounds_right := ok__law_bounds_right (P := l.prog) (w := w) (base := base) G C__law_same C__law_some C__law_wide C_is_drawing C_names_of C_drawn_notes C__law_notes C__law_all_names D19
  have C__law_written := ok__law_written (P := l.prog) (w := w) (base := base) G C__law_some C__law_same C_drawn_notes C_names_of D20
  have C__law_bent := ok__law_bent (P := l.prog) (w := w) (base := base) G C__law_roll D21
  exact ok_law math G C__law_names C__law_drawing C__law_bounds_right C__law_written C__law_same C__law_roll C_is_drawing C_names_of C_drawn_notes C__law_notes C__law_bent C__law_all_names F1 (PySem.W.mg_of X NG a1) F22
end K46
end
section
namespace K46
open PySem L2 DL
theorem roll (c : Cup) (hc : CupOk c) (m : Int) (h0 : 0 < m) (h1 : m < 1073741824) : ∃ r c', g__law_roll [.cup, .int m] c = some (.int r, c') ∧ 0 ≤ r ∧ r < m ∧ CupOk c' := by
  obtain ⟨a, b⟩ := c
  obtain ⟨k1, k2, k3⟩ := hc
  have k1 : 0 ≤ a := k1
  have k2 : 0 ≤ b := k2
  have k3 : b < 5000000000 := k3
  by_cases ha : 0 < a
  · refine ⟨a % m, (a / m, b), ?_, Int.emod_nonneg _ (by omega), Int.emod_lt_of_pos _ h0, ⟨Int.ediv_nonneg k1 (by omega), k2, k3⟩⟩
    simp [g__law_roll, b__law_roll, fD, startD, sSeq, sNext, sIf, sSet, sRet, sRetN, sDrop, sDropM, sPut, sPar2, sPar3, sAsg, sCup0, sCup1, sFrz, frz, sBreak, sCont, dTest, dBin, dChain, dVar, dVarP, dC, dCons, dNil, dTup, dLst, dAnd, dOr, dNot, dBl, dIf, dNeg, dCup0, dCup1, dBi, dBn, dCall, dIsi, isiD, opGt, opLt, opLe, opGe, opAdd, opSub, opMult, opFdiv, opMod, opPow, biInt, biStr, biLen, biList, biTup, biMax2, biMin2, bName, mApp, List.getElem?_cons_succ, List.getElem?_cons_zero, List.set_cons_succ, List.set_cons_zero, List.length_cons, List.length_nil, List.map_cons, List.map_nil, List.cons_append, List.nil_append, List.replicate_succ, List.replicate_zero, ha, h0, h1]
  · have e1 := Int.emod_nonneg (b * 30937 + 7933) (show (2147482949 : Int) ≠ 0 by decide)
    have e2 := Int.emod_lt_of_pos (b * 30937 + 7933) (show (0 : Int) < 2147482949 by decide)
    have f1 : fits64 30937 = true := by decide
    have f : fits64 ((b * 30937 + 7933) % 2147482949) = true := decide_eq_true (by omega)
    have key : g__law_roll [.cup, .int m] (a, b) = some (.int ((((b * 30937 + 7933) % 2147482949) * ((b * 30937 + 7933) % 2147482949 + 233)) % 2147482937 / 811 % m), (a, (b * 30937 + 7933) % 2147482949)) := by
      simp [g__law_roll, b__law_roll, fD, startD, sSeq, sNext, sIf, sSet, sRet, sRetN, sDrop, sDropM, sPut, sPar2, sPar3, sAsg, sCup0, sCup1, sFrz, frz, sBreak, sCont, dTest, dBin, dChain, dVar, dVarP, dC, dCons, dNil, dTup, dLst, dAnd, dOr, dNot, dBl, dIf, dNeg, dCup0, dCup1, dBi, dBn, dCall, dIsi, isiD, opGt, opLt, opLe, opGe, opAdd, opSub, opMult, opFdiv, opMod, opPow, biInt, biStr, biLen, biList, biTup, biMax2, biMin2, bName, mApp, List.getElem?_cons_succ, List.getElem?_cons_zero, List.set_cons_succ, List.set_cons_zero, List.length_cons, List.length_nil, List.map_cons, List.map_nil, List.cons_append, List.nil_append, List.replicate_succ, List.replicate_zero, ha, h0, f1, f]
    refine ⟨_, _, key, Int.emod_nonneg _ (by omega), Int.emod_lt_of_pos _ h0, ⟨k1, e1, ?_⟩⟩
    show (b * 30937 + 7933) % 2147482949 < _
    omega
/-- a draw from a list -/
theorem some_of (c : Cup) (hc : CupOk c) (ds : List D) (h0 : 0 < ds.length) (h1 : ds.length ≤ lim) : ∃ d ∈ ds, ∃ c', g__law_some [.cup, .lst ds] c = some (d, c') ∧ CupOk c' := by
  obtain ⟨r, c', e, h2, h3, hc'⟩ := roll c hc ds.length (by omega) (by rw [lim_eq] at h1; omega)
  have hr : r.toNat < ds.length := by omega
  refine ⟨ds[r.toNat], List.getElem_mem hr, c', ?_, hc'⟩
  have e2 : atI ds r = some ds[r.toNat] := by
    have h := atI_nat (List.getElem?_eq_getElem hr)
    rwa [show ((r.toNat : Nat) : Int) = r by omega] at h
  simp [g__law_some, b__law_some, fD, startD, sSeq, sNext, sIf, sSet, sRet, sRetN, sDrop, sDropM, sPut, sPar2, sPar3, sAsg, sCup0, sCup1, sFrz, frz, sBreak, sCont, dTest, dBin, dChain, dVar, dVarP, dC, dCons, dNil, dTup, dLst, dAnd, dOr, dNot, dBl, dIf, dNeg, dCup0, dCup1, dBi, dBn, dCall, dIsi, isiD, opGt, opLt, opLe, opGe, opAdd, opSub, opMult, opFdiv, opMod, opPow, biInt, biStr, biLen, biList, biTup, biMax2, biMin2, bName, mApp, List.getElem?_cons_succ, List.getElem?_cons_zero, List.set_cons_succ, List.set_cons_zero, List.length_cons, List.length_nil, List.map_cons, List.map_nil, List.cons_append, List.nil_append, List.replicate_succ, List.replicate_zero, e, opIx, e2]
theorem name_str (s : Str) (hl : s.length ≤ lim) (hs : PyData.strOk s = true) (c : Cup) : g_fits_name [.str s] c = some (.bl (fitsS s), c) := by
  by_cases h1 : 1 ≤ (s.length : Int)
  · by_cases h2 : (s.length : Int) ≤ 12
    · have hall : ∀ ρ : Rho, ρ[0]? = some (some (false, .str s)) → ρ.length = 2 → dBi biAll (dCons (dLc [1] (dItems (dVar 0)) (bName 1) dYes (dBin opIn (dVarP 1) (dC gc_SIGNS))) dNil) ρ c = some (.bl (s.cps.toList.all fun c => decide (c ∈ SIG)), c) := fun ρ e0 el => by
        have hi : dItems (dVar 0) ρ c = some (signs s, c) := by simp [dItems, dVar, e0, itemsD]
        have := all_lc (vs := [1]) (bd := bName 1) (elt := dBin opIn (dVarP 1) (dC gc_SIGNS)) (fun d => match d with | .str t => strIn t "abcdefghijklmnopqrstuvwxyz0123456789" | _ => false) hi (by
          unfold signs
          rw [List.length_map, Array.length_toList]
          exact hl) (fun d hd => by
            unfold signs at hd
            obtain ⟨k, _, rfl⟩ := List.mem_map.mp hd
            refine ⟨_, (by unfold bName; rw [if_pos (by rw [wipeD_length]; omega)]), fun c => ?_⟩
            have : ((wipeD ρ [1]).set 1 (some (false, D.str ⟨#[k]⟩)))[1]? = some (some (false, D.str ⟨#[k]⟩)) := List.getElem?_set_self (by rw [wipeD_length]; omega)
            simp [dBin, dVarP, this, dC, opIn, inD, gc_SIGNS])
        rw [this]
        congr 3
        unfold signs
        rw [List.all_map]
        congr 1
        funext k
        show strIn ⟨#[k]⟩ _ = _
        rw [strIn_one]
        rfl
      have hne : s.cps.toList ≠ [] := fun e => by
        have : s.length = s.cps.toList.length := by rw [Array.length_toList]; rfl
        rw [e] at this
        simp at this
        omega
      obtain ⟨k, r, hk⟩ := List.exists_cons_of_ne_nil hne
      have hat : atI s.cps.toList 0 = some k := atI_nat (j := 0) (by rw [hk]; rfl)
      have hin : strIn ⟨#[k]⟩ ("abcdefghijklmnopqrstuvwxyz" : Str) = decide (k ∈ LET) := strIn_one k _
      have hf : fitsS s = (decide (k ∈ LET) && s.cps.toList.all fun c => decide (c ∈ SIG)) := by
        unfold fitsS
        have : 1 ≤ s.length ∧ s.length ≤ 12 := by omega
        simp [this, hk]
      have hh := hall [some (false, .str s), none] rfl rfl
      rw [hf]
      unfold g_fits_name b_fits_name
      generalize dBi biAll (dCons (dLc [1] (dItems (dVar 0)) (bName 1) dYes (dBin opIn (dVarP 1) (dC gc_SIGNS))) dNil) = X at hh
      cases hk2 : decide (k ∈ LET) <;> simp [fD, startD, sSeq, sNext, sIf, sSet, sRet, sRetN, sDrop, sDropM, sPut, sPar2, sPar3, sAsg, sCup0, sCup1, sFrz, frz, sBreak, sCont, dTest, dBin, dChain, dVar, dVarP, dC, dCons, dNil, dTup, dLst, dAnd, dOr, dNot, dBl, dIf, dNeg, dCup0, dCup1, dBi, dBn, dCall, dIsi, isiD, opGt, opLt, opLe, opGe, opAdd, opSub, opMult, opFdiv, opMod, opPow, biInt, biStr, biLen, biList, biTup, biMax2, biMin2, bName, mApp, List.getElem?_cons_succ, List.getElem?_cons_zero, List.set_cons_succ, List.set_cons_zero, List.length_cons, List.length_nil, List.map_cons, List.map_nil, List.cons_append, List.nil_append, List.replicate_succ, List.replicate_zero, gc_LONGEST, gc_LETTERS, hl, h1, h2, opIx, hat, opIn, inD, hin, hk2, hh]
    · have hf : fitsS s = false := by
        unfold fitsS
        have : ¬ (1 ≤ s.length ∧ s.length ≤ 12) := by omega
        simp [this]
      rw [hf]
      simp [g_fits_name, b_fits_name, fD, startD, sSeq, sNext, sIf, sSet, sRet, sRetN, sDrop, sDropM, sPut, sPar2, sPar3, sAsg, sCup0, sCup1, sFrz, frz, sBreak, sCont, dTest, dBin, dChain, dVar, dVarP, dC, dCons, dNil, dTup, dLst, dAnd, dOr, dNot, dBl, dIf, dNeg, dCup0, dCup1, dBi, dBn, dCall, dIsi, isiD, opGt, opLt, opLe, opGe, opAdd, opSub, opMult, opFdiv, opMod, opPow, biInt, biStr, biLen, biList, biTup, biMax2, biMin2, bName, mApp, List.getElem?_cons_succ, List.getElem?_cons_zero, List.set_cons_succ, List.set_cons_zero, List.length_cons, List.length_nil, List.map_cons, List.map_nil, List.cons_append, List.nil_append, List.replicate_succ, List.replicate_zero, gc_LONGEST, hl, h1, h2]
  · have hf : fitsS s = false := by
      unfold fitsS
      have : ¬ (1 ≤ s.length ∧ s.length ≤ 12) := by omega
      simp [this]
    rw [hf]
    simp [g_fits_name, b_fits_name, fD, startD, sSeq, sNext, sIf, sSet, sRet, sRetN, sDrop, sDropM, sPut, sPar2, sPar3, sAsg, sCup0, sCup1, sFrz, frz, sBreak, sCont, dTest, dBin, dChain, dVar, dVarP, dC, dCons, dNil, dTup, dLst, dAnd, dOr, dNot, dBl, dIf, dNeg, dCup0, dCup1, dBi, dBn, dCall, dIsi, isiD, opGt, opLt, opLe, opGe, opAdd, opSub, opMult, opFdiv, opMod, opPow, biInt, biStr, biLen, biList, biTup, biMax2, biMin2, bName, mApp, List.getElem?_cons_succ, List.getElem?_cons_zero, List.set_cons_succ, List.set_cons_zero, List.length_cons, List.length_nil, List.map_cons, List.map_nil, List.cons_append, List.nil_append, List.replicate_succ, List.replicate_zero, gc_LONGEST, hl, h1]
theorem name_no (d : D) (h : isiD .str d = false) (hc : d ≠ .cup) (c : Cup) : g_fits_name [d] c = some (.bl false, c) := by
  cases d <;> first | exact absurd rfl hc | (simp [isiD] at h; done) | simp [g_fits_name, b_fits_name, fD, startD, sSeq, sNext, sIf, sSet, sRet, sRetN, sDrop, sDropM, sPut, sPar2, sPar3, sAsg, sCup0, sCup1, sFrz, frz, sBreak, sCont, dTest, dBin, dChain, dVar, dVarP, dC, dCons, dNil, dTup, dLst, dAnd, dOr, dNot, dBl, dIf, dNeg, dCup0, dCup1, dBi, dBn, dCall, dIsi, isiD, opGt, opLt, opLe, opGe, opAdd, opSub, opMult, opFdiv, opMod, opPow, biInt, biStr, biLen, biList, biTup, biMax2, biMin2, bName, mApp, List.getElem?_cons_succ, List.getElem?_cons_zero, List.set_cons_succ, List.set_cons_zero, List.length_cons, List.length_nil, List.map_cons, List.map_nil, List.cons_append, List.nil_append, List.replicate_succ, List.replicate_zero]
def tupIn (d : D) (a b : Int) : Bool := match d with
  | .tup ds => decide (a ≤ ds.length) && decide ((ds.length : Int) ≤ b)
  | _ => false
theorem tup_of (d : D) (a b : Int) (hc : d ≠ .cup) (c : Cup) : g_is_tuple_of [d, .int a, .int b] c = some (.bl (tupIn d a b), c) := by
  cases d <;> first | exact absurd rfl hc | skip
  case tup ds =>
    by_cases h1 : a ≤ (ds.length : Int) <;> simp [g_is_tuple_of, b_is_tuple_of, fD, startD, sSeq, sNext, sIf, sSet, sRet, sRetN, sDrop, sDropM, sPut, sPar2, sPar3, sAsg, sCup0, sCup1, sFrz, frz, sBreak, sCont, dTest, dBin, dChain, dVar, dVarP, dC, dCons, dNil, dTup, dLst, dAnd, dOr, dNot, dBl, dIf, dNeg, dCup0, dCup1, dBi, dBn, dCall, dIsi, isiD, opGt, opLt, opLe, opGe, opAdd, opSub, opMult, opFdiv, opMod, opPow, biInt, biStr, biLen, biList, biTup, biMax2, biMin2, bName, mApp, List.getElem?_cons_succ, List.getElem?_cons_zero, List.set_cons_succ, List.set_cons_zero, List.length_cons, List.length_nil, List.map_cons, List.map_nil, List.cons_append, List.nil_append, List.replicate_succ, List.replicate_zero, tupIn, h1]
  all_goals simp [g_is_tuple_of, b_is_tuple_of, fD, startD, sSeq, sNext, sIf, sSet, sRet, sRetN, sDrop, sDropM, sPut, sPar2, sPar3, sAsg, sCup0, sCup1, sFrz, frz, sBreak, sCont, dTest, dBin, dChain, dVar, dVarP, dC, dCons, dNil, dTup, dLst, dAnd, dOr, dNot, dBl, dIf, dNeg, dCup0, dCup1, dBi, dBn, dCall, dIsi, isiD, opGt, opLt, opLe, opGe, opAdd, opSub, opMult, opFdiv, opMod, opPow, biInt, biStr, biLen, biList, biTup, biMax2, biMin2, bName, mApp, List.getElem?_cons_succ, List.getElem?_cons_zero, List.set_cons_succ, List.set_cons_zero, List.length_cons, List.length_nil, List.map_cons, List.map_nil, List.cons_append, List.nil_append, List.replicate_succ, List.replicate_zero, tupIn]
/-! names of a drawing -/
def okT : D → Prop
  | .str s => PyData.strOk s = true ∧ s.length ≤ lim
  | _ => False
theorem okT_S {d : D} (h : okT d) : isS d := by cases d <;> first | exact h.elim | trivial
def notAir : D → Bool
  | .str s => !(s == ".")
  | _ => true
def rowKeys (cells : List D) : List D := addsK [] (cells.filter notAir)
def cellsOf : D → List D
  | .tup ds => ds
  | _ => []
def stepK (ks : List D) (row : D) : List D := addsK ks (rowKeys (cellsOf row))
def namesK (rows : List D) : List D := rows.foldl stepK []
theorem rowKeys_ok {cells : List D} (h : ∀ d ∈ cells, okT d) : ∀ k ∈ rowKeys cells, okT k := addsK_all (fun _ z => by cases z) fun d hd => h d (List.mem_filter.mp hd).1
theorem rowKeys_len (cells : List D) : (rowKeys cells).length ≤ cells.length := by
  have h1 := addsK_len (cells.filter notAir) []
  have h2 := List.length_filter_le notAir cells
  unfold rowKeys
  simp only [List.length_nil, Nat.zero_add] at h1
  omega
theorem air_ok : PyData.strOk "." = true := by decide +kernel
theorem ne_air (d : D) (h : okT d) : opNe d (.str ".") = some (.bl (notAir d)) := by
  cases d <;> first | exact h.elim | skip
  unfold opNe
  rw [okS, okS, h.1, air_ok]
  simp only [D.eqv, notAir, Bool.and_self, if_true]
theorem kPuts_S {ss : List D} {ks : List D} (h1 : ∀ k ∈ ks, okT k) (h2 : ∀ d ∈ ss, okT d) (hl : ks.length + ss.length ≤ lim) : kPuts (.dic ks (trues ks.length)) ss (trues ss.length) = some (.dic (addsK ks ss) (trues (addsK ks ss).length)) :=
  kPuts_true fitS (fun k hk => okT_S (h1 k hk)) (fun k hk => okT_S (h2 k hk)) hl
theorem map_true (l : List D) : l.map (fun _ => D.bl true) = trues l.length := by
  unfold trues
  rw [List.map_const']
/-- {cell: True for cell in row if cell != '.'} -/
theorem row_dc {cells : List D} (h : ∀ d ∈ cells, okT d) (hl : cells.length ≤ 40) (x y : Option (Bool × D)) (c : Cup) :
    dDc [3] (dItems (dVar 2)) (bName 3) (dTest (dBin opNe (dVarP 3) (dC gc_AIR))) (dVar 3) (dC (.bl true)) [x, y, some (false, .tup cells), none] c = some (.dic (rowKeys cells) (trues (rowKeys cells).length), c) := by
  unfold dDc
  have hi : dItems (dVar 2) [x, y, some (false, .tup cells), none] c = some (cells, c) := by simp [dItems, dVar, itemsD]
  rw [hi]
  show dcGo _ _ _ _ _ cells [] [] c = _
  rw [dc_pure notAir id (fun _ => .bl true) (fun d hd => ⟨_, (by simp [wipeD, bName]; rfl), fun c => ?_, fun _ c => ⟨?_, rfl⟩⟩)]
  · rw [List.map_id, map_true]
    have := kPuts_S (ks := []) (ss := cells.filter notAir) (fun _ z => by cases z) (fun d hd => h d (List.mem_filter.mp hd).1) (by have := List.length_filter_le notAir cells; rw [lim_eq]; simp only [List.length_nil]; omega)
    show (kPuts (.dic [] []) _ _).map _ = _
    rw [show D.dic [] [] = .dic [] (trues ([] : List D).length) from rfl, this]
    rfl
  · simp [dTest, dBin, dVarP, dC, gc_AIR, ne_air d (h d hd)]
  · simp [dVar]
/-- a row that is tuples of texts -/
def okRow (row : D) : Prop := ∃ cells, row = .tup cells ∧ (∀ d ∈ cells, okT d) ∧ cells.length ≤ 40
theorem stepK_ok {ks : List D} {row : D} (h : okRow row) (hk : ∀ k ∈ ks, okT k) : (∀ k ∈ stepK ks row, okT k) ∧ (stepK ks row).length ≤ ks.length + 40 := by
  obtain ⟨cells, rfl, h1, h2⟩ := h
  refine ⟨addsK_all hk (rowKeys_ok h1), ?_⟩
  have h3 := addsK_len (rowKeys cells) ks
  have h4 := rowKeys_len cells
  show (addsK ks (rowKeys cells)).length ≤ _
  omega
theorem skeys {ks : List D} (h : ∀ k ∈ ks, okT k) : (ks.all fun d => (skey d).isSome) = true := by
  rw [List.all_eq_true]
  intro k hk
  have := h k hk
  cases k <;> first | exact this.elim | rfl
/-- found.update(what the row gives) -/
theorem upd_row {ks : List D} {cells : List D} (hk : ∀ k ∈ ks, okT k) (hl : ks.length ≤ 4000) (h : ∀ d ∈ cells, okT d) (hc : cells.length ≤ 40) {f : Ev} {a x : Option (Bool × D)} {y : List (Option (Bool × D))} {c : Cup} (hf : f (a :: some (true, .dic ks (trues ks.length)) :: y) c = some (.dic (rowKeys cells) (trues (rowKeys cells).length), c)) :
    sDropM (mUpd 1 f) (a :: some (true, .dic ks (trues ks.length)) :: y) c = some (.nx (a :: some (true, .dic (stepK ks (.tup cells)) (trues (stepK ks (.tup cells)).length)) :: y) c) := by
  have h3 := rowKeys_len cells
  have hp := kPuts_S hk (rowKeys_ok h) (by rw [lim_eq]; omega)
  have l1 : ks.length ≤ lim := by rw [lim_eq]; omega
  have l2 : (rowKeys cells).length ≤ lim := by rw [lim_eq]; omega
  unfold sDropM mUpd
  rw [hf]
  simp only [List.getElem?_cons_succ, List.getElem?_cons_zero, skeys hk, skeys (rowKeys_ok h), Bool.and_self, if_true, l1, l2, and_self, hp, List.set_cons_succ, List.set_cons_zero]
  rfl
/-- the loop over the rows, whatever gives the row's dict -/
theorem rows_loop {rows : List D} (h : ∀ r ∈ rows, okRow r) (hl : rows.length ≤ 40) {f : Ev} (c : Cup) (a : Option (Bool × D))
    (hf : ∀ (cells : List D) (b : Option (Bool × D)), (∀ d ∈ cells, okT d) → cells.length ≤ 40 → f [a, b, some (false, .tup cells), none] c = some (.dic (rowKeys cells) (trues (rowKeys cells).length), c)) (x : Option (Bool × D)) :
    ∃ y, forGo (bName 2) (sSeq (sDropM (mUpd 1 f)) sNext) rows [a, some (true, .dic [] []), x, none] c = some (.nx [a, some (true, .dic (namesK rows) (trues (namesK rows).length)), y, none] c) ∧ (∀ k ∈ namesK rows, okT k) ∧ (namesK rows).length ≤ 1600 := by
  obtain ⟨ρ', c', h1, y, e1, e2, h2, h3⟩ := for_inv (n := 0) (bd := bName 2) (F := sSeq (sDropM (mUpd 1 f)) sNext) (ds := rows) (ρ := [a, some (true, .dic [] []), x, none]) (c := c)
    (fun i ρ c' => ∃ y, ρ = [a, some (true, .dic ((rows.take i).foldl stepK []) (trues ((rows.take i).foldl stepK []).length)), y, none] ∧ c' = c ∧ (∀ k ∈ (rows.take i).foldl stepK [], okT k) ∧ ((rows.take i).foldl stepK []).length ≤ 40 * i)
    (fun i d ρ c' hd ⟨y, e1, e2, h2, h3⟩ => by
      subst e1 e2
      simp only [Nat.zero_add] at h2 h3 ⊢
      have hi : i < rows.length := (List.getElem?_eq_some_iff.mp hd).1
      have hmem := List.mem_of_getElem? hd
      obtain ⟨cells, rfl, k1, k2⟩ := h d hmem
      have ht : (rows.take (i + 1)).foldl stepK [] = stepK ((rows.take i).foldl stepK []) (.tup cells) := by
        rw [List.take_add_one, hd]
        simp [List.foldl_append]
      obtain ⟨g1, g2⟩ := stepK_ok ⟨cells, rfl, k1, k2⟩ h2
      refine ⟨[a, some (true, .dic ((rows.take i).foldl stepK []) (trues ((rows.take i).foldl stepK []).length)), some (false, .tup cells), none], _, c', by simp [bName], ?_, some (false, .tup cells), rfl, rfl, ?_, ?_⟩
      rotate_left
      · rw [ht]; exact g1
      · rw [ht]; omega
      · unfold sSeq
        rw [upd_row (x := none) h2 (by omega) k1 k2 (hf cells _ k1 k2), ht]
        rfl)
    ⟨x, rfl, rfl, (fun _ z => by cases z), Nat.le_refl _⟩
  simp only [Nat.zero_add, List.take_length] at e1 h2 h3
  subst e1 e2
  exact ⟨y, h1, h2, by show (rows.foldl stepK []).length ≤ _; omega⟩
theorem sortOk_names {ks : List D} (h : ∀ k ∈ ks, okT k) (hl : ks.length ≤ lim) : sortOk ks = true := by
  unfold sortOk
  have e1 : D.okEqs 60 ks = true := by
    clear hl
    induction ks with
    | nil => rfl
    | cons k ks ih =>
      simp only [D.okEqs, Bool.and_eq_true]
      refine ⟨?_, ih fun d hd => h d (List.mem_cons_of_mem _ hd)⟩
      have := h k List.mem_cons_self
      cases k <;> first | exact this.elim | (rw [okS]; exact this.1)
  have e2 : (ks.all fun d => ks.all fun e => PySem.W.alike d.toData e.toData) = true := by
    rw [List.all_eq_true]
    intro d hd
    rw [List.all_eq_true]
    intro e he
    have h1 := h d hd
    have h2 := h e he
    cases d <;> first | exact h1.elim | skip
    cases e <;> first | exact h2.elim | skip
    simp only [D.toData, PySem.W.alike]
  have e3 : ks.all notTN = true := by
    rw [List.all_eq_true]
    intro d hd
    have h1 := h d hd
    cases d <;> first | exact h1.elim | rfl
  rw [e1, e2, e3, decide_eq_true hl]
  simp
theorem names_in {rows : List D} (h : ∀ r ∈ rows, okRow r) (hl : rows.length ≤ 40) (c : Cup) : g_names_in [.tup rows] c = some (.lst (sortD (namesK rows)), c) := by
  obtain ⟨y, h1, h2, h3⟩ := rows_loop h hl c (some (false, .tup rows)) (fun cells b k1 k2 => row_dc k1 k2 _ b c) none
  have h4 := sortOk_names h2 (by rw [lim_eq]; omega)
  unfold g_names_in b_names_in
  generalize sSeq (sDropM (mUpd 1 (dDc [3] (dItems (dVar 2)) (bName 3) (dTest (dBin opNe (dVarP 3) (dC gc_AIR))) (dVar 3) (dC (.bl true))))) sNext = F at h1
  simp [fD, startD, sSeq, sNext, sIf, sSet, sRet, sRetN, sDrop, sDropM, sPut, sPar2, sPar3, sAsg, sCup0, sCup1, sFrz, frz, sBreak, sCont, dTest, dBin, dChain, dVar, dVarP, dC, dCons, dNil, dTup, dLst, dAnd, dOr, dNot, dBl, dIf, dNeg, dCup0, dCup1, dBi, dBn, dCall, dIsi, isiD, opGt, opLt, opLe, opGe, opAdd, opSub, opMult, opFdiv, opMod, opPow, biInt, biStr, biLen, biList, biTup, biMax2, biMin2, bName, mApp, List.getElem?_cons_succ, List.getElem?_cons_zero, List.set_cons_succ, List.set_cons_zero, List.length_cons, List.length_nil, List.map_cons, List.map_nil, List.cons_append, List.nil_append, List.replicate_succ, List.replicate_zero, dDic0, sFor, dItems, itemsD, h1, biSorted, h4]
/-! the law's own names -/
theorem pairs_true : ∀ {ds : List D}, (∀ d ∈ ds, okT d) → pairsD (ds.map fun d => .tup [d, .bl true]) = some (ds, trues ds.length)
  | [], _ => rfl
  | d :: ds, h => by
    rw [List.map_cons]
    unfold pairsD
    rw [pairs_true fun d hd => h d (List.mem_cons_of_mem _ hd)]
    have := h d List.mem_cons_self
    cases d <;> first | exact this.elim | rfl
theorem row_dict {cells : List D} (h : ∀ d ∈ cells, okT d) (hl : cells.length ≤ 40) (x y : Option (Bool × D)) (c : Cup) :
    dDict (dCons (dLc [3] (dItems (dVar 2)) (bName 3) (dTest (dBin opNe (dVarP 3) (dC (.str ".")))) (dTup (dCons (dVar 3) (dCons (dC (.bl true)) dNil)))) dNil) [x, y, some (false, .tup cells), none] c = some (.dic (rowKeys cells) (trues (rowKeys cells).length), c) := by
  have hi : dItems (dVar 2) [x, y, some (false, .tup cells), none] c = some (cells, c) := by simp [dItems, dVar, itemsD]
  have e := lc_pure (vs := [3]) (bd := bName 3) (test := dTest (dBin opNe (dVarP 3) (dC (.str ".")))) (elt := dTup (dCons (dVar 3) (dCons (dC (.bl true)) dNil))) notAir (fun d => .tup [d, .bl true]) hi (by rw [lim_eq]; omega) (fun d hd => ⟨_, (by simp [wipeD, bName]; rfl), fun c => by simp [dTest, dBin, dVarP, dC, ne_air d (h d hd)], fun _ c => by simp [dTup, dCons, dVar, dC, dNil]⟩)
  have hp := kPuts_S (ks := []) (ss := cells.filter notAir) (fun _ z => by cases z) (fun d hd => h d (List.mem_filter.mp hd).1) (by have := List.length_filter_le notAir cells; rw [lim_eq]; simp only [List.length_nil]; omega)
  have hf := List.length_filter_le notAir cells
  generalize dLc [3] (dItems (dVar 2)) (bName 3) (dTest (dBin opNe (dVarP 3) (dC (.str ".")))) (dTup (dCons (dVar 3) (dCons (dC (.bl true)) dNil))) = X at e ⊢
  unfold dDict dBi dCons
  rw [e]
  have l1 : ((cells.filter notAir).map fun d => D.tup [d, .bl true]).length ≤ lim := by rw [List.length_map, lim_eq]; omega
  have hp' : kPuts (.dic [] []) (cells.filter notAir) (trues (cells.filter notAir).length) = _ := hp
  simp only [dNil, biDict, l1, if_true, pairs_true (fun d hd => h d (List.mem_filter.mp hd).1), hp']
  rfl
theorem all_names {rows : List D} (h : ∀ r ∈ rows, okRow r) (hl : rows.length ≤ 40) (c : Cup) : g__law_all_names [.tup rows] c = some (.lst (sortD (namesK rows)), c) := by
  obtain ⟨y, h1, h2, h3⟩ := rows_loop h hl c (some (false, .tup rows)) (fun cells b k1 k2 => row_dict k1 k2 _ b c) none
  have h4 := sortOk_names h2 (by rw [lim_eq]; omega)
  unfold g__law_all_names b__law_all_names
  generalize sSeq (sDropM (mUpd 1 (dDict (dCons (dLc [3] (dItems (dVar 2)) (bName 3) (dTest (dBin opNe (dVarP 3) (dC (.str ".")))) (dTup (dCons (dVar 3) (dCons (dC (.bl true)) dNil)))) dNil)))) sNext = F at h1
  simp [fD, startD, sSeq, sNext, sIf, sSet, sRet, sRetN, sDrop, sDropM, sPut, sPar2, sPar3, sAsg, sCup0, sCup1, sFrz, frz, sBreak, sCont, dTest, dBin, dChain, dVar, dVarP, dC, dCons, dNil, dTup, dLst, dAnd, dOr, dNot, dBl, dIf, dNeg, dCup0, dCup1, dBi, dBn, dCall, dIsi, isiD, opGt, opLt, opLe, opGe, opAdd, opSub, opMult, opFdiv, opMod, opPow, biInt, biStr, biLen, biList, biTup, biMax2, biMin2, bName, mApp, List.getElem?_cons_succ, List.getElem?_cons_zero, List.set_cons_succ, List.set_cons_zero, List.length_cons, List.length_nil, List.map_cons, List.map_nil, List.cons_append, List.nil_append, List.replicate_succ, List.replicate_zero, dDic0, sFor, dItems, itemsD, h1, biSorted, h4]
/-! notes of a drawing -/
def noteK (a b : D) : D := .tup [.str "over", a, b]
def isNote (d : D) : Prop := ∃ a b, okT a ∧ okT b ∧ d = noteK a b
def condN (a b : D) : Bool := notAir a && notAir b && !(D.eqv a b)
def nStep (ks : List D) (d : D) : List D := match d with
  | .tup [a, b] => if condN a b then addK ks (noteK a b) else ks
  | _ => ks
def oStep (ks : List D) (d : D) : List D := match d with
  | .tup [r, u] => (zipD (cellsOf r) (cellsOf u)).foldl nStep ks
  | _ => ks
def notesK (rows : List D) : List D := (zipD rows (rows.drop 1)).foldl oStep []
theorem fitN (ks : List D) (d : D) (h : ∀ k ∈ ks, isNote k) (hd : isNote d) : keyFits ks d = true := by
  obtain ⟨a, b, ha, hb, rfl⟩ := hd
  have h1 : ks.all D.isTup = true := by
    rw [List.all_eq_true]
    intro k hk
    obtain ⟨_, _, _, _, rfl⟩ := h k hk
    rfl
  cases a <;> first | exact ha.elim | skip
  cases b <;> first | exact hb.elim | skip
  simp only [keyFits, noteK, h1, D.key, D.keys, Option.map_some, Bool.true_and]
  rfl
theorem okEq_T {d : D} (h : okT d) (n : Nat) : D.okEq n d = true := by
  cases d <;> first | exact h.elim | (rw [okS]; exact h.1)
theorem ne_T {a b : D} (ha : okT a) (hb : okT b) : opNe a b = some (.bl (!D.eqv a b)) := by
  unfold opNe
  rw [okEq_T ha, okEq_T hb]
  rfl
theorem notIn_air {a b : D} (ha : okT a) (hb : okT b) : opNotIn (.str ".") (.tup [a, b]) = some (.bl (notAir a && notAir b)) := by
  have h1 : D.okEq 60 (.tup [a, b]) = true := by simp only [D.okEq, D.okEqs, okEq_T ha, okEq_T hb, Bool.and_self]
  show ((if (D.okEq 60 (.str ".") && D.okEq 60 (.tup [a, b])) = true then some ([a, b].any fun z => D.eqv z (.str ".")) else none).map fun b => D.bl (!b)) = _
  rw [h1, okS, air_ok]
  cases a <;> first | exact ha.elim | skip
  cases b <;> first | exact hb.elim | skip
  simp only [Bool.and_self, if_true, Option.map_some, List.any_cons, List.any_nil, D.eqv, notAir, Bool.or_false, Bool.not_or]
theorem nStep_ok {ks : List D} {a b : D} (hk : ∀ k ∈ ks, isNote k) (ha : okT a) (hb : okT b) : (∀ k ∈ nStep ks (.tup [a, b]), isNote k) ∧ (nStep ks (.tup [a, b])).length ≤ ks.length + 1 := by
  show (∀ k ∈ (if condN a b then addK ks (noteK a b) else ks), isNote k) ∧ (if condN a b then addK ks (noteK a b) else ks).length ≤ ks.length + 1
  split
  · exact ⟨addK_all hk ⟨a, b, ha, hb, rfl⟩, addK_len _ _⟩
  · exact ⟨hk, by omega⟩
/-- found['over', one, other] = True -/
theorem put_note {ks : List D} {a b : D} (hk : ∀ k ∈ ks, isNote k) (hl : ks.length < lim) (ha : okT a) (hb : okT b) : putD (.dic ks (trues ks.length)) (noteK a b) (.bl true) = some (.dic (addK ks (noteK a b)) (trues (addK ks (noteK a b)).length)) := by
  unfold putD
  show (if keyFits ks (noteK a b) = true then (if ks.length < lim then some (kPutD ks (trues ks.length) (noteK a b) (.bl true)) else none) else none) = _
  rw [if_pos (fitN ks _ hk ⟨a, b, ha, hb, rfl⟩), if_pos hl, kPut_true]
/-- a whole row against the one under it -/
theorem zip_mem {xs ys : List D} {d : D} (h : d ∈ zipD xs ys) : ∃ x y, x ∈ xs ∧ y ∈ ys ∧ d = .tup [x, y] := by
  obtain ⟨i, hi⟩ := List.mem_iff_getElem?.mp h
  obtain ⟨x, y, h1, h2, h3⟩ := zipD_get hi
  exact ⟨x, y, List.mem_of_getElem? h1, List.mem_of_getElem? h2, h3⟩
theorem nFold_ok : ∀ {ds : List D} {ks : List D}, (∀ d ∈ ds, ∃ a b, okT a ∧ okT b ∧ d = .tup [a, b]) → (∀ k ∈ ks, isNote k) → (∀ k ∈ ds.foldl nStep ks, isNote k) ∧ (ds.foldl nStep ks).length ≤ ks.length + ds.length
  | [], ks, _, hk => ⟨hk, Nat.le_refl _⟩
  | d :: ds, ks, h, hk => by
    obtain ⟨a, b, ha, hb, rfl⟩ := h d List.mem_cons_self
    obtain ⟨h1, h2⟩ := nStep_ok hk ha hb
    obtain ⟨h3, h4⟩ := nFold_ok (ds := ds) (fun d hd => h d (List.mem_cons_of_mem _ hd)) h1
    refine ⟨h3, ?_⟩
    rw [List.length_cons]
    show (ds.foldl nStep (nStep ks (.tup [a, b]))).length ≤ _
    omega
theorem zip_T {r u : List D} (hr : ∀ d ∈ r, okT d) (hu : ∀ d ∈ u, okT d) : ∀ d ∈ zipD r u, ∃ a b, okT a ∧ okT b ∧ d = .tup [a, b] := fun d hd => by
  obtain ⟨x, y, h1, h2, h3⟩ := zip_mem hd
  exact ⟨x, y, hr x h1, hu y h2, h3⟩
theorem zip_le (r u : List D) : (zipD r u).length ≤ r.length := by rw [zipD_len]; omega
/-- the inner loop of notes_in -/
theorem inner_loop {r u : List D} (hr : ∀ d ∈ r, okT d) (hu : ∀ d ∈ u, okT d) (hl : r.length ≤ 40) {ks : List D} (hk : ∀ k ∈ ks, isNote k) (hkl : ks.length ≤ 4000) (a s2 s3 x y : Option (Bool × D)) (c : Cup) :
    ∃ x' y', forGo (bTup 2 (bCons (bName 4) (bCons (bName 5) bNil))) (sSeq (sIf (dAnd (dTest (dBin opNotIn (dC gc_AIR) (dTup (dCons (dVar 4) (dCons (dVar 5) dNil))))) (dTest (dBin opNe (dVarP 4) (dVarP 5)))) (sSeq (sPut 1 (dTup (dCons (dC (.str "over")) (dCons (dVar 4) (dCons (dVar 5) dNil)))) (dC (.bl true))) sNext) sNext) sNext) (zipD r u)
      [a, some (true, .dic ks (trues ks.length)), s2, s3, x, y] c = some (.nx [a, some (true, .dic ((zipD r u).foldl nStep ks) (trues ((zipD r u).foldl nStep ks).length)), s2, s3, x', y'] c) := by
  have hz := zip_le r u
  obtain ⟨ρ', c', h1, x', y', e1, e2⟩ := for_inv (n := 0) (ds := zipD r u) (ρ := [a, some (true, .dic ks (trues ks.length)), s2, s3, x, y]) (c := c)
    (bd := bTup 2 (bCons (bName 4) (bCons (bName 5) bNil)))
    (F := sSeq (sIf (dAnd (dTest (dBin opNotIn (dC gc_AIR) (dTup (dCons (dVar 4) (dCons (dVar 5) dNil))))) (dTest (dBin opNe (dVarP 4) (dVarP 5)))) (sSeq (sPut 1 (dTup (dCons (dC (.str "over")) (dCons (dVar 4) (dCons (dVar 5) dNil)))) (dC (.bl true))) sNext) sNext) sNext)
    (fun i ρ c' => ∃ x y, ρ = [a, some (true, .dic (((zipD r u).take i).foldl nStep ks) (trues (((zipD r u).take i).foldl nStep ks).length)), s2, s3, x, y] ∧ c' = c)
    (fun i d ρ c' hd ⟨x, y, e1, e2⟩ => by
      subst e1 e2
      simp only [Nat.zero_add]
      have hi : i < (zipD r u).length := (List.getElem?_eq_some_iff.mp hd).1
      obtain ⟨p, q, hp, hq, rfl⟩ := zip_T hr hu d (List.mem_of_getElem? hd)
      have ht : ((zipD r u).take (i + 1)).foldl nStep ks = nStep (((zipD r u).take i).foldl nStep ks) (.tup [p, q]) := by
        rw [List.take_add_one, hd]
        simp [List.foldl_append]
      obtain ⟨g1, g2⟩ := nFold_ok (ds := (zipD r u).take i) (ks := ks) (fun d hd => zip_T hr hu d (List.mem_of_mem_take hd)) hk
      rw [List.length_take] at g2
      generalize ((zipD r u).take i).foldl nStep ks = kk at ht g1 g2 ⊢
      have hpn := put_note g1 (by rw [lim_eq]; omega) hp hq
      refine ⟨[a, some (true, .dic kk (trues kk.length)), s2, s3, some (false, p), some (false, q)], _, c', by simp [bTup, bCons, bName, bNil], ?_, some (false, p), some (false, q), rfl, rfl⟩
      rw [ht]
      have hnk : nStep kk (.tup [p, q]) = if condN p q then addK kk (noteK p q) else kk := rfl
      rw [hnk]
      have hno : noteK p q = .tup [.str "over", p, q] := rfl
      rw [hno] at hpn ⊢
      unfold condN
      cases e1 : (notAir p && notAir q) with
      | false => simp [fD, startD, sSeq, sNext, sIf, sSet, sRet, sRetN, sDrop, sDropM, sPut, sPar2, sPar3, sAsg, sCup0, sCup1, sFrz, frz, sBreak, sCont, dTest, dBin, dChain, dVar, dVarP, dC, dCons, dNil, dTup, dLst, dAnd, dOr, dNot, dBl, dIf, dNeg, dCup0, dCup1, dBi, dBn, dCall, dIsi, isiD, opGt, opLt, opLe, opGe, opAdd, opSub, opMult, opFdiv, opMod, opPow, biInt, biStr, biLen, biList, biTup, biMax2, biMin2, bName, mApp, List.getElem?_cons_succ, List.getElem?_cons_zero, List.set_cons_succ, List.set_cons_zero, List.length_cons, List.length_nil, List.map_cons, List.map_nil, List.cons_append, List.nil_append, List.replicate_succ, List.replicate_zero, gc_AIR, notIn_air hp hq, e1]
      | true =>
        cases e2 : D.eqv p q with
        | true => simp [fD, startD, sSeq, sNext, sIf, sSet, sRet, sRetN, sDrop, sDropM, sPut, sPar2, sPar3, sAsg, sCup0, sCup1, sFrz, frz, sBreak, sCont, dTest, dBin, dChain, dVar, dVarP, dC, dCons, dNil, dTup, dLst, dAnd, dOr, dNot, dBl, dIf, dNeg, dCup0, dCup1, dBi, dBn, dCall, dIsi, isiD, opGt, opLt, opLe, opGe, opAdd, opSub, opMult, opFdiv, opMod, opPow, biInt, biStr, biLen, biList, biTup, biMax2, biMin2, bName, mApp, List.getElem?_cons_succ, List.getElem?_cons_zero, List.set_cons_succ, List.set_cons_zero, List.length_cons, List.length_nil, List.map_cons, List.map_nil, List.cons_append, List.nil_append, List.replicate_succ, List.replicate_zero, gc_AIR, notIn_air hp hq, e1, ne_T hp hq, e2]
        | false => simp [fD, startD, sSeq, sNext, sIf, sSet, sRet, sRetN, sDrop, sDropM, sPut, sPar2, sPar3, sAsg, sCup0, sCup1, sFrz, frz, sBreak, sCont, dTest, dBin, dChain, dVar, dVarP, dC, dCons, dNil, dTup, dLst, dAnd, dOr, dNot, dBl, dIf, dNeg, dCup0, dCup1, dBi, dBn, dCall, dIsi, isiD, opGt, opLt, opLe, opGe, opAdd, opSub, opMult, opFdiv, opMod, opPow, biInt, biStr, biLen, biList, biTup, biMax2, biMin2, bName, mApp, List.getElem?_cons_succ, List.getElem?_cons_zero, List.set_cons_succ, List.set_cons_zero, List.length_cons, List.length_nil, List.map_cons, List.map_nil, List.cons_append, List.nil_append, List.replicate_succ, List.replicate_zero, gc_AIR, notIn_air hp hq, e1, ne_T hp hq, e2, hpn])
    ⟨x, y, rfl, rfl⟩
  simp only [Nat.zero_add, List.take_length] at e1
  subst e1 e2
  exact ⟨x', y', h1⟩
theorem oStep_ok {ks : List D} {r u : D} (hk : ∀ k ∈ ks, isNote k) (hr : okRow r) (hu : okRow u) : (∀ k ∈ oStep ks (.tup [r, u]), isNote k) ∧ (oStep ks (.tup [r, u])).length ≤ ks.length + 40 := by
  obtain ⟨cs, rfl, h1, h2⟩ := hr
  obtain ⟨ds, rfl, h3, h4⟩ := hu
  obtain ⟨g1, g2⟩ := nFold_ok (ds := zipD cs ds) (zip_T h1 h3) hk
  have hz := zip_le cs ds
  exact ⟨g1, by show ((zipD cs ds).foldl nStep ks).length ≤ _; omega⟩
theorem oFold_ok : ∀ {ds : List D} {ks : List D}, (∀ d ∈ ds, ∃ r u, okRow r ∧ okRow u ∧ d = .tup [r, u]) → (∀ k ∈ ks, isNote k) → (∀ k ∈ ds.foldl oStep ks, isNote k) ∧ (ds.foldl oStep ks).length ≤ ks.length + 40 * ds.length
  | [], ks, _, hk => ⟨hk, Nat.le_refl _⟩
  | d :: ds, ks, h, hk => by
    obtain ⟨r, u, hr, hu, rfl⟩ := h d List.mem_cons_self
    obtain ⟨h1, h2⟩ := oStep_ok hk hr hu
    obtain ⟨h3, h4⟩ := oFold_ok (ds := ds) (fun d hd => h d (List.mem_cons_of_mem _ hd)) h1
    refine ⟨h3, ?_⟩
    rw [List.length_cons]
    show (ds.foldl oStep (oStep ks (.tup [r, u]))).length ≤ _
    omega
theorem zip_rows {rows : List D} (h : ∀ r ∈ rows, okRow r) : ∀ d ∈ zipD rows (rows.drop 1), ∃ r u, okRow r ∧ okRow u ∧ d = .tup [r, u] := fun d hd => by
  obtain ⟨x, y, h1, h2, h3⟩ := zip_mem hd
  exact ⟨x, y, h x h1, h y (List.mem_of_mem_drop h2), h3⟩
theorem notesK_ok {rows : List D} (h : ∀ r ∈ rows, okRow r) (hl : rows.length ≤ 40) : (∀ k ∈ notesK rows, isNote k) ∧ (notesK rows).length ≤ 1600 := by
  obtain ⟨g1, g2⟩ := oFold_ok (zip_rows h) (ks := []) (fun _ z => by cases z)
  have := zip_le rows (rows.drop 1)
  refine ⟨g1, ?_⟩
  show ((zipD rows (rows.drop 1)).foldl oStep []).length ≤ _
  simp only [List.length_nil] at g2
  omega
theorem sortOk_notes {ks : List D} (h : ∀ k ∈ ks, isNote k) (hl : ks.length ≤ lim) : sortOk ks = true := by
  unfold sortOk
  have ov : PyData.strOk "over" = true := by decide +kernel
  have e1 : D.okEqs 60 ks = true := by
    clear hl
    induction ks with
    | nil => rfl
    | cons k ks ih =>
      simp only [D.okEqs, Bool.and_eq_true]
      refine ⟨?_, ih fun d hd => h d (List.mem_cons_of_mem _ hd)⟩
      obtain ⟨a, b, ha, hb, rfl⟩ := h k List.mem_cons_self
      simp only [noteK, D.okEq, D.okEqs, okEq_T ha, okEq_T hb, ov, Bool.and_self]
  have e2 : (ks.all fun d => ks.all fun e => PySem.W.alike d.toData e.toData) = true := by
    rw [List.all_eq_true]
    intro d hd
    rw [List.all_eq_true]
    intro e he
    obtain ⟨a, b, ha, hb, rfl⟩ := h d hd
    obtain ⟨a', b', ha', hb', rfl⟩ := h e he
    cases a <;> first | exact ha.elim | skip
    cases b <;> first | exact hb.elim | skip
    cases a' <;> first | exact ha'.elim | skip
    cases b' <;> first | exact hb'.elim | skip
    simp only [noteK, D.toData, D.toDatas, PySem.W.alike, PySem.W.alikeAll, Bool.and_self]
  have e3 : ks.all tupNE = true := by
    rw [List.all_eq_true]
    intro d hd
    obtain ⟨a, b, ha, hb, rfl⟩ := h d hd
    rfl
  rw [e1, e2, e3, decide_eq_true hl]
  rfl
theorem notes_in {rows : List D} (h : ∀ r ∈ rows, okRow r) (hl : rows.length ≤ 40) (c : Cup) : g_notes_in [.tup rows] c = some (.lst (sortD (notesK rows)), c) := by
  obtain ⟨n1, n2⟩ := notesK_ok h hl
  have h4 := sortOk_notes n1 (by rw [lim_eq]; omega)
  have hz := zip_le rows (rows.drop 1)
  unfold g_notes_in b_notes_in
  have loop := for_inv (n := 0) (ds := zipD rows (rows.drop 1)) (ρ := [some (false, .tup rows), some (true, .dic [] []), none, none, none, none]) (c := c)
    (bd := bTup 2 (bCons (bName 2) (bCons (bName 3) bNil)))
    (F := sSeq (sFor (dZip (dCons (dVar 2) (dCons (dVar 3) dNil))) (bTup 2 (bCons (bName 4) (bCons (bName 5) bNil))) (sSeq (sIf (dAnd (dTest (dBin opNotIn (dC gc_AIR) (dTup (dCons (dVar 4) (dCons (dVar 5) dNil))))) (dTest (dBin opNe (dVarP 4) (dVarP 5)))) (sSeq (sPut 1 (dTup (dCons (dC (.str "over")) (dCons (dVar 4) (dCons (dVar 5) dNil)))) (dC (.bl true))) sNext) sNext) sNext)) sNext)
    (fun i ρ c' => ∃ x y s2 s3, ρ = [some (false, .tup rows), some (true, .dic (((zipD rows (rows.drop 1)).take i).foldl oStep []) (trues (((zipD rows (rows.drop 1)).take i).foldl oStep []).length)), s2, s3, x, y] ∧ c' = c)
    (fun i d ρ c' hd ⟨x, y, s2, s3, e1, e2⟩ => by
      subst e1 e2
      simp only [Nat.zero_add]
      have hi : i < (zipD rows (rows.drop 1)).length := (List.getElem?_eq_some_iff.mp hd).1
      obtain ⟨r, u, hr, hu, rfl⟩ := zip_rows h d (List.mem_of_getElem? hd)
      have ht : ((zipD rows (rows.drop 1)).take (i + 1)).foldl oStep [] = oStep (((zipD rows (rows.drop 1)).take i).foldl oStep []) (.tup [r, u]) := by
        rw [List.take_add_one, hd]
        simp [List.foldl_append]
      obtain ⟨g1, g2⟩ := oFold_ok (ds := (zipD rows (rows.drop 1)).take i) (ks := []) (fun d hd => zip_rows h d (List.mem_of_mem_take hd)) (fun _ z => by cases z)
      rw [List.length_take] at g2
      simp only [List.length_nil] at g2
      obtain ⟨cs, rfl, h1, h2⟩ := hr
      obtain ⟨ds, rfl, h3, h5⟩ := hu
      obtain ⟨x', y', hin⟩ := inner_loop h1 h3 h2 g1 (by omega) (some (false, .tup rows)) (some (false, .tup cs)) (some (false, .tup ds)) x y c'
      refine ⟨[some (false, .tup rows), some (true, .dic (((zipD rows (rows.drop 1)).take i).foldl oStep []) (trues (((zipD rows (rows.drop 1)).take i).foldl oStep []).length)), some (false, .tup cs), some (false, .tup ds), x, y], _, c', by simp [bTup, bCons, bName, bNil], ?_, x', y', some (false, .tup cs), some (false, .tup ds), rfl, rfl⟩
      rw [ht]
      generalize sSeq (sIf (dAnd (dTest (dBin opNotIn (dC gc_AIR) (dTup (dCons (dVar 4) (dCons (dVar 5) dNil))))) (dTest (dBin opNe (dVarP 4) (dVarP 5)))) (sSeq (sPut 1 (dTup (dCons (dC (.str "over")) (dCons (dVar 4) (dCons (dVar 5) dNil)))) (dC (.bl true))) sNext) sNext) sNext = G at hin
      simp only [sSeq, sFor, dZip, dCons, dVar, dNil, List.getElem?_cons_succ, List.getElem?_cons_zero, hin, sNext]
      rfl)
    ⟨none, none, none, none, rfl, rfl⟩
  obtain ⟨ρ', c', h1, x', y', s2, s3, e1, e2⟩ := loop
  simp only [Nat.zero_add, List.take_length] at e1
  subst e1 e2
  generalize sSeq (sFor (dZip (dCons (dVar 2) (dCons (dVar 3) dNil))) (bTup 2 (bCons (bName 4) (bCons (bName 5) bNil))) (sSeq (sIf (dAnd (dTest (dBin opNotIn (dC gc_AIR) (dTup (dCons (dVar 4) (dCons (dVar 5) dNil))))) (dTest (dBin opNe (dVarP 4) (dVarP 5)))) (sSeq (sPut 1 (dTup (dCons (dC (.str "over")) (dCons (dVar 4) (dCons (dVar 5) dNil)))) (dC (.bl true))) sNext) sNext) sNext)) sNext = G at h1
  have hcut : dCut rows (some 1) none = rows.drop 1 := dCut_from rows 1
  have h4' : sortOk (List.foldl oStep [] (zipD rows (rows.drop 1))) = true := h4
  have fin : notesK rows = List.foldl oStep [] (zipD rows (rows.drop 1)) := rfl
  rw [fin]
  have e1 : dZip (dCons (dVar 0) (dCons (dSl (dVarP 0) (dPart (dC (.int 1))) dNoPart) dNil)) [some (false, .tup rows), some (true, .dic [] []), none, none, none, none] c' = some (zipD rows (rows.drop 1), c') := by
    simp [dZip, dCons, dVar, dVarP, dNil, dSl, dPart, dNoPart, dC, slD, hcut]
  generalize List.foldl oStep [] (zipD rows (rows.drop 1)) = kk at h1 h4' ⊢
  generalize dZip (dCons (dVar 0) (dCons (dSl (dVarP 0) (dPart (dC (.int 1))) dNoPart) dNil)) = Z at e1 ⊢
  generalize zipD rows (rows.drop 1) = zz at e1 h1
  simp [fD, startD, sSeq, sNext, sIf, sSet, sRet, sRetN, sDrop, sDropM, sPut, sPar2, sPar3, sAsg, sCup0, sCup1, sFrz, frz, sBreak, sCont, dTest, dBin, dChain, dVar, dVarP, dC, dCons, dNil, dTup, dLst, dAnd, dOr, dNot, dBl, dIf, dNeg, dCup0, dCup1, dBi, dBn, dCall, dIsi, isiD, opGt, opLt, opLe, opGe, opAdd, opSub, opMult, opFdiv, opMod, opPow, biInt, biStr, biLen, biList, biTup, biMax2, biMin2, bName, mApp, List.getElem?_cons_succ, List.getElem?_cons_zero, List.set_cons_succ, List.set_cons_zero, List.length_cons, List.length_nil, List.map_cons, List.map_nil, List.cons_append, List.nil_append, List.replicate_succ, List.replicate_zero, dDic0, sFor, e1, h1, biSorted, h4']
/-! the law's own notes -/
theorem eqv_sym {a b : D} (ha : okT a) (hb : okT b) : ∃ s t, a = .str s ∧ b = .str t := by
  cases a <;> first | exact ha.elim | skip
  cases b <;> first | exact hb.elim | skip
  exact ⟨_, _, rfl, rfl⟩
/-- its turn at one place -/
theorem law_note_turn {kk : List D} {p q : D} (g1 : ∀ k ∈ kk, isNote k) (hl : kk.length < lim) (hp : okT p) (hq : okT q) (a s2 s5 : Option (Bool × D)) (c : Cup) :
    (sSeq (sIf (dAnd (dTest (dBin opNe (dVarP 3) (dVarP 4))) (dAnd (dTest (dBin opNe (dVarP 3) (dC (.str ".")))) (dTest (dBin opNe (dVarP 4) (dC (.str ".")))))) (sSeq (sPut 1 (dTup (dCons (dC (.str "over")) (dCons (dVar 3) (dCons (dVar 4) dNil)))) (dC (.bl true))) sNext) sNext) sNext)
      [a, some (true, .dic kk (trues kk.length)), s2, some (false, p), some (false, q), s5] c = some (.nx [a, some (true, .dic (nStep kk (.tup [p, q])) (trues (nStep kk (.tup [p, q])).length)), s2, some (false, p), some (false, q), s5] c) := by
  have hpn := put_note g1 hl hp hq
  have hnk : nStep kk (.tup [p, q]) = if condN p q then addK kk (noteK p q) else kk := rfl
  rw [hnk]
  have hno : noteK p q = .tup [.str "over", p, q] := rfl
  rw [hno] at hpn ⊢
  have n1 := ne_T hp hq
  have n2 := ne_air p hp
  have n3 := ne_air q hq
  unfold condN
  cases e2 : D.eqv p q with
  | true => simp [fD, startD, sSeq, sNext, sIf, sSet, sRet, sRetN, sDrop, sDropM, sPut, sPar2, sPar3, sAsg, sCup0, sCup1, sFrz, frz, sBreak, sCont, dTest, dBin, dChain, dVar, dVarP, dC, dCons, dNil, dTup, dLst, dAnd, dOr, dNot, dBl, dIf, dNeg, dCup0, dCup1, dBi, dBn, dCall, dIsi, isiD, opGt, opLt, opLe, opGe, opAdd, opSub, opMult, opFdiv, opMod, opPow, biInt, biStr, biLen, biList, biTup, biMax2, biMin2, bName, mApp, List.getElem?_cons_succ, List.getElem?_cons_zero, List.set_cons_succ, List.set_cons_zero, List.length_cons, List.length_nil, List.map_cons, List.map_nil, List.cons_append, List.nil_append, List.replicate_succ, List.replicate_zero, n1, e2]
  | false =>
    cases e3 : notAir p with
    | false => simp [fD, startD, sSeq, sNext, sIf, sSet, sRet, sRetN, sDrop, sDropM, sPut, sPar2, sPar3, sAsg, sCup0, sCup1, sFrz, frz, sBreak, sCont, dTest, dBin, dChain, dVar, dVarP, dC, dCons, dNil, dTup, dLst, dAnd, dOr, dNot, dBl, dIf, dNeg, dCup0, dCup1, dBi, dBn, dCall, dIsi, isiD, opGt, opLt, opLe, opGe, opAdd, opSub, opMult, opFdiv, opMod, opPow, biInt, biStr, biLen, biList, biTup, biMax2, biMin2, bName, mApp, List.getElem?_cons_succ, List.getElem?_cons_zero, List.set_cons_succ, List.set_cons_zero, List.length_cons, List.length_nil, List.map_cons, List.map_nil, List.cons_append, List.nil_append, List.replicate_succ, List.replicate_zero, n1, e2, n2, e3]
    | true =>
      cases e4 : notAir q with
      | false => simp [fD, startD, sSeq, sNext, sIf, sSet, sRet, sRetN, sDrop, sDropM, sPut, sPar2, sPar3, sAsg, sCup0, sCup1, sFrz, frz, sBreak, sCont, dTest, dBin, dChain, dVar, dVarP, dC, dCons, dNil, dTup, dLst, dAnd, dOr, dNot, dBl, dIf, dNeg, dCup0, dCup1, dBi, dBn, dCall, dIsi, isiD, opGt, opLt, opLe, opGe, opAdd, opSub, opMult, opFdiv, opMod, opPow, biInt, biStr, biLen, biList, biTup, biMax2, biMin2, bName, mApp, List.getElem?_cons_succ, List.getElem?_cons_zero, List.set_cons_succ, List.set_cons_zero, List.length_cons, List.length_nil, List.map_cons, List.map_nil, List.cons_append, List.nil_append, List.replicate_succ, List.replicate_zero, n1, e2, n2, e3, n3, e4]
      | true => simp [fD, startD, sSeq, sNext, sIf, sSet, sRet, sRetN, sDrop, sDropM, sPut, sPar2, sPar3, sAsg, sCup0, sCup1, sFrz, frz, sBreak, sCont, dTest, dBin, dChain, dVar, dVarP, dC, dCons, dNil, dTup, dLst, dAnd, dOr, dNot, dBl, dIf, dNeg, dCup0, dCup1, dBi, dBn, dCall, dIsi, isiD, opGt, opLt, opLe, opGe, opAdd, opSub, opMult, opFdiv, opMod, opPow, biInt, biStr, biLen, biList, biTup, biMax2, biMin2, bName, mApp, List.getElem?_cons_succ, List.getElem?_cons_zero, List.set_cons_succ, List.set_cons_zero, List.length_cons, List.length_nil, List.map_cons, List.map_nil, List.cons_append, List.nil_append, List.replicate_succ, List.replicate_zero, n1, e2, n2, e3, n3, e4, hpn]
/-- the row at i -/
theorem atI_get {xs : List D} {i : Nat} {d : D} (h : xs[i]? = some d) : atI xs (i : Int) = some d := atI_nat h
theorem law_inner {rows : List D} {at' : Nat} {r u : List D} (e1 : rows[at']? = some (.tup r)) (e2 : rows[at' + 1]? = some (.tup u)) (hr : ∀ d ∈ r, okT d) (hu : ∀ d ∈ u, okT d) (hl : r.length ≤ 40) (hru : u.length = r.length) {ks : List D} (hk : ∀ k ∈ ks, isNote k) (hkl : ks.length ≤ 4000) (x y z : Option (Bool × D)) (c : Cup) :
    ∃ x' y' z', forGo (bName 5) (sSeq (sPar2 false false 3 4 (dBin opIx (dBin opIx (dVarP 0) (dVarP 2)) (dVarP 5)) (dBin opIx (dBin opIx (dVarP 0) (dBin opAdd (dVarP 2) (dC (.int 1)))) (dVarP 5))) (sSeq (sIf (dAnd (dTest (dBin opNe (dVarP 3) (dVarP 4))) (dAnd (dTest (dBin opNe (dVarP 3) (dC (.str ".")))) (dTest (dBin opNe (dVarP 4) (dC (.str ".")))))) (sSeq (sPut 1 (dTup (dCons (dC (.str "over")) (dCons (dVar 3) (dCons (dVar 4) dNil)))) (dC (.bl true))) sNext) sNext) sNext)) (intsD 0 r.length)
      [some (false, .tup rows), some (true, .dic ks (trues ks.length)), some (false, .int at'), x, y, z] c = some (.nx [some (false, .tup rows), some (true, .dic ((zipD r u).foldl nStep ks) (trues ((zipD r u).foldl nStep ks).length)), some (false, .int at'), x', y', z'] c) := by
  have hz : (zipD r u).length = r.length := by rw [zipD_len]; omega
  have hlen : (intsD 0 r.length).length = r.length := by simp [intsD]
  have loop := for_inv (n := 0) (ds := intsD 0 r.length) (ρ := [some (false, .tup rows), some (true, .dic ks (trues ks.length)), some (false, .int at'), x, y, z]) (c := c) (bd := bName 5)
    (F := sSeq (sPar2 false false 3 4 (dBin opIx (dBin opIx (dVarP 0) (dVarP 2)) (dVarP 5)) (dBin opIx (dBin opIx (dVarP 0) (dBin opAdd (dVarP 2) (dC (.int 1)))) (dVarP 5))) (sSeq (sIf (dAnd (dTest (dBin opNe (dVarP 3) (dVarP 4))) (dAnd (dTest (dBin opNe (dVarP 3) (dC (.str ".")))) (dTest (dBin opNe (dVarP 4) (dC (.str ".")))))) (sSeq (sPut 1 (dTup (dCons (dC (.str "over")) (dCons (dVar 3) (dCons (dVar 4) dNil)))) (dC (.bl true))) sNext) sNext) sNext))
    (fun i ρ c' => ∃ x y z, ρ = [some (false, .tup rows), some (true, .dic (((zipD r u).take i).foldl nStep ks) (trues (((zipD r u).take i).foldl nStep ks).length)), some (false, .int at'), x, y, z] ∧ c' = c)
    (fun i d ρ c' hd ⟨x, y, z, h1, h2⟩ => by
      subst h1 h2
      simp only [Nat.zero_add]
      have hi : i < r.length := by rw [← hlen]; exact (List.getElem?_eq_some_iff.mp hd).1
      have ed : d = .int i := by
        unfold intsD at hd
        rw [List.getElem?_map, List.getElem?_range hi] at hd
        simpa using hd.symm
      subst ed
      have hp : r[i]? = some r[i] := List.getElem?_eq_getElem hi
      have hq : u[i]? = some u[i] := List.getElem?_eq_getElem (by omega)
      have kp := hr _ (List.mem_of_getElem? hp)
      have kq := hu _ (List.mem_of_getElem? hq)
      have hzi : (zipD r u)[i]? = some (.tup [r[i], u[i]]) := by
        obtain ⟨x', y', q1, q2, q3⟩ := zipD_get (List.getElem?_eq_getElem (show i < (zipD r u).length by omega))
        rw [hp] at q1; rw [hq] at q2; cases q1; cases q2
        rw [List.getElem?_eq_getElem (show i < (zipD r u).length by omega), q3]
      have ht : ((zipD r u).take (i + 1)).foldl nStep ks = nStep (((zipD r u).take i).foldl nStep ks) (.tup [r[i], u[i]]) := by
        rw [List.take_add_one, hzi]
        simp [List.foldl_append]
      obtain ⟨g1, g2⟩ := nFold_ok (ds := (zipD r u).take i) (ks := ks) (fun d hd => zip_T hr hu d (List.mem_of_mem_take hd)) hk
      rw [List.length_take] at g2
      generalize ((zipD r u).take i).foldl nStep ks = kk at ht g1 g2 ⊢
      have a1 : atI rows (at' : Int) = some (.tup r) := atI_nat e1
      have a2 : atI rows ((at' : Int) + 1) = some (.tup u) := by
        have := atI_nat e2
        simpa using this
      have a3 : atI r (i : Int) = some r[i] := atI_nat hp
      have a4 : atI u (i : Int) = some u[i] := atI_nat hq
      refine ⟨[some (false, .tup rows), some (true, .dic kk (trues kk.length)), some (false, .int at'), x, y, some (false, .int i)], _, c', by simp [bName], ?_, some (false, r[i]), some (false, u[i]), some (false, .int i), rfl, rfl⟩
      rw [ht]
      have turn := law_note_turn g1 (by rw [lim_eq]; omega) kp kq (some (false, .tup rows)) (some (false, .int at')) (some (false, .int i)) c'
      generalize sSeq (sIf (dAnd (dTest (dBin opNe (dVarP 3) (dVarP 4))) (dAnd (dTest (dBin opNe (dVarP 3) (dC (.str ".")))) (dTest (dBin opNe (dVarP 4) (dC (.str ".")))))) (sSeq (sPut 1 (dTup (dCons (dC (.str "over")) (dCons (dVar 3) (dCons (dVar 4) dNil)))) (dC (.bl true))) sNext) sNext) sNext = G at turn
      simp [sSeq, sPar2, dBin, dVarP, dC, opIx, opAdd, a1, a2, a3, a4, turn])
    ⟨x, y, z, rfl, rfl⟩
  obtain ⟨ρ', c', h1, x', y', z', h2, h3⟩ := loop
  rw [hlen, ← hz] at h2
  simp only [Nat.zero_add, List.take_length] at h2
  subst h2 h3
  exact ⟨x', y', z', h1⟩
/-- a drawing's rows: texts, all of one length -/
structure okDr (rows : List D) (n : Nat) : Prop where
  row : ∀ r ∈ rows, ∃ cells, r = .tup cells ∧ (∀ d ∈ cells, okT d) ∧ cells.length = n
  n1 : 1 ≤ n
  n2 : n ≤ 30
  l1 : 1 ≤ rows.length
  l2 : rows.length ≤ 30
theorem okDr.rows {rows : List D} {n : Nat} (h : okDr rows n) : ∀ r ∈ rows, okRow r := fun r hr => by
  obtain ⟨cells, e, h1, h2⟩ := h.row r hr
  have := h.n2
  exact ⟨cells, e, h1, by omega⟩
theorem law_notes {rows : List D} {n : Nat} (h : okDr rows n) (c : Cup) : g__law_notes [.tup rows] c = some (.tup (sortD (notesK rows)), c) := by
  have hl2 := h.l2
  have hl1 := h.l1
  have hn2 := h.n2
  obtain ⟨n1, n2⟩ := notesK_ok h.rows (by omega)
  have h4 := sortOk_notes n1 (by rw [lim_eq]; omega)
  have hz : (zipD rows (rows.drop 1)).length = rows.length - 1 := by rw [zipD_len, List.length_drop]; omega
  have hlen : (intsD 0 (rows.length - 1)).length = rows.length - 1 := by simp [intsD]
  obtain ⟨r0, rr, hr0⟩ := List.exists_cons_of_ne_nil (show rows ≠ [] from fun z => by rw [z] at hl1; simp at hl1)
  obtain ⟨c0, ec0, _, lc0⟩ := h.row r0 (by rw [hr0]; exact List.mem_cons_self)
  have a0 : atI rows 0 = some (.tup c0) := atI_nat (j := 0) (by rw [hr0, ec0]; rfl)
  unfold g__law_notes b__law_notes
  have inner := fun {at' : Nat} {r u : List D} (e1 : rows[at']? = some (.tup r)) (e2 : rows[at' + 1]? = some (.tup u)) hr hu hl hru {ks : List D} hk hkl x y z c => law_inner (rows := rows) (at' := at') (r := r) (u := u) e1 e2 hr hu hl hru (ks := ks) hk hkl x y z c
  generalize sSeq (sPar2 false false 3 4 (dBin opIx (dBin opIx (dVarP 0) (dVarP 2)) (dVarP 5)) (dBin opIx (dBin opIx (dVarP 0) (dBin opAdd (dVarP 2) (dC (.int 1)))) (dVarP 5))) (sSeq (sIf (dAnd (dTest (dBin opNe (dVarP 3) (dVarP 4))) (dAnd (dTest (dBin opNe (dVarP 3) (dC (.str ".")))) (dTest (dBin opNe (dVarP 4) (dC (.str ".")))))) (sSeq (sPut 1 (dTup (dCons (dC (.str "over")) (dCons (dVar 3) (dCons (dVar 4) dNil)))) (dC (.bl true))) sNext) sNext) sNext) = G at inner ⊢
  have loop := for_inv (n := 0) (ds := intsD 0 (rows.length - 1)) (ρ := [some (false, .tup rows), some (true, .dic [] []), none, none, none, none]) (c := c)
    (bd := bName 2) (F := sSeq (sFor (dRng1 (dCons (dBi biLen (dCons (dBin opIx (dVarP 0) (dC (.int 0))) dNil)) dNil)) (bName 5) G) sNext)
    (fun i ρ c' => ∃ s2 x y z, ρ = [some (false, .tup rows), some (true, .dic (((zipD rows (rows.drop 1)).take i).foldl oStep []) (trues (((zipD rows (rows.drop 1)).take i).foldl oStep []).length)), s2, x, y, z] ∧ c' = c)
    (fun i d ρ c' hd ⟨s2, x, y, z, e1, e2⟩ => by
      subst e1 e2
      simp only [Nat.zero_add]
      have hi : i < rows.length - 1 := by rw [← hlen]; exact (List.getElem?_eq_some_iff.mp hd).1
      have ed : d = .int i := by
        unfold intsD at hd
        rw [List.getElem?_map, List.getElem?_range hi] at hd
        simpa using hd.symm
      subst ed
      obtain ⟨r, er, hr, lr⟩ := h.row rows[i] (List.getElem_mem _)
      obtain ⟨u, eu, hu, lu⟩ := h.row rows[i + 1] (List.getElem_mem _)
      have gr : rows[i]? = some (.tup r) := by rw [List.getElem?_eq_getElem (by omega), er]
      have gu : rows[i + 1]? = some (.tup u) := by rw [List.getElem?_eq_getElem (by omega), eu]
      have hzi : (zipD rows (rows.drop 1))[i]? = some (.tup [.tup r, .tup u]) := by
        have hlt : i < (zipD rows (rows.drop 1)).length := by omega
        obtain ⟨x', y', q1, q2, q3⟩ := zipD_get (List.getElem?_eq_getElem hlt)
        rw [List.getElem?_drop, Nat.add_comm] at q2
        rw [gr] at q1; rw [gu] at q2; cases q1; cases q2
        rw [List.getElem?_eq_getElem hlt, q3]
      have ht : ((zipD rows (rows.drop 1)).take (i + 1)).foldl oStep [] = oStep (((zipD rows (rows.drop 1)).take i).foldl oStep []) (.tup [.tup r, .tup u]) := by
        rw [List.take_add_one, hzi]
        simp [List.foldl_append]
      obtain ⟨g1, g2⟩ := oFold_ok (ds := (zipD rows (rows.drop 1)).take i) (ks := []) (fun d hd => zip_rows h.rows d (List.mem_of_mem_take hd)) (fun _ z => by cases z)
      rw [List.length_take] at g2
      simp only [List.length_nil] at g2
      generalize ((zipD rows (rows.drop 1)).take i).foldl oStep [] = kk at ht g1 g2 ⊢
      obtain ⟨x', y', z', hin⟩ := inner gr gu hr hu (by omega) (by omega) g1 (by omega) x y z c'
      refine ⟨[some (false, .tup rows), some (true, .dic kk (trues kk.length)), some (false, .int i), x, y, z], _, c', by simp [bName], ?_, some (false, .int i), x', y', z', rfl, rfl⟩
      rw [ht]
      have hlim : (r.length : Int) ≤ lim := by rw [lim_eq]; omega
      have e0 : c0.length = r.length := by omega
      have er : dRng1 (dCons (dBi biLen (dCons (dBin opIx (dVarP 0) (dC (.int 0))) dNil)) dNil) [some (false, .tup rows), some (true, .dic kk (trues kk.length)), some (false, .int i), x, y, z] c' = some (intsD 0 r.length, c') := by
        simp [dRng1, dCons, dBi, dBin, dVarP, dC, dNil, opIx, a0, biLen, e0, lim_eq]
        omega
      simp only [sSeq, sFor, er, hin, sNext]
      rfl)
    ⟨none, none, none, none, rfl, rfl⟩
  obtain ⟨ρ', c', h1, s2, x', y', z', e1, e2⟩ := loop
  rw [hlen, ← hz] at e1
  simp only [Nat.zero_add, List.take_length] at e1
  subst e1 e2
  have h4' : sortOk (List.foldl oStep [] (zipD rows (rows.drop 1))) = true := h4
  have fin : notesK rows = List.foldl oStep [] (zipD rows (rows.drop 1)) := rfl
  rw [fin]
  have er : dRng1 (dCons (dBin opSub (dBi biLen (dCons (dVarP 0) dNil)) (dC (.int 1))) dNil) [some (false, .tup rows), some (true, .dic [] []), none, none, none, none] c' = some (intsD 0 (rows.length - 1), c') := by
    have : ((rows.length : Int) - 1).toNat = rows.length - 1 := by omega
    simp [dRng1, dCons, dBi, dBin, dVarP, dC, dNil, opSub, biLen, lim_eq, this]
    omega
  generalize List.foldl oStep [] (zipD rows (rows.drop 1)) = kk at h1 h4' ⊢
  generalize dRng1 (dCons (dBin opSub (dBi biLen (dCons (dVarP 0) dNil)) (dC (.int 1))) dNil) = Z at er ⊢
  generalize sSeq (sFor (dRng1 (dCons (dBi biLen (dCons (dBin opIx (dVarP 0) (dC (.int 0))) dNil)) dNil)) (bName 5) G) sNext = G2 at h1 ⊢
  simp [fD, startD, sSeq, sNext, sIf, sSet, sRet, sRetN, sDrop, sDropM, sPut, sPar2, sPar3, sAsg, sCup0, sCup1, sFrz, frz, sBreak, sCont, dTest, dBin, dChain, dVar, dVarP, dC, dCons, dNil, dTup, dLst, dAnd, dOr, dNot, dBl, dIf, dNeg, dCup0, dCup1, dBi, dBn, dCall, dIsi, isiD, opGt, opLt, opLe, opGe, opAdd, opSub, opMult, opFdiv, opMod, opPow, biInt, biStr, biLen, biList, biTup, biMax2, biMin2, bName, mApp, List.getElem?_cons_succ, List.getElem?_cons_zero, List.set_cons_succ, List.set_cons_zero, List.length_cons, List.length_nil, List.map_cons, List.map_nil, List.cons_append, List.nil_append, List.replicate_succ, List.replicate_zero, dDic0, sFor, er, h1, biSorted, h4']
end K46
end
section
namespace K46
open PySem L2 DL
/-! a drawing fits -/
def okCell : D → Prop
  | .str s => PyData.strOk s = true ∧ s.length ≤ lim
  | .cup => False
  | _ => True
def ckD : D → Bool
  | .str s => fitsS s || (s == ".")
  | _ => false
def rowLen : D → Int
  | .tup ds => ds.length
  | _ => 0
theorem cell_no (d : D) (h : isiD .str d = false) (hc : d ≠ .cup) (x y : Option (Bool × D)) (c : Cup) : dIf (dTest (dCall g_fits_name (dCons (dVar 2) dNil))) (dC (.bl true)) (dIf (dTest (dIsi .str (dVarP 2))) (dBin opEq (dVarP 2) (dC gc_AIR)) (dC (.bl false))) [x, y, some (false, d)] c = some (.bl false, c) := by
  have e := name_no d h hc c
  have e2 : dIsi .str (dVarP 2) [x, y, some (false, d)] c = some (.bl false, c) := by
    cases d <;> first | exact absurd rfl hc | rfl | cases h
  generalize dIsi .str (dVarP 2) = I at e2 ⊢
  simp [dIf, dTest, dCall, dCons, dVar, dNil, e, e2, dC]
theorem cell_read (d : D) (h : okCell d) (x y : Option (Bool × D)) (c : Cup) : dIf (dTest (dCall g_fits_name (dCons (dVar 2) dNil))) (dC (.bl true)) (dIf (dTest (dIsi .str (dVarP 2))) (dBin opEq (dVarP 2) (dC gc_AIR)) (dC (.bl false))) [x, y, some (false, d)] c = some (.bl (ckD d), c) := by
  cases d <;> first | exact h.elim | exact cell_no _ rfl (fun z => by cases z) x y c | skip
  case str s =>
    have e := name_str s h.2 h.1 c
    have e2 : opEq (.str s) (.str ".") = some (.bl (s == ".")) := by
      unfold opEq
      rw [okS, okS, h.1, air_ok]
      simp only [D.eqv, Bool.and_self, if_true]
    cases hf : fitsS s <;> simp [dIf, dTest, dCall, dCons, dVar, dVarP, dNil, e, hf, dC, dIsi, isiD, dBin, gc_AIR, e2, ckD]
theorem row_read {cells : List D} (h : ∀ d ∈ cells, okCell d) (hl : cells.length ≤ lim) (x z : Option (Bool × D)) (c : Cup) :
    dBi biAll (dCons (dLc [2] (dItems (dVar 1)) (bName 2) dYes (dIf (dTest (dCall g_fits_name (dCons (dVar 2) dNil))) (dC (.bl true)) (dIf (dTest (dIsi .str (dVarP 2))) (dBin opEq (dVarP 2) (dC gc_AIR)) (dC (.bl false))))) dNil) [x, some (false, .tup cells), z] c = some (.bl (cells.all ckD), c) :=
  all_lc ckD (by simp [dItems, dVar, itemsD]) hl fun d hd => ⟨[x, some (false, .tup cells), some (false, d)], by simp [wipeD, bName], fun c => cell_read d (h d hd) _ _ c⟩
/-- what all rows must be -/
def rowsOk (rows : List D) : Bool := rows.all fun r => tupIn r 1 30
theorem rows_read {rows : List D} (h : ∀ r ∈ rows, r ≠ .cup) (hl : rows.length ≤ lim) (y z : Option (Bool × D)) (c : Cup) :
    dBi biAll (dCons (dLc [1] (dItems (dVar 0)) (bName 1) dYes (dCall g_is_tuple_of (dCons (dVar 1) (dCons (dC (.int 1)) (dCons (dC gc_WIDE) dNil))))) dNil) [some (false, .tup rows), y, z] c = some (.bl (rowsOk rows), c) :=
  all_lc (fun r => tupIn r 1 30) (by simp [dItems, dVar, itemsD]) hl fun d hd => ⟨_, (by simp [wipeD, bName]; rfl), fun c => by simp [dCall, dCons, dVar, dC, dNil, gc_WIDE, tup_of d 1 30 (h d hd)]⟩
theorem tupIn_tup {d : D} {a b : Int} (h : tupIn d a b = true) : ∃ ds, d = .tup ds ∧ a ≤ ds.length ∧ (ds.length : Int) ≤ b := by
  cases d <;> simp [tupIn] at h
  exact ⟨_, rfl, h.1, h.2⟩
theorem lens_read {rows : List D} (h : rowsOk rows = true) (hl : rows.length ≤ 4000) (y z : Option (Bool × D)) (c : Cup) :
    dLenSet (dLc [1] (dItems (dVar 0)) (bName 1) dYes (dBi biLen (dCons (dVarP 1) dNil))) [some (false, .tup rows), y, z] c = some (.int (nubI (rows.map rowLen)).length, c) := by
  have e := lc_map (vs := [1]) (bd := bName 1) (elt := dBi biLen (dCons (dVarP 1) dNil)) (ρ := [some (false, .tup rows), y, z]) (c := c) (c1 := c) (it := dItems (dVar 0)) (ds := rows) (fun r => .int (rowLen r)) (by simp [dItems, dVar, itemsD]) (by rw [lim_eq]; omega) (fun d hd => by
    obtain ⟨ds, rfl, _⟩ := tupIn_tup ((List.all_eq_true.mp h) d hd)
    exact ⟨_, (by simp [wipeD, bName]; rfl), fun c => by simp [dBi, dCons, dVarP, dNil, biLen, rowLen]⟩)
  unfold dLenSet
  rw [e]
  have l1 : (rows.map rowLen).length ≤ 4000 := by rw [List.length_map]; exact hl
  simp only [ints_map, l1, if_true]
theorem fd_no {d : D} (hc : d ≠ .cup) (h : tupIn d 1 30 = false) (c : Cup) : g_fits_drawing [d] c = some (.bl false, c) := by
  have e := tup_of d 1 30 hc c
  simp [g_fits_drawing, b_fits_drawing, fD, startD, sSeq, sNext, sIf, sSet, sRet, sRetN, sDrop, sDropM, sPut, sPar2, sPar3, sAsg, sCup0, sCup1, sFrz, frz, sBreak, sCont, dTest, dBin, dChain, dVar, dVarP, dC, dCons, dNil, dTup, dLst, dAnd, dOr, dNot, dBl, dIf, dNeg, dCup0, dCup1, dBi, dBn, dCall, dIsi, isiD, opGt, opLt, opLe, opGe, opAdd, opSub, opMult, opFdiv, opMod, opPow, biInt, biStr, biLen, biList, biTup, biMax2, biMin2, bName, mApp, List.getElem?_cons_succ, List.getElem?_cons_zero, List.set_cons_succ, List.set_cons_zero, List.length_cons, List.length_nil, List.map_cons, List.map_nil, List.cons_append, List.nil_append, List.replicate_succ, List.replicate_zero, gc_WIDE, e, h]
theorem fd_rows {rows : List D} (h0 : tupIn (.tup rows) 1 30 = true) (hc : ∀ r ∈ rows, r ≠ .cup) (h : rowsOk rows = false) (c : Cup) : g_fits_drawing [.tup rows] c = some (.bl false, c) := by
  obtain ⟨_, e0, l1, l2⟩ := tupIn_tup h0
  cases e0
  have e := tup_of (.tup rows) 1 30 (fun z => by cases z) c
  have e2 := rows_read hc (by rw [lim_eq]; omega) none none c
  unfold g_fits_drawing b_fits_drawing
  generalize dBi biAll (dCons (dLc [1] (dItems (dVar 0)) (bName 1) dYes (dCall g_is_tuple_of (dCons (dVar 1) (dCons (dC (.int 1)) (dCons (dC gc_WIDE) dNil))))) dNil) = R at e2 ⊢
  simp [fD, startD, sSeq, sNext, sIf, sSet, sRet, sRetN, sDrop, sDropM, sPut, sPar2, sPar3, sAsg, sCup0, sCup1, sFrz, frz, sBreak, sCont, dTest, dBin, dChain, dVar, dVarP, dC, dCons, dNil, dTup, dLst, dAnd, dOr, dNot, dBl, dIf, dNeg, dCup0, dCup1, dBi, dBn, dCall, dIsi, isiD, opGt, opLt, opLe, opGe, opAdd, opSub, opMult, opFdiv, opMod, opPow, biInt, biStr, biLen, biList, biTup, biMax2, biMin2, bName, mApp, List.getElem?_cons_succ, List.getElem?_cons_zero, List.set_cons_succ, List.set_cons_zero, List.length_cons, List.length_nil, List.map_cons, List.map_nil, List.cons_append, List.nil_append, List.replicate_succ, List.replicate_zero, gc_WIDE, e, h0, e2, h]
theorem one_ok : D.okEq 60 (.int 1) = true := rfl
theorem fd_lens {rows : List D} (h0 : tupIn (.tup rows) 1 30 = true) (h : rowsOk rows = true) (hn : (nubI (rows.map rowLen)).length ≠ 1) (c : Cup) : g_fits_drawing [.tup rows] c = some (.bl false, c) := by
  obtain ⟨_, e0, l1, l2⟩ := tupIn_tup h0
  cases e0
  have hc : ∀ r ∈ rows, r ≠ .cup := fun r hr z => by subst z; have := (List.all_eq_true.mp h) _ hr; simp [tupIn] at this
  have e := tup_of (.tup rows) 1 30 (fun z => by cases z) c
  have e2 := rows_read hc (by rw [lim_eq]; omega) none none c
  have e3 := lens_read h (by omega) none none c
  unfold g_fits_drawing b_fits_drawing
  generalize dBi biAll (dCons (dLc [1] (dItems (dVar 0)) (bName 1) dYes (dCall g_is_tuple_of (dCons (dVar 1) (dCons (dC (.int 1)) (dCons (dC gc_WIDE) dNil))))) dNil) = R at e2 ⊢
  generalize dLenSet (dLc [1] (dItems (dVar 0)) (bName 1) dYes (dBi biLen (dCons (dVarP 1) dNil))) = L at e3 ⊢
  have e4 : opNe (.int ((nubI (rows.map rowLen)).length : Nat)) (.int 1) = some (.bl true) := by
    unfold opNe
    have : (((nubI (rows.map rowLen)).length : Int) == 1) = false := beq_eq_false_iff_ne.mpr (by omega)
    simp [D.okEq, D.eqv, this]
  simp [fD, startD, sSeq, sNext, sIf, sSet, sRet, sRetN, sDrop, sDropM, sPut, sPar2, sPar3, sAsg, sCup0, sCup1, sFrz, frz, sBreak, sCont, dTest, dBin, dChain, dVar, dVarP, dC, dCons, dNil, dTup, dLst, dAnd, dOr, dNot, dBl, dIf, dNeg, dCup0, dCup1, dBi, dBn, dCall, dIsi, isiD, opGt, opLt, opLe, opGe, opAdd, opSub, opMult, opFdiv, opMod, opPow, biInt, biStr, biLen, biList, biTup, biMax2, biMin2, bName, mApp, List.getElem?_cons_succ, List.getElem?_cons_zero, List.set_cons_succ, List.set_cons_zero, List.length_cons, List.length_nil, List.map_cons, List.map_nil, List.cons_append, List.nil_append, List.replicate_succ, List.replicate_zero, gc_WIDE, e, h0, e2, h, e3, e4]
def rowGood (r : D) : Bool := (cellsOf r).all ckD
theorem cells_loop {rows : List D} (h : rowsOk rows = true) (hk : ∀ r ∈ rows, ∀ d ∈ cellsOf r, okCell d) (c : Cup) :
    (rows.all rowGood = true → ∃ x, forGo (bName 1) (sSeq (sIf (dNot (dTest (dBi biAll (dCons (dLc [2] (dItems (dVar 1)) (bName 2) dYes (dIf (dTest (dCall g_fits_name (dCons (dVar 2) dNil))) (dC (.bl true)) (dIf (dTest (dIsi .str (dVarP 2))) (dBin opEq (dVarP 2) (dC gc_AIR)) (dC (.bl false))))) dNil)))) (sSeq (sRet (dC (.bl false))) sNext) sNext) sNext) rows [some (false, .tup rows), none, none] c = some (.nx [some (false, .tup rows), x, none] c)) ∧
    (rows.all rowGood = false → forGo (bName 1) (sSeq (sIf (dNot (dTest (dBi biAll (dCons (dLc [2] (dItems (dVar 1)) (bName 2) dYes (dIf (dTest (dCall g_fits_name (dCons (dVar 2) dNil))) (dC (.bl true)) (dIf (dTest (dIsi .str (dVarP 2))) (dBin opEq (dVarP 2) (dC gc_AIR)) (dC (.bl false))))) dNil)))) (sSeq (sRet (dC (.bl false))) sNext) sNext) sNext) rows [some (false, .tup rows), none, none] c = some (.rt (.bl false) c)) := by
  have rr := fun {cells : List D} (h : ∀ d ∈ cells, okCell d) hl x z c => row_read (cells := cells) h hl x z c
  generalize dBi biAll (dCons (dLc [2] (dItems (dVar 1)) (bName 2) dYes (dIf (dTest (dCall g_fits_name (dCons (dVar 2) dNil))) (dC (.bl true)) (dIf (dTest (dIsi .str (dVarP 2))) (dBin opEq (dVarP 2) (dC gc_AIR)) (dC (.bl false))))) dNil) = A at rr ⊢
  have t := for_test (bd := bName 1) (F := sSeq (sIf (dNot (dTest A)) (sSeq (sRet (dC (.bl false))) sNext) sNext) sNext) (fun ρ => ∃ x, ρ = [some (false, .tup rows), x, none]) rowGood (.bl false) c (ds := rows) (ρ := [some (false, .tup rows), none, none]) (fun d hd ρ ⟨x, e⟩ => by
    subst e
    obtain ⟨ds, rfl, l1, l2⟩ := tupIn_tup ((List.all_eq_true.mp h) d hd)
    have e := rr (cells := ds) (hk _ hd) (by rw [lim_eq]; omega) (some (false, .tup rows)) none c
    refine ⟨[some (false, .tup rows), some (false, .tup ds), none], by simp [bName], fun hq => ⟨_, ?_, some (false, .tup ds), rfl⟩, fun hq => ?_⟩
    · have hq : ds.all ckD = true := hq
      simp [sSeq, sIf, dNot, dTest, e, hq, sNext]
    · have hq : ds.all ckD = false := hq
      simp [sSeq, sIf, dNot, dTest, e, hq, sNext, sRet, dC]) ⟨none, rfl⟩
  refine ⟨fun hq => ?_, t.2⟩
  obtain ⟨ρ', h1, x, rfl⟩ := t.1 hq
  exact ⟨x, h1⟩
theorem good_row {r : D} (h1 : tupIn r 1 30 = true) (hk : ∀ d ∈ cellsOf r, okCell d) (h2 : rowGood r = true) : okRow r := by
  obtain ⟨ds, rfl, l1, l2⟩ := tupIn_tup h1
  refine ⟨ds, rfl, fun d hd => ?_, by omega⟩
  have g : ckD d = true := (List.all_eq_true.mp h2) d hd
  have k := hk d hd
  cases d <;> first | exact k | (simp [ckD] at g; done)
theorem fd_main {rows : List D} (h0 : tupIn (.tup rows) 1 30 = true) (h : rowsOk rows = true) (hn : (nubI (rows.map rowLen)).length = 1) (hk : ∀ r ∈ rows, ∀ d ∈ cellsOf r, okCell d) (c : Cup) :
    (rows.all rowGood = false → g_fits_drawing [.tup rows] c = some (.bl false, c)) ∧ (rows.all rowGood = true → g_fits_drawing [.tup rows] c = some (.bl (decide ((namesK rows).length ≤ 60) && decide ((notesK rows).length ≤ 200)), c)) := by
  obtain ⟨_, e0, l1, l2⟩ := tupIn_tup h0
  cases e0
  have hc : ∀ r ∈ rows, r ≠ .cup := fun r hr z => by subst z; have := (List.all_eq_true.mp h) _ hr; simp [tupIn] at this
  have e := tup_of (.tup rows) 1 30 (fun z => by cases z) c
  have e2 := rows_read hc (by rw [lim_eq]; omega) none none c
  have e3 := lens_read h (by omega) none none c
  have e4 := cells_loop h hk c
  rw [hn] at e3
  have e5 : opNe (.int 1) (.int 1) = some (.bl false) := rfl
  unfold g_fits_drawing b_fits_drawing
  generalize dBi biAll (dCons (dLc [1] (dItems (dVar 0)) (bName 1) dYes (dCall g_is_tuple_of (dCons (dVar 1) (dCons (dC (.int 1)) (dCons (dC gc_WIDE) dNil))))) dNil) = R at e2 ⊢
  generalize dLenSet (dLc [1] (dItems (dVar 0)) (bName 1) dYes (dBi biLen (dCons (dVarP 1) dNil))) = L at e3 ⊢
  generalize sSeq (sIf (dNot (dTest (dBi biAll (dCons (dLc [2] (dItems (dVar 1)) (bName 2) dYes (dIf (dTest (dCall g_fits_name (dCons (dVar 2) dNil))) (dC (.bl true)) (dIf (dTest (dIsi .str (dVarP 2))) (dBin opEq (dVarP 2) (dC gc_AIR)) (dC (.bl false))))) dNil)))) (sSeq (sRet (dC (.bl false))) sNext) sNext) sNext = F at e4 ⊢
  refine ⟨fun hq => ?_, fun hq => ?_⟩
  · have e6 := e4.2 hq
    simp [fD, startD, sSeq, sNext, sIf, sSet, sRet, sRetN, sDrop, sDropM, sPut, sPar2, sPar3, sAsg, sCup0, sCup1, sFrz, frz, sBreak, sCont, dTest, dBin, dChain, dVar, dVarP, dC, dCons, dNil, dTup, dLst, dAnd, dOr, dNot, dBl, dIf, dNeg, dCup0, dCup1, dBi, dBn, dCall, dIsi, isiD, opGt, opLt, opLe, opGe, opAdd, opSub, opMult, opFdiv, opMod, opPow, biInt, biStr, biLen, biList, biTup, biMax2, biMin2, bName, mApp, List.getElem?_cons_succ, List.getElem?_cons_zero, List.set_cons_succ, List.set_cons_zero, List.length_cons, List.length_nil, List.map_cons, List.map_nil, List.cons_append, List.nil_append, List.replicate_succ, List.replicate_zero, gc_WIDE, e, h0, e2, h, e3, e5, sFor, dItems, itemsD, e6]
  · obtain ⟨x, e6⟩ := e4.1 hq
    have hr : ∀ r ∈ rows, okRow r := fun r hr => good_row ((List.all_eq_true.mp h) r hr) (hk r hr) ((List.all_eq_true.mp hq) r hr)
    have e7 := names_in hr (by omega) c
    have e8 := notes_in hr (by omega) c
    have s1 := sortD_len (namesK rows)
    have s2 := sortD_len (notesK rows)
    by_cases g1 : (namesK rows).length ≤ 60
    · have g1' : ((namesK rows).length : Int) ≤ 60 := by omega
      by_cases g2 : (notesK rows).length ≤ 200
      · have g2' : ((notesK rows).length : Int) ≤ 200 := by omega
        simp [fD, startD, sSeq, sNext, sIf, sSet, sRet, sRetN, sDrop, sDropM, sPut, sPar2, sPar3, sAsg, sCup0, sCup1, sFrz, frz, sBreak, sCont, dTest, dBin, dChain, dVar, dVarP, dC, dCons, dNil, dTup, dLst, dAnd, dOr, dNot, dBl, dIf, dNeg, dCup0, dCup1, dBi, dBn, dCall, dIsi, isiD, opGt, opLt, opLe, opGe, opAdd, opSub, opMult, opFdiv, opMod, opPow, biInt, biStr, biLen, biList, biTup, biMax2, biMin2, bName, mApp, List.getElem?_cons_succ, List.getElem?_cons_zero, List.set_cons_succ, List.set_cons_zero, List.length_cons, List.length_nil, List.map_cons, List.map_nil, List.cons_append, List.nil_append, List.replicate_succ, List.replicate_zero, gc_WIDE, gc_CONTEXTS, gc_NOTES, e, h0, e2, h, e3, e5, sFor, dItems, itemsD, e6, e7, e8, s1, s2, g1, g2, g1', g2']
      · have g2' : ¬ ((notesK rows).length : Int) ≤ 200 := by omega
        simp [fD, startD, sSeq, sNext, sIf, sSet, sRet, sRetN, sDrop, sDropM, sPut, sPar2, sPar3, sAsg, sCup0, sCup1, sFrz, frz, sBreak, sCont, dTest, dBin, dChain, dVar, dVarP, dC, dCons, dNil, dTup, dLst, dAnd, dOr, dNot, dBl, dIf, dNeg, dCup0, dCup1, dBi, dBn, dCall, dIsi, isiD, opGt, opLt, opLe, opGe, opAdd, opSub, opMult, opFdiv, opMod, opPow, biInt, biStr, biLen, biList, biTup, biMax2, biMin2, bName, mApp, List.getElem?_cons_succ, List.getElem?_cons_zero, List.set_cons_succ, List.set_cons_zero, List.length_cons, List.length_nil, List.map_cons, List.map_nil, List.cons_append, List.nil_append, List.replicate_succ, List.replicate_zero, gc_WIDE, gc_CONTEXTS, gc_NOTES, e, h0, e2, h, e3, e5, sFor, dItems, itemsD, e6, e7, e8, s1, s2, g1, g2, g1', g2']
    · have g1' : ¬ ((namesK rows).length : Int) ≤ 60 := by omega
      simp [fD, startD, sSeq, sNext, sIf, sSet, sRet, sRetN, sDrop, sDropM, sPut, sPar2, sPar3, sAsg, sCup0, sCup1, sFrz, frz, sBreak, sCont, dTest, dBin, dChain, dVar, dVarP, dC, dCons, dNil, dTup, dLst, dAnd, dOr, dNot, dBl, dIf, dNeg, dCup0, dCup1, dBi, dBn, dCall, dIsi, isiD, opGt, opLt, opLe, opGe, opAdd, opSub, opMult, opFdiv, opMod, opPow, biInt, biStr, biLen, biList, biTup, biMax2, biMin2, bName, mApp, List.getElem?_cons_succ, List.getElem?_cons_zero, List.set_cons_succ, List.set_cons_zero, List.length_cons, List.length_nil, List.map_cons, List.map_nil, List.cons_append, List.nil_append, List.replicate_succ, List.replicate_zero, gc_WIDE, gc_CONTEXTS, gc_NOTES, e, h0, e2, h, e3, e5, sFor, dItems, itemsD, e6, e7, e8, s1, s2, g1, g1']
/-- is_drawing is fits_drawing -/
theorem is_dr (d : D) (c : Cup) : g_is_drawing [d] c = g_fits_drawing [d] c := by
  cases h : g_fits_drawing [d] c with
  | none => simp [g_is_drawing, b_is_drawing, fD, startD, sSeq, sNext, sIf, sSet, sRet, sRetN, sDrop, sDropM, sPut, sPar2, sPar3, sAsg, sCup0, sCup1, sFrz, frz, sBreak, sCont, dTest, dBin, dChain, dVar, dVarP, dC, dCons, dNil, dTup, dLst, dAnd, dOr, dNot, dBl, dIf, dNeg, dCup0, dCup1, dBi, dBn, dCall, dIsi, isiD, opGt, opLt, opLe, opGe, opAdd, opSub, opMult, opFdiv, opMod, opPow, biInt, biStr, biLen, biList, biTup, biMax2, biMin2, bName, mApp, List.getElem?_cons_succ, List.getElem?_cons_zero, List.set_cons_succ, List.set_cons_zero, List.length_cons, List.length_nil, List.map_cons, List.map_nil, List.cons_append, List.nil_append, List.replicate_succ, List.replicate_zero, h]
  | some x => simp [g_is_drawing, b_is_drawing, fD, startD, sSeq, sNext, sIf, sSet, sRet, sRetN, sDrop, sDropM, sPut, sPar2, sPar3, sAsg, sCup0, sCup1, sFrz, frz, sBreak, sCont, dTest, dBin, dChain, dVar, dVarP, dC, dCons, dNil, dTup, dLst, dAnd, dOr, dNot, dBl, dIf, dNeg, dCup0, dCup1, dBi, dBn, dCall, dIsi, isiD, opGt, opLt, opLe, opGe, opAdd, opSub, opMult, opFdiv, opMod, opPow, biInt, biStr, biLen, biList, biTup, biMax2, biMin2, bName, mApp, List.getElem?_cons_succ, List.getElem?_cons_zero, List.set_cons_succ, List.set_cons_zero, List.length_cons, List.length_nil, List.map_cons, List.map_nil, List.cons_append, List.nil_append, List.replicate_succ, List.replicate_zero, h]
theorem need_dr {d : D} {c : Cup} (h : g_fits_drawing [d] c = some (.bl true, c)) : g_need_drawing [d] c = some (.non, c) := by
  simp [g_need_drawing, b_need_drawing, fD, startD, sSeq, sNext, sIf, sSet, sRet, sRetN, sDrop, sDropM, sPut, sPar2, sPar3, sAsg, sCup0, sCup1, sFrz, frz, sBreak, sCont, dTest, dBin, dChain, dVar, dVarP, dC, dCons, dNil, dTup, dLst, dAnd, dOr, dNot, dBl, dIf, dNeg, dCup0, dCup1, dBi, dBn, dCall, dIsi, isiD, opGt, opLt, opLe, opGe, opAdd, opSub, opMult, opFdiv, opMod, opPow, biInt, biStr, biLen, biList, biTup, biMax2, biMin2, bName, mApp, List.getElem?_cons_succ, List.getElem?_cons_zero, List.set_cons_succ, List.set_cons_zero, List.length_cons, List.length_nil, List.map_cons, List.map_nil, List.cons_append, List.nil_append, List.replicate_succ, List.replicate_zero, h]
theorem names_of {rows : List D} (hf : ∀ c, g_fits_drawing [.tup rows] c = some (.bl true, c)) (h : ∀ r ∈ rows, okRow r) (hl : rows.length ≤ 40) (c : Cup) : g_names_of [.tup rows] c = some (.tup (sortD (namesK rows)), c) := by
  simp [g_names_of, b_names_of, fD, startD, sSeq, sNext, sIf, sSet, sRet, sRetN, sDrop, sDropM, sPut, sPar2, sPar3, sAsg, sCup0, sCup1, sFrz, frz, sBreak, sCont, dTest, dBin, dChain, dVar, dVarP, dC, dCons, dNil, dTup, dLst, dAnd, dOr, dNot, dBl, dIf, dNeg, dCup0, dCup1, dBi, dBn, dCall, dIsi, isiD, opGt, opLt, opLe, opGe, opAdd, opSub, opMult, opFdiv, opMod, opPow, biInt, biStr, biLen, biList, biTup, biMax2, biMin2, bName, mApp, List.getElem?_cons_succ, List.getElem?_cons_zero, List.set_cons_succ, List.set_cons_zero, List.length_cons, List.length_nil, List.map_cons, List.map_nil, List.cons_append, List.nil_append, List.replicate_succ, List.replicate_zero, need_dr (hf c), names_in h hl]
theorem drawn_notes {rows : List D} (hf : ∀ c, g_fits_drawing [.tup rows] c = some (.bl true, c)) (h : ∀ r ∈ rows, okRow r) (hl : rows.length ≤ 40) (c : Cup) : g_drawn_notes [.tup rows] c = some (.tup (sortD (notesK rows)), c) := by
  simp [g_drawn_notes, b_drawn_notes, fD, startD, sSeq, sNext, sIf, sSet, sRet, sRetN, sDrop, sDropM, sPut, sPar2, sPar3, sAsg, sCup0, sCup1, sFrz, frz, sBreak, sCont, dTest, dBin, dChain, dVar, dVarP, dC, dCons, dNil, dTup, dLst, dAnd, dOr, dNot, dBl, dIf, dNeg, dCup0, dCup1, dBi, dBn, dCall, dIsi, isiD, opGt, opLt, opLe, opGe, opAdd, opSub, opMult, opFdiv, opMod, opPow, biInt, biStr, biLen, biList, biTup, biMax2, biMin2, bName, mApp, List.getElem?_cons_succ, List.getElem?_cons_zero, List.set_cons_succ, List.set_cons_zero, List.length_cons, List.length_nil, List.map_cons, List.map_nil, List.cons_append, List.nil_append, List.replicate_succ, List.replicate_zero, need_dr (hf c), notes_in h hl]
end K46
end
section
namespace K46
open PySem L2 DL
/-! alike -/
def sameOk : Nat → D → Prop
  | _, .non => True
  | _, .bl _ => True
  | _, .int _ => True
  | _, .str s => PyData.strOk s = true
  | n + 1, .tup ds => ds.length ≤ lim ∧ ∀ d ∈ ds, sameOk n d
  | _, _ => False
theorem same_self : ∀ (n : Nat) (d : D) (c : Cup), sameOk n d → g__law_same (n + 1) [d, d] c = some (.bl true, c)
  | n, .non, c, _ => by simp [g__law_same, b__law_same, fD, startD, sSeq, sNext, sIf, sSet, sRet, sRetN, sDrop, sDropM, sPut, sPar2, sPar3, sAsg, sCup0, sCup1, sFrz, frz, sBreak, sCont, dTest, dBin, dChain, dVar, dVarP, dC, dCons, dNil, dTup, dLst, dAnd, dOr, dNot, dBl, dIf, dNeg, dCup0, dCup1, dBi, dBn, dCall, dIsi, isiD, opGt, opLt, opLe, opGe, opAdd, opSub, opMult, opFdiv, opMod, opPow, biInt, biStr, biLen, biList, biTup, biMax2, biMin2, bName, mApp, List.getElem?_cons_succ, List.getElem?_cons_zero, List.set_cons_succ, List.set_cons_zero, List.length_cons, List.length_nil, List.map_cons, List.map_nil, List.cons_append, List.nil_append, List.replicate_succ, List.replicate_zero, opIs, isD]
  | n, .bl b, c, _ => by cases b <;> simp [g__law_same, b__law_same, fD, startD, sSeq, sNext, sIf, sSet, sRet, sRetN, sDrop, sDropM, sPut, sPar2, sPar3, sAsg, sCup0, sCup1, sFrz, frz, sBreak, sCont, dTest, dBin, dChain, dVar, dVarP, dC, dCons, dNil, dTup, dLst, dAnd, dOr, dNot, dBl, dIf, dNeg, dCup0, dCup1, dBi, dBn, dCall, dIsi, isiD, opGt, opLt, opLe, opGe, opAdd, opSub, opMult, opFdiv, opMod, opPow, biInt, biStr, biLen, biList, biTup, biMax2, biMin2, bName, mApp, List.getElem?_cons_succ, List.getElem?_cons_zero, List.set_cons_succ, List.set_cons_zero, List.length_cons, List.length_nil, List.map_cons, List.map_nil, List.cons_append, List.nil_append, List.replicate_succ, List.replicate_zero, opIs, isD]
  | n, .int i, c, _ => by
    have e : opEq (.int i) (.int i) = some (.bl true) := by unfold opEq; simp [D.okEq, D.eqv]
    simp [g__law_same, b__law_same, fD, startD, sSeq, sNext, sIf, sSet, sRet, sRetN, sDrop, sDropM, sPut, sPar2, sPar3, sAsg, sCup0, sCup1, sFrz, frz, sBreak, sCont, dTest, dBin, dChain, dVar, dVarP, dC, dCons, dNil, dTup, dLst, dAnd, dOr, dNot, dBl, dIf, dNeg, dCup0, dCup1, dBi, dBn, dCall, dIsi, isiD, opGt, opLt, opLe, opGe, opAdd, opSub, opMult, opFdiv, opMod, opPow, biInt, biStr, biLen, biList, biTup, biMax2, biMin2, bName, mApp, List.getElem?_cons_succ, List.getElem?_cons_zero, List.set_cons_succ, List.set_cons_zero, List.length_cons, List.length_nil, List.map_cons, List.map_nil, List.cons_append, List.nil_append, List.replicate_succ, List.replicate_zero, opIs, isD, e]
  | n, .str s, c, h => by
    have h : PyData.strOk s = true := by cases n <;> exact h
    have e : opEq (.str s) (.str s) = some (.bl true) := by unfold opEq; rw [okS, h]; simp [D.eqv]
    simp [g__law_same, b__law_same, fD, startD, sSeq, sNext, sIf, sSet, sRet, sRetN, sDrop, sDropM, sPut, sPar2, sPar3, sAsg, sCup0, sCup1, sFrz, frz, sBreak, sCont, dTest, dBin, dChain, dVar, dVarP, dC, dCons, dNil, dTup, dLst, dAnd, dOr, dNot, dBl, dIf, dNeg, dCup0, dCup1, dBi, dBn, dCall, dIsi, isiD, opGt, opLt, opLe, opGe, opAdd, opSub, opMult, opFdiv, opMod, opPow, biInt, biStr, biLen, biList, biTup, biMax2, biMin2, bName, mApp, List.getElem?_cons_succ, List.getElem?_cons_zero, List.set_cons_succ, List.set_cons_zero, List.length_cons, List.length_nil, List.map_cons, List.map_nil, List.cons_append, List.nil_append, List.replicate_succ, List.replicate_zero, opIs, isD, e]
  | 0, .tup ds, c, h => h.elim
  | n, .lst ds, c, h => by cases n <;> exact h.elim
  | n, .dic ks ds, c, h => by cases n <;> exact h.elim
  | n, .cup, c, h => by cases n <;> exact h.elim
  | n + 1, .tup ds, c, h => by
    obtain ⟨hl, h⟩ := h
    have e : opNe (.int ds.length) (.int ds.length) = some (.bl false) := by unfold opNe; simp [D.okEq, D.eqv]
    have hi : dRng1 (dCons (dBi biLen (dCons (dVarP 1) dNil)) dNil) [some (false, .tup ds), some (false, .tup ds), none] c = some (intsD 0 ds.length, c) := by
      rw [lim_eq] at hl
      simp [dRng1, dCons, dBi, dVarP, dNil, biLen, lim_eq]
      omega
    have a := all_lc (vs := [2]) (bd := bName 2) (elt := dCall (g__law_same (n + 1)) (dCons (dBin opIx (dVarP 0) (dVarP 2)) (dCons (dBin opIx (dVarP 1) (dVarP 2)) dNil))) (fun _ => true) hi (by simp [intsD]; exact hl) (fun d hd => by
      unfold intsD at hd
      obtain ⟨i, hi, rfl⟩ := List.mem_map.mp hd
      have hi := List.mem_range.mp hi
      refine ⟨[some (false, .tup ds), some (false, .tup ds), some (false, .int (0 + (i : Int)))], by simp [wipeD, bName], fun c => ?_⟩
      have a1 : atI ds (0 + (i : Int)) = some ds[i] := by rw [Int.zero_add]; exact atI_nat (List.getElem?_eq_getElem hi)
      have ih := same_self n ds[i] c (h _ (List.getElem_mem hi))
      simp only [dCall, dCons, dBin, dVarP, dNil, List.getElem?_cons_succ, List.getElem?_cons_zero, opIx, a1, ih])
    have a' : ∀ (l : List D), l.all (fun _ => true) = true := fun l => by simp
    rw [a'] at a
    unfold g__law_same b__law_same
    generalize dBi biAll (dCons (dLc [2] (dRng1 (dCons (dBi biLen (dCons (dVarP 1) dNil)) dNil)) (bName 2) dYes (dCall (g__law_same (n + 1)) (dCons (dBin opIx (dVarP 0) (dVarP 2)) (dCons (dBin opIx (dVarP 1) (dVarP 2)) dNil)))) dNil) = A at a ⊢
    simp [fD, startD, sSeq, sNext, sIf, sSet, sRet, sRetN, sDrop, sDropM, sPut, sPar2, sPar3, sAsg, sCup0, sCup1, sFrz, frz, sBreak, sCont, dTest, dBin, dChain, dVar, dVarP, dC, dCons, dNil, dTup, dLst, dAnd, dOr, dNot, dBl, dIf, dNeg, dCup0, dCup1, dBi, dBn, dCall, dIsi, isiD, opGt, opLt, opLe, opGe, opAdd, opSub, opMult, opFdiv, opMod, opPow, biInt, biStr, biLen, biList, biTup, biMax2, biMin2, bName, mApp, List.getElem?_cons_succ, List.getElem?_cons_zero, List.set_cons_succ, List.set_cons_zero, List.length_cons, List.length_nil, List.map_cons, List.map_nil, List.cons_append, List.nil_append, List.replicate_succ, List.replicate_zero, e, a]
theorem sameOk_le : ∀ {m n : Nat} {d : D}, m ≤ n → sameOk m d → sameOk n d
  | m, n, .non, _, h => by cases n <;> trivial
  | m, n, .bl _, _, h => by cases n <;> trivial
  | m, n, .int _, _, h => by cases n <;> trivial
  | m, n, .str s, _, h => by cases m <;> cases n <;> exact h
  | 0, n, .tup ds, _, h => h.elim
  | m + 1, 0, .tup ds, hl, h => by omega
  | m + 1, n + 1, .tup ds, hl, h => ⟨h.1, fun d hd => sameOk_le (by omega) (h.2 d hd)⟩
  | m, n, .lst _, _, h => by cases m <;> exact h.elim
  | m, n, .dic _ _, _, h => by cases m <;> exact h.elim
  | m, n, .cup, _, h => by cases m <;> exact h.elim
theorem same20 {d : D} {c : Cup} (h : sameOk 19 d) : g__law_same 20 [d, d] c = some (.bl true, c) := same_self 19 d c h
/-! the names drawn -/
def POOL : List Str := ["c" ++ "", "c" ++ "a", "c" ++ "ab", "c" ++ "b", "c" ++ "b1", "c" ++ "c", "c" ++ "z9", "c" ++ "z", "c" ++ "q", "c" ++ "x", "c" ++ "x1", "c" ++ "m", "c" ++ "n", "c" ++ "t", "c" ++ "w"]
theorem pool_ok : ∀ s ∈ POOL, PyData.strOk s = true ∧ s.length ≤ 12 ∧ fitsS s = true ∧ (s == ".") = false := by decide +kernel
theorem pool_nd : POOL.Nodup := by decide +kernel
theorem filter_len {x : Str} : ∀ {l : List Str}, l.Nodup → l.length ≤ (l.filter fun s => !(s == x)).length + 1
  | [], _ => by simp
  | a :: l, h => by
    obtain ⟨h1, h2⟩ := List.nodup_cons.mp h
    by_cases e : a = x
    · subst e
      have : l.filter (fun s => !(s == a)) = l := List.filter_eq_self.mpr fun s hs => by
        have : s ≠ a := fun z => h1 (z ▸ hs)
        simp [this]
      rw [List.filter_cons_of_neg (by simp), this, List.length_cons]
      exact Nat.le_refl _
    · have := filter_len (x := x) h2
      rw [List.filter_cons_of_pos (by simp [e]), List.length_cons, List.length_cons]
      omega
theorem eqStr (s t : Str) (h : PyData.strOk s = true) (h2 : PyData.strOk t = true) : opNe (.str s) (.str t) = some (.bl (!(s == t))) := by
  unfold opNe
  rw [okS, okS, h, h2]
  simp only [D.eqv, Bool.and_self, if_true]
theorem atI_end {xs : List D} {x : D} : atI (xs ++ [x]) (-1) = some x := atI_last xs x
/-- many names -/
theorem names_drawn (c : Cup) (hc : CupOk c) (many : Nat) (h1 : 1 ≤ many) (h9 : many ≤ 9) : ∃ (fs : List Str) (c' : Cup), g__law_names [.cup, .int many, .str "c"] c = some (.lst (fs.map .str), c') ∧ fs.length = many ∧ (∀ s ∈ fs, s ∈ POOL) ∧ CupOk c' := by
  have pool0 : dLc [6] (dItems (dLst (dCons (dC (.str "")) (dCons (dC (.str "a")) (dCons (dC (.str "ab")) (dCons (dC (.str "b")) (dCons (dC (.str "b1")) (dCons (dC (.str "c")) (dCons (dC (.str "z9")) (dCons (dC (.str "z")) (dCons (dC (.str "q")) (dCons (dC (.str "x")) (dCons (dC (.str "x1")) (dCons (dC (.str "m")) (dCons (dC (.str "n")) (dCons (dC (.str "t")) (dCons (dC (.str "w")) dNil))))))))))))))))) (bName 6) dYes (dBin opAdd (dVarP 2) (dVarP 6)) [some (false, .cup), some (false, .int many), some (false, .str "c"), none, none, none, none] c = some (.lst (POOL.map .str), c) := rfl
  unfold g__law_names b__law_names
  generalize dLc [6] (dItems (dLst (dCons (dC (.str "")) (dCons (dC (.str "a")) (dCons (dC (.str "ab")) (dCons (dC (.str "b")) (dCons (dC (.str "b1")) (dCons (dC (.str "c")) (dCons (dC (.str "z9")) (dCons (dC (.str "z")) (dCons (dC (.str "q")) (dCons (dC (.str "x")) (dCons (dC (.str "x1")) (dCons (dC (.str "m")) (dCons (dC (.str "n")) (dCons (dC (.str "t")) (dCons (dC (.str "w")) dNil))))))))))))))))) (bName 6) dYes (dBin opAdd (dVarP 2) (dVarP 6)) = PL at pool0 ⊢
  have hlen : (intsD 0 many).length = many := by simp [intsD]
  have loop := for_inv (n := 0) (ds := intsD 0 many) (ρ := [some (false, .cup), some (false, .int many), some (false, .str "c"), none, some (true, .lst []), some (false, .lst (POOL.map .str)), none]) (c := c) (bd := bName 3)
    (F := sSeq (sDropM (mApp 4 (dCall g__law_some (dCons (dVar 0) (dCons (dVar 5) dNil))))) (sSeq (sSet false 5 (dLc [6] (dItems (dVar 5)) (bName 6) (dTest (dBin opNe (dVarP 6) (dBin opIx (dVarP 4) (dNeg (dC (.int 1)))))) (dVar 6))) sNext))
    (fun i ρ c' => ∃ (fs pool : List Str) (x : Option (Bool × D)), ρ = [some (false, .cup), some (false, .int many), some (false, .str "c"), x, some (true, .lst (fs.map .str)), some (false, .lst (pool.map .str)), none] ∧ fs.length = i ∧ (∀ s ∈ fs, s ∈ POOL) ∧ (∀ s ∈ pool, s ∈ POOL) ∧ pool.Nodup ∧ 15 ≤ pool.length + i ∧ pool.length ≤ 15 ∧ CupOk c')
    (fun i d ρ c' hd ⟨fs, pool, x, e, f1, f2, p1, p2, p3, p4, hc'⟩ => by
      subst e
      rw [Nat.zero_add] at f1 p3
      have hi : i < many := by rw [← hlen]; exact (List.getElem?_eq_some_iff.mp hd).1
      obtain ⟨d1, hd1, c2, e1, hc2⟩ := some_of c' hc' (pool.map .str) (by rw [List.length_map]; omega) (by rw [List.length_map, lim_eq]; omega)
      obtain ⟨s, hs, rfl⟩ := List.mem_map.mp hd1
      have so := pool_ok s (p1 s hs)
      have flt := lc_pure (vs := [6]) (bd := bName 6) (test := dTest (dBin opNe (dVarP 6) (dBin opIx (dVarP 4) (dNeg (dC (.int 1)))))) (elt := dVar 6) (it := dItems (dVar 5))
        (ρ := [some (false, .cup), some (false, .int many), some (false, .str "c"), some (false, d), some (true, .lst (fs.map .str ++ [.str s])), some (false, .lst (pool.map .str)), none]) (c := c2) (c1 := c2) (ds := pool.map .str)
        (fun d => match d with | .str t => !(t == s) | _ => true) id (by simp [dItems, dVar, itemsD]) (by rw [List.length_map, lim_eq]; omega) (fun d2 hd2 => by
          obtain ⟨t, ht, rfl⟩ := List.mem_map.mp hd2
          have to := pool_ok t (p1 t ht)
          exact ⟨[some (false, .cup), some (false, .int many), some (false, .str "c"), some (false, d), some (true, .lst (fs.map .str ++ [.str s])), some (false, .lst (pool.map .str)), some (false, .str t)], by simp [wipeD, bName], fun c => by simp [dTest, dBin, dVarP, dNeg, dC, opIx, atI_end, eqStr t s to.1 so.1], fun _ c => by simp [dVar]⟩)
      have fm : ((pool.map D.str).filter (fun d => match d with | .str t => !(t == s) | _ => true)).map id = (pool.filter fun t => !(t == s)).map .str := by
        rw [List.map_id, List.filter_map]
        rfl
      rw [fm] at flt
      refine ⟨[some (false, .cup), some (false, .int many), some (false, .str "c"), some (false, d), some (true, .lst (fs.map .str)), some (false, .lst (pool.map .str)), none], _, c2, by simp [bName], ?_, fs ++ [s], pool.filter (fun t => !(t == s)), some (false, d), rfl, ?_, ?_, ?_, ?_, ?_, ?_, hc2⟩
      · generalize dLc [6] (dItems (dVar 5)) (bName 6) (dTest (dBin opNe (dVarP 6) (dBin opIx (dVarP 4) (dNeg (dC (.int 1)))))) (dVar 6) = FL at flt ⊢
        have l1 : (fs.map D.str).length < lim := by rw [List.length_map, lim_eq]; omega
        simp only [sSeq, sDropM, mApp, dCall, dCons, dVar, dNil, List.getElem?_cons_succ, List.getElem?_cons_zero, e1, l1, if_true, List.set_cons_succ, List.set_cons_zero, sSet, flt, List.length_cons, List.length_nil, sNext, List.map_append, List.map_cons, List.map_nil]
        rfl
      · rw [List.length_append, List.length_singleton]; omega
      · intro t ht
        rcases List.mem_append.mp ht with z | z
        · exact f2 t z
        · rw [List.mem_singleton.mp z]; exact p1 s hs
      · exact fun t ht => p1 t (List.mem_filter.mp ht).1
      · exact p2.filter _
      · have := filter_len (x := s) p2
        omega
      · have := List.length_filter_le (fun t => !(t == s)) pool
        omega)
    ⟨[], POOL, none, rfl, rfl, (fun _ z => by cases z), fun _ h => h, pool_nd, by decide, by decide, hc⟩
  obtain ⟨ρ', c', h1, fs, pool, x, e, f1, f2, _, _, _, _, hc'⟩ := loop
  subst e
  rw [hlen, Nat.zero_add] at f1
  refine ⟨fs, c', ?_, f1, f2, hc'⟩
  have er : dRng1 (dCons (dVarP 1) dNil) [some (false, .cup), some (false, .int many), some (false, .str "c"), none, some (true, .lst []), some (false, .lst (POOL.map .str)), none] c = some (intsD 0 many, c) := by
    simp [dRng1, dCons, dVarP, dNil, lim_eq]
    omega
  generalize sSeq (sDropM (mApp 4 (dCall g__law_some (dCons (dVar 0) (dCons (dVar 5) dNil))))) (sSeq (sSet false 5 (dLc [6] (dItems (dVar 5)) (bName 6) (dTest (dBin opNe (dVarP 6) (dBin opIx (dVarP 4) (dNeg (dC (.int 1)))))) (dVar 6))) sNext) = F at h1 ⊢
  generalize dRng1 (dCons (dVarP 1) dNil) = Z at er ⊢
  simp [fD, startD, sSeq, sNext, sIf, sSet, sRet, sRetN, sDrop, sDropM, sPut, sPar2, sPar3, sAsg, sCup0, sCup1, sFrz, frz, sBreak, sCont, dTest, dBin, dChain, dVar, dVarP, dC, dCons, dNil, dTup, dLst, dAnd, dOr, dNot, dBl, dIf, dNeg, dCup0, dCup1, dBi, dBn, dCall, dIsi, isiD, opGt, opLt, opLe, opGe, opAdd, opSub, opMult, opFdiv, opMod, opPow, biInt, biStr, biLen, biList, biTup, biMax2, biMin2, bName, mApp, List.getElem?_cons_succ, List.getElem?_cons_zero, List.set_cons_succ, List.set_cons_zero, List.length_cons, List.length_nil, List.map_cons, List.map_nil, List.cons_append, List.nil_append, List.replicate_succ, List.replicate_zero, pool0, sFor, er, h1]
/-! the drawing drawn -/
def okC (d : D) : Prop := okT d ∧ ckD d = true
theorem okC_air : okC (.str ".") := ⟨⟨air_ok, by decide⟩, by simp [ckD]⟩
theorem okC_pool {s : Str} (h : s ∈ POOL) : okC (.str s) := by
  obtain ⟨h1, h2, h3, _⟩ := pool_ok s h
  exact ⟨⟨h1, by rw [lim_eq]; omega⟩, by simp [ckD, h3]⟩
theorem okEqs_T : ∀ {ds : List D}, (∀ d ∈ ds, okT d) → ∀ n, D.okEqs n ds = true
  | [], _, _ => rfl
  | d :: ds, h, n => by
    simp only [D.okEqs, Bool.and_eq_true]
    exact ⟨okEq_T (h d List.mem_cons_self) n, okEqs_T (fun e he => h e (List.mem_cons_of_mem _ he)) n⟩
theorem okEqs_rows {n : Nat} : ∀ {ds : List D}, (∀ d ∈ ds, ∃ cs, d = .tup cs ∧ ∀ e ∈ cs, okT e) → D.okEqs (n + 1) ds = true
  | [], _ => rfl
  | d :: ds, h => by
    simp only [D.okEqs, Bool.and_eq_true]
    refine ⟨?_, okEqs_rows fun e he => h e (List.mem_cons_of_mem _ he)⟩
    obtain ⟨cs, rfl, hc⟩ := h d List.mem_cons_self
    simp only [D.okEq]
    exact okEqs_T hc n
theorem ne_empty {xs : List D} (h : D.okEqs 59 xs = true) : opNe (.tup xs) (.tup []) = some (.bl (!xs.isEmpty)) := by
  unfold opNe
  have h1 : D.okEq 60 (.tup xs) = true := by simp only [D.okEq]; exact h
  rw [h1]
  cases xs <;> simp [D.okEq, D.okEqs, D.eqv, D.eqvs]
structure RowC (cols : Nat) (d : D) : Prop where
  ex : ∃ cs, d = .tup cs ∧ cs.length = cols ∧ ∀ e ∈ cs, okC e
theorem last_of {α : Type} {xs : List α} (h : xs ≠ []) : ∃ ys x, xs = ys ++ [x] := ⟨xs.dropLast, xs.getLast h, (List.dropLast_concat_getLast h).symm⟩
/-- a turn at a column -/
theorem cell_turn (rows cols : Nat) (hcol : cols ≤ 7) (names : List Str) (hn0 : 0 < names.length) (hn9 : names.length ≤ 9) (hn : ∀ s ∈ names, s ∈ POOL) (found cells : List D) (hf : ∀ d ∈ found, RowC cols d) (hc : ∀ d ∈ cells, okC d) (hl : cells.length < cols) (c : Cup) (hcup : CupOk c) (at' x y : Option (Bool × D)) :
    ∃ d a b c', okC d ∧ CupOk c' ∧ (sSeq (sPar2 false false 8 9 (dIf (dTest (dBin opNe (dVarP 4) (dTup dNil))) (dBin opIx (dBin opIx (dVarP 4) (dNeg (dC (.int 1)))) (dVarP 6)) (dC (.str "."))) (dIf (dTest (dBin opNe (dVarP 7) (dTup dNil))) (dBin opIx (dVarP 7) (dNeg (dC (.int 1)))) (dC (.str "."))))
      (sSeq (sSet false 7 (dBin opAdd (dVarP 7) (dTup (dCons (dCall g__law_some (dCons (dVar 0) (dCons (dLst (dCons (dVar 8) (dCons (dVar 8) (dCons (dVar 9) (dCons (dC (.str ".")) (dCons (dCall g__law_some (dCons (dVar 0) (dCons (dVar 3) dNil))) (dCons (dCall g__law_some (dCons (dVar 0) (dCons (dVar 3) dNil))) dNil))))))) dNil))) dNil)))) sNext))
      [some (false, .cup), some (false, .int rows), some (false, .int cols), some (false, .lst (names.map .str)), some (false, .tup found), at', some (false, .int cells.length), some (false, .tup cells), x, y] c =
      some (.nx [some (false, .cup), some (false, .int rows), some (false, .int cols), some (false, .lst (names.map .str)), some (false, .tup found), at', some (false, .int cells.length), some (false, .tup (cells ++ [d])), a, b] c') := by
  have ef : opNe (.tup found) (.tup []) = some (.bl (!found.isEmpty)) := ne_empty (okEqs_rows (n := 58) fun d hd => let ⟨cs, e, _, h⟩ := (hf d hd).ex; ⟨cs, e, fun e he => (h e he).1⟩)
  have ec : opNe (.tup cells) (.tup []) = some (.bl (!cells.isEmpty)) := ne_empty (okEqs_T (fun d hd => (hc d hd).1) 59)
  -- above
  obtain ⟨ab, hab, eab⟩ : ∃ ab, okC ab ∧ dIf (dTest (dBin opNe (dVarP 4) (dTup dNil))) (dBin opIx (dBin opIx (dVarP 4) (dNeg (dC (.int 1)))) (dVarP 6)) (dC (.str ".")) [some (false, .cup), some (false, .int rows), some (false, .int cols), some (false, .lst (names.map .str)), some (false, .tup found), at', some (false, .int cells.length), some (false, .tup cells), x, y] c = some (ab, c) := by
    by_cases h0 : found = []
    · subst h0
      exact ⟨.str ".", okC_air, by simp [dIf, dTest, dBin, dVarP, dTup, dNil, ef, dC]⟩
    · obtain ⟨ys, r, e⟩ := last_of h0
      obtain ⟨cs, er, lr, hr⟩ := (hf r (by rw [e]; simp)).ex
      have hlt : cells.length < cs.length := by omega
      have a1 : atI found (-1) = some (.tup cs) := by rw [e, ← er]; exact atI_last _ _
      have a2 : atI cs (cells.length : Int) = some cs[cells.length] := atI_nat (List.getElem?_eq_getElem hlt)
      have hne : found.isEmpty = false := by cases found <;> first | exact absurd rfl h0 | rfl
      exact ⟨cs[cells.length], hr _ (List.getElem_mem hlt), by simp [dIf, dTest, dBin, dVarP, dTup, dNil, ef, dC, hne, opIx, dNeg, a1, a2]⟩
  obtain ⟨le, hle, ele⟩ : ∃ le, okC le ∧ dIf (dTest (dBin opNe (dVarP 7) (dTup dNil))) (dBin opIx (dVarP 7) (dNeg (dC (.int 1)))) (dC (.str ".")) [some (false, .cup), some (false, .int rows), some (false, .int cols), some (false, .lst (names.map .str)), some (false, .tup found), at', some (false, .int cells.length), some (false, .tup cells), x, y] c = some (le, c) := by
    by_cases h0 : cells = []
    · subst h0
      exact ⟨.str ".", okC_air, by simp [dIf, dTest, dBin, dVarP, dTup, dNil, ec, dC]⟩
    · obtain ⟨ys, r, e⟩ := last_of h0
      have a1 : atI cells (-1) = some r := by rw [e]; exact atI_last _ _
      have hne : cells.isEmpty = false := by cases cells <;> first | exact absurd rfl h0 | rfl
      exact ⟨r, hc r (by rw [e]; simp), by simp [dIf, dTest, dBin, dVarP, dTup, dNil, ec, dC, hne, opIx, dNeg, a1]⟩
  obtain ⟨n1, hn1, c1, e1, hc1⟩ := some_of c hcup (names.map .str) (by rw [List.length_map]; exact hn0) (by rw [List.length_map, lim_eq]; omega)
  obtain ⟨n2, hn2, c2, e2, hc2⟩ := some_of c1 hc1 (names.map .str) (by rw [List.length_map]; exact hn0) (by rw [List.length_map, lim_eq]; omega)
  obtain ⟨d, hd, c3, e3, hc3⟩ := some_of c2 hc2 [ab, ab, le, .str ".", n1, n2] (by simp) (by simp [lim_eq])
  have pn : ∀ d ∈ names.map D.str, okC d := fun d hd => by
    obtain ⟨s, hs, rfl⟩ := List.mem_map.mp hd
    exact okC_pool (hn s hs)
  have hdc : okC d := by
    simp only [List.mem_cons, List.not_mem_nil, or_false] at hd
    rcases hd with e | e | e | e | e | e
    · rw [e]; exact hab
    · rw [e]; exact hab
    · rw [e]; exact hle
    · rw [e]; exact okC_air
    · rw [e]; exact pn _ hn1
    · rw [e]; exact pn _ hn2
  refine ⟨d, some (false, ab), some (false, le), c3, hdc, hc3, ?_⟩
  have hl2 : cells.length + 1 ≤ lim := by rw [lim_eq]; omega
  generalize dIf (dTest (dBin opNe (dVarP 4) (dTup dNil))) (dBin opIx (dBin opIx (dVarP 4) (dNeg (dC (.int 1)))) (dVarP 6)) (dC (.str ".")) = AB at eab ⊢
  generalize dIf (dTest (dBin opNe (dVarP 7) (dTup dNil))) (dBin opIx (dVarP 7) (dNeg (dC (.int 1)))) (dC (.str ".")) = LE at ele ⊢
  simp [sSeq, sPar2, eab, ele, sSet, dBin, dVarP, dTup, dCons, dCall, dVar, dLst, dC, dNil, e1, e2, e3, opAdd, hl2, sNext]
theorem intsD_at {n i : Nat} {d : D} (h : (intsD 0 n)[i]? = some d) : d = .int i ∧ i < n := by
  have hl : (intsD 0 n).length = n := by simp [intsD]
  have hi : i < n := by rw [← hl]; exact (List.getElem?_eq_some_iff.mp h).1
  unfold intsD at h
  rw [List.getElem?_map, List.getElem?_range hi] at h
  exact ⟨by simpa using h.symm, hi⟩
theorem intsD_len (n : Nat) : (intsD 0 n).length = n := by simp [intsD]
theorem drawing_drawn (c : Cup) (hcup : CupOk c) (rows cols : Nat) (hr1 : 1 ≤ rows) (hr : rows ≤ 7) (hc1 : 1 ≤ cols) (hcol : cols ≤ 7) (names : List Str) (hn0 : 0 < names.length) (hn9 : names.length ≤ 9) (hn : ∀ s ∈ names, s ∈ POOL) :
    ∃ found c', g__law_drawing [.cup, .int rows, .int cols, .lst (names.map .str)] c = some (.tup found, c') ∧ found.length = rows ∧ (∀ d ∈ found, RowC cols d) ∧ CupOk c' := by
  have turn := fun found cells hf hc hl c hcup at' x y => cell_turn rows cols hcol names hn0 hn9 hn found cells hf hc hl c hcup at' x y
  unfold g__law_drawing b__law_drawing
  generalize sSeq (sPar2 false false 8 9 (dIf (dTest (dBin opNe (dVarP 4) (dTup dNil))) (dBin opIx (dBin opIx (dVarP 4) (dNeg (dC (.int 1)))) (dVarP 6)) (dC (.str "."))) (dIf (dTest (dBin opNe (dVarP 7) (dTup dNil))) (dBin opIx (dVarP 7) (dNeg (dC (.int 1)))) (dC (.str "."))))
      (sSeq (sSet false 7 (dBin opAdd (dVarP 7) (dTup (dCons (dCall g__law_some (dCons (dVar 0) (dCons (dLst (dCons (dVar 8) (dCons (dVar 8) (dCons (dVar 9) (dCons (dC (.str ".")) (dCons (dCall g__law_some (dCons (dVar 0) (dCons (dVar 3) dNil))) (dCons (dCall g__law_some (dCons (dVar 0) (dCons (dVar 3) dNil))) dNil))))))) dNil))) dNil)))) sNext) = G at turn ⊢
  -- a row
  have inner : ∀ (found : List D) (c : Cup) (at' s6 s7 x y : Option (Bool × D)), (∀ d ∈ found, RowC cols d) → CupOk c → ∃ cells s6' x' y' c', (∀ d ∈ cells, okC d) ∧ cells.length = cols ∧ CupOk c' ∧
      forGo (bName 6) G (intsD 0 cols) [some (false, .cup), some (false, .int rows), some (false, .int cols), some (false, .lst (names.map .str)), some (false, .tup found), at', s6, some (false, .tup []), x, y] c =
      some (.nx [some (false, .cup), some (false, .int rows), some (false, .int cols), some (false, .lst (names.map .str)), some (false, .tup found), at', s6', some (false, .tup cells), x', y'] c') := fun found c at' s6 s7 x y hf hcup => by
    obtain ⟨ρ', c', h1, cells, s6', x', y', e, l, hc, hcup'⟩ := for_inv (n := 0) (ds := intsD 0 cols) (bd := bName 6) (F := G) (ρ := [some (false, .cup), some (false, .int rows), some (false, .int cols), some (false, .lst (names.map .str)), some (false, .tup found), at', s6, some (false, .tup []), x, y]) (c := c)
      (fun i ρ c' => ∃ cells s6 x y, ρ = [some (false, .cup), some (false, .int rows), some (false, .int cols), some (false, .lst (names.map .str)), some (false, .tup found), at', s6, some (false, .tup cells), x, y] ∧ cells.length = i ∧ (∀ d ∈ cells, okC d) ∧ CupOk c')
      (fun i d ρ c' hd ⟨cells, s6, x, y, e, l, hc, hcup'⟩ => by
        subst e
        rw [Nat.zero_add] at l
        obtain ⟨rfl, hi⟩ := intsD_at hd
        obtain ⟨d2, a, b, c2, h1, h2, h3⟩ := turn found cells hf hc (by omega) c' hcup' at' x y
        refine ⟨[some (false, .cup), some (false, .int rows), some (false, .int cols), some (false, .lst (names.map .str)), some (false, .tup found), at', some (false, .int i), some (false, .tup cells), x, y], _, c2, by simp [bName], (by rw [← l]; exact h3), cells ++ [d2], _, a, b, rfl, by rw [List.length_append, List.length_singleton]; omega, fun d hd => ?_, h2⟩
        rcases List.mem_append.mp hd with z | z
        · exact hc d z
        · rw [List.mem_singleton.mp z]; exact h1)
      ⟨[], s6, x, y, rfl, rfl, (fun _ z => by cases z), hcup⟩
    subst e
    rw [intsD_len, Nat.zero_add] at l
    exact ⟨cells, s6', x', y', c', hc, l, hcup', h1⟩
  have er : ∀ (ρ : Rho) (c : Cup), ρ[2]? = some (some (false, .int cols)) → dRng1 (dCons (dVarP 2) dNil) ρ c = some (intsD 0 cols, c) := fun ρ c e => by
    simp [dRng1, dCons, dVarP, dNil, e, lim_eq]
    omega
  have er1 : ∀ (ρ : Rho) (c : Cup), ρ[1]? = some (some (false, .int rows)) → dRng1 (dCons (dVarP 1) dNil) ρ c = some (intsD 0 rows, c) := fun ρ c e => by
    simp [dRng1, dCons, dVarP, dNil, e, lim_eq]
    omega
  generalize dRng1 (dCons (dVarP 2) dNil) = Z2 at er ⊢
  generalize dRng1 (dCons (dVarP 1) dNil) = Z1 at er1 ⊢
  obtain ⟨ρ', c', h1, found, s5, s6, s7, x', y', e, l, hf, hcup'⟩ := for_inv (n := 0) (ds := intsD 0 rows) (bd := bName 5)
    (F := sSeq (sSet false 7 (dTup dNil)) (sSeq (sFor Z2 (bName 6) G) (sSeq (sSet false 4 (dBin opAdd (dVarP 4) (dTup (dCons (dVar 7) dNil)))) sNext)))
    (ρ := [some (false, .cup), some (false, .int rows), some (false, .int cols), some (false, .lst (names.map .str)), some (false, .tup []), none, none, none, none, none]) (c := c)
    (fun i ρ c' => ∃ found s5 s6 s7 x y, ρ = [some (false, .cup), some (false, .int rows), some (false, .int cols), some (false, .lst (names.map .str)), some (false, .tup found), s5, s6, s7, x, y] ∧ found.length = i ∧ (∀ d ∈ found, RowC cols d) ∧ CupOk c')
    (fun i d ρ c' hd ⟨found, s5, s6, s7, x, y, e, l, hf, hcup'⟩ => by
      subst e
      rw [Nat.zero_add] at l
      obtain ⟨rfl, hi⟩ := intsD_at hd
      obtain ⟨cells, s6', x', y', c2, hc, lc, hcup2, hin⟩ := inner found c' (some (false, .int i)) s6 s7 x y hf hcup'
      refine ⟨[some (false, .cup), some (false, .int rows), some (false, .int cols), some (false, .lst (names.map .str)), some (false, .tup found), some (false, .int i), s6, s7, x, y], _, c2, by simp [bName], ?_, found ++ [.tup cells], some (false, .int i), s6', some (false, .tup cells), x', y', rfl, by rw [List.length_append, List.length_singleton]; omega, fun d hd => ?_, hcup2⟩
      · have hl2 : found.length + 1 ≤ lim := by rw [lim_eq]; omega
        simp [sSeq, sSet, dTup, dNil, sFor, er, hin, dBin, dVarP, dCons, dVar, opAdd, hl2, sNext]
      · rcases List.mem_append.mp hd with z | z
        · exact hf d z
        · rw [List.mem_singleton.mp z]; exact ⟨cells, rfl, lc, hc⟩)
    ⟨[], none, none, none, none, none, rfl, rfl, (fun _ z => by cases z), hcup⟩
  subst e
  rw [intsD_len, Nat.zero_add] at l
  refine ⟨found, c', ?_, l, hf, hcup'⟩
  generalize sSeq (sSet false 7 (dTup dNil)) (sSeq (sFor Z2 (bName 6) G) (sSeq (sSet false 4 (dBin opAdd (dVarP 4) (dTup (dCons (dVar 7) dNil)))) sNext)) = F at h1 ⊢
  simp [fD, startD, sSeq, sNext, sIf, sSet, sRet, sRetN, sDrop, sDropM, sPut, sPar2, sPar3, sAsg, sCup0, sCup1, sFrz, frz, sBreak, sCont, dTest, dBin, dChain, dVar, dVarP, dC, dCons, dNil, dTup, dLst, dAnd, dOr, dNot, dBl, dIf, dNeg, dCup0, dCup1, dBi, dBn, dCall, dIsi, isiD, opGt, opLt, opLe, opGe, opAdd, opSub, opMult, opFdiv, opMod, opPow, biInt, biStr, biLen, biList, biTup, biMax2, biMin2, bName, mApp, List.getElem?_cons_succ, List.getElem?_cons_zero, List.set_cons_succ, List.set_cons_zero, List.length_cons, List.length_nil, List.map_cons, List.map_nil, List.cons_append, List.nil_append, List.replicate_succ, List.replicate_zero, sFor, er1, h1]
end K46
end
section
namespace K46
open PySem L2 DL
/-! sizes -/
theorem fold_names {n : Nat} : ∀ {rows ks : List D}, (∀ r ∈ rows, (cellsOf r).length ≤ n) → (rows.foldl stepK ks).length ≤ ks.length + n * rows.length
  | [], ks, _ => by simp
  | r :: rows, ks, h => by
    have h1 := addsK_len (rowKeys (cellsOf r)) ks
    have h2 := rowKeys_len (cellsOf r)
    have h3 := h r List.mem_cons_self
    have ih := fold_names (rows := rows) (ks := stepK ks r) fun d hd => h d (List.mem_cons_of_mem _ hd)
    have e : (stepK ks r).length = (addsK ks (rowKeys (cellsOf r))).length := rfl
    rw [List.foldl_cons, List.length_cons, Nat.mul_succ]
    omega
theorem nStep_le (ks : List D) (d : D) : (nStep ks d).length ≤ ks.length + 1 := by
  unfold nStep
  split
  · split
    · exact addK_len _ _
    · omega
  · omega
theorem nFold_le : ∀ (ds ks : List D), (ds.foldl nStep ks).length ≤ ks.length + ds.length
  | [], ks => Nat.le_refl _
  | d :: ds, ks => by
    have h1 := nStep_le ks d
    have ih := nFold_le ds (nStep ks d)
    rw [List.foldl_cons, List.length_cons]
    omega
theorem oFold_le {n : Nat} : ∀ {ds ks : List D}, (∀ d ∈ ds, ∃ r u, d = .tup [r, u] ∧ (cellsOf r).length ≤ n) → (ds.foldl oStep ks).length ≤ ks.length + n * ds.length
  | [], ks, _ => by simp
  | d :: ds, ks, h => by
    obtain ⟨r, u, rfl, h1⟩ := h d List.mem_cons_self
    have h2 := nFold_le (zipD (cellsOf r) (cellsOf u)) ks
    have h3 := zip_le (cellsOf r) (cellsOf u)
    have ih := oFold_le (ds := ds) (ks := oStep ks (.tup [r, u])) fun d hd => h d (List.mem_cons_of_mem _ hd)
    have e : oStep ks (.tup [r, u]) = (zipD (cellsOf r) (cellsOf u)).foldl nStep ks := rfl
    rw [e] at ih
    rw [List.foldl_cons, List.length_cons, Nat.mul_succ, e]
    omega
theorem nub_same {n : Int} : ∀ {l : List Int} {ks : List Int}, (∀ x ∈ l, x = n) → ks = [n] → l.foldl nubStep ks = [n]
  | [], ks, _, e => e
  | x :: l, ks, h, e => by
    have hx := h x List.mem_cons_self
    subst hx e
    have : nubStep [x] x = [x] := by simp [nubStep]
    rw [List.foldl_cons, this]
    exact nub_same (fun y hy => h y (List.mem_cons_of_mem _ hy)) rfl
theorem nub_one {n : Int} {l : List Int} (h : ∀ x ∈ l, x = n) (h0 : l ≠ []) : (nubI l).length = 1 := by
  cases l with
  | nil => exact absurd rfl h0
  | cons x l =>
    have hx := h x List.mem_cons_self
    subst hx
    have : nubStep [] x = [x] := by simp [nubStep]
    unfold nubI
    rw [List.foldl_cons, this, nub_same (fun y hy => h y (List.mem_cons_of_mem _ hy)) rfl]
    rfl
theorem nub_mono : ∀ (l ks : List Int) (x : Int), x ∈ ks → x ∈ l.foldl nubStep ks
  | [], ks, x, h => h
  | y :: l, ks, x, h => by
    rw [List.foldl_cons]
    refine nub_mono l _ x ?_
    unfold nubStep
    split
    · exact h
    · exact List.mem_append_left _ h
theorem nub_has : ∀ (l ks : List Int) (x : Int), x ∈ l → x ∈ l.foldl nubStep ks
  | y :: l, ks, x, h => by
    rw [List.foldl_cons]
    rcases List.mem_cons.mp h with e | h
    · subst e
      refine nub_mono l _ x ?_
      unfold nubStep
      split
      · rename_i h
        obtain ⟨z, hz, e⟩ := List.any_eq_true.mp h
        have e := eq_of_beq e
        subst e
        exact hz
      · exact List.mem_append_right _ List.mem_cons_self
    · exact nub_has l _ x h
theorem nub_two {l : List Int} {x y : Int} (hx : x ∈ l) (hy : y ∈ l) (h : x ≠ y) : (nubI l).length ≠ 1 := fun e => by
  have h1 := nub_has l [] x hx
  have h2 := nub_has l [] y hy
  unfold nubI at e
  obtain ⟨z, hz⟩ := List.length_eq_one_iff.mp e
  rw [hz] at h1 h2
  exact h (by rw [List.mem_singleton.mp h1, List.mem_singleton.mp h2])
/-! good drawings -/
structure Good (cols : Nat) (rows : List D) : Prop where
  row : ∀ d ∈ rows, RowC cols d
  c1 : 1 ≤ cols
  c2 : cols ≤ 7
  r1 : 1 ≤ rows.length
  r2 : rows.length ≤ 7
theorem okC_cell {d : D} (h : okC d) : okCell d := by
  have h := h.1
  cases d <;> first | exact h.elim | exact h
theorem Good.okDr {cols : Nat} {rows : List D} (h : Good cols rows) : okDr rows cols := by
  have h1 := h.c1
  have h2 := h.c2
  have h3 := h.r1
  have h4 := h.r2
  exact ⟨fun r hr => let ⟨cs, e, l, hc⟩ := (h.row r hr).ex; ⟨cs, e, fun d hd => (hc d hd).1, l⟩, h1, by omega, h3, by omega⟩
theorem Good.rowsOk {cols : Nat} {rows : List D} (h : Good cols rows) : rowsOk rows = true := by
  refine List.all_eq_true.mpr fun r hr => ?_
  obtain ⟨cs, rfl, l, _⟩ := (h.row r hr).ex
  have h1 := h.c1
  have h2 := h.c2
  simp only [tupIn, Bool.and_eq_true, decide_eq_true_eq]
  omega
theorem Good.tup {cols : Nat} {rows : List D} (h : Good cols rows) : tupIn (.tup rows) 1 30 = true := by
  have h1 := h.r1
  have h2 := h.r2
  simp only [tupIn, Bool.and_eq_true, decide_eq_true_eq]
  omega
theorem Good.len {cols : Nat} {rows : List D} (h : Good cols rows) : ∀ r ∈ rows, rowLen r = cols := fun r hr => by
  obtain ⟨cs, rfl, l, _⟩ := (h.row r hr).ex
  show ((cs.length : Nat) : Int) = cols
  rw [l]
theorem Good.fits {cols : Nat} {rows : List D} (h : Good cols rows) (c : Cup) : g_fits_drawing [.tup rows] c = some (.bl true, c) := by
  have h1 := h.r1
  have h2 := h.r2
  have h3 := h.c2
  have cl : ∀ r ∈ rows, (cellsOf r).length ≤ cols := fun r hr => by
    obtain ⟨cs, rfl, l, _⟩ := (h.row r hr).ex
    exact Nat.le_of_eq l
  have n1 := fold_names (ks := []) cl
  have n2 := oFold_le (n := cols) (ds := zipD rows (rows.drop 1)) (ks := []) (fun d hd => by
    obtain ⟨x, y, hx, hy, e⟩ := zip_mem hd
    exact ⟨x, y, e, cl x hx⟩)
  have n3 := zip_le rows (rows.drop 1)
  have m1 : cols * rows.length ≤ 7 * 7 := Nat.mul_le_mul h3 h2
  have m2 : cols * (zipD rows (rows.drop 1)).length ≤ 7 * 7 := Nat.mul_le_mul h3 (by omega)
  have e1 : (namesK rows).length ≤ 60 := by
    show (rows.foldl stepK []).length ≤ 60
    rw [List.length_nil] at n1
    omega
  have e2 : (notesK rows).length ≤ 200 := by
    show ((zipD rows (rows.drop 1)).foldl oStep []).length ≤ 200
    rw [List.length_nil] at n2
    omega
  have := (fd_main h.tup h.rowsOk (nub_one (n := cols) (fun x hx => by
    obtain ⟨r, hr, rfl⟩ := List.mem_map.mp hx
    exact h.len r hr) (fun e => by
      have := congrArg List.length e
      rw [List.length_map, List.length_nil] at this
      omega)) (fun r hr d hd => by
      obtain ⟨cs, rfl, _, hc⟩ := (h.row r hr).ex
      exact okC_cell (hc d hd)) c).2 (List.all_eq_true.mpr fun r hr => by
        obtain ⟨cs, rfl, _, hc⟩ := (h.row r hr).ex
        exact List.all_eq_true.mpr fun d hd => (hc d hd).2)
  rw [this]
  simp [e1, e2]
/-! bent ones -/
def Bad (d : D) : Prop := ∀ c, g_fits_drawing [d] c = some (.bl false, c)
theorem bad_no {d : D} (hc : d ≠ .cup) (h : tupIn d 1 30 = false) : Bad d := fun c => fd_no hc h c
/-- a row that is no row -/
theorem bad_row {rows : List D} (hl1 : 1 ≤ rows.length) (hl2 : rows.length ≤ 30) (hc : ∀ r ∈ rows, r ≠ .cup) {r : D} (hr : r ∈ rows) (h : tupIn r 1 30 = false) : Bad (.tup rows) := fun c =>
  fd_rows (by simp only [tupIn, Bool.and_eq_true, decide_eq_true_eq]; omega) hc (by
    refine Bool.eq_false_iff.mpr fun z => ?_
    rw [List.all_eq_true.mp z r hr] at h
    cases h) c
/-- rows of two lengths -/
theorem bad_len {rows : List D} (hl2 : rows.length ≤ 30) (hc : ∀ r ∈ rows, r ≠ .cup) {r u : D} (hr : r ∈ rows) (hu : u ∈ rows) (h : rowLen r ≠ rowLen u) : Bad (.tup rows) := fun c => by
  have hl1 : 1 ≤ rows.length := List.length_pos_of_mem hr
  have ht : tupIn (.tup rows) 1 30 = true := by simp only [tupIn, Bool.and_eq_true, decide_eq_true_eq]; omega
  cases ho : rowsOk rows with
  | false => exact fd_rows ht hc ho c
  | true => exact fd_lens ht ho (nub_two (List.mem_map_of_mem hr) (List.mem_map_of_mem hu) h) c
/-- a cell that is no cell -/
theorem bad_cell {rows : List D} (hl2 : rows.length ≤ 30) (hk : ∀ r ∈ rows, r ≠ .cup ∧ ∀ d ∈ cellsOf r, okCell d) {r x : D} (hr : r ∈ rows) (hx : x ∈ cellsOf r) (h : ckD x = false) : Bad (.tup rows) := fun c => by
  have hl1 : 1 ≤ rows.length := List.length_pos_of_mem hr
  have ht : tupIn (.tup rows) 1 30 = true := by simp only [tupIn, Bool.and_eq_true, decide_eq_true_eq]; omega
  cases ho : rowsOk rows with
  | false => exact fd_rows ht (fun r hr => (hk r hr).1) ho c
  | true =>
    by_cases hn : (nubI (rows.map rowLen)).length = 1
    · refine (fd_main ht ho hn (fun r hr => (hk r hr).2) c).1 (Bool.eq_false_iff.mpr fun z => ?_)
      have := List.all_eq_true.mp (List.all_eq_true.mp z r hr) x hx
      rw [h] at this
      cases this
    · exact fd_lens ht ho hn c
def setAt (xs : List D) (k : Nat) (d : D) : List D := xs.take k ++ [d] ++ xs.drop (k + 1)
theorem setAt_mem {xs : List D} {k : Nat} {d x : D} (h : x ∈ setAt xs k d) : x ∈ xs ∨ x = d := by
  unfold setAt at h
  rcases List.mem_append.mp h with h | h
  · rcases List.mem_append.mp h with h | h
    · exact .inl (List.mem_of_mem_take h)
    · exact .inr (List.mem_singleton.mp h)
  · exact .inl (List.mem_of_mem_drop h)
theorem setAt_has (xs : List D) (k : Nat) (d : D) : d ∈ setAt xs k d := by
  unfold setAt
  simp
theorem setAt_len {xs : List D} {k : Nat} {d : D} (h : k < xs.length) : (setAt xs k d).length = xs.length := by
  unfold setAt
  simp only [List.length_append, List.length_take, List.length_drop, List.length_singleton]
  omega
/-- another row remains -/
theorem setAt_other {xs : List D} {k : Nat} {d : D} (h : k < xs.length) (h2 : 1 < xs.length) : ∃ x ∈ xs, x ∈ setAt xs k d := by
  by_cases h0 : 0 < k
  · refine ⟨xs[0], List.getElem_mem _, ?_⟩
    unfold setAt
    refine List.mem_append_left _ (List.mem_append_left _ ?_)
    exact List.mem_iff_getElem?.mpr ⟨0, by rw [List.getElem?_take_of_lt h0]; exact List.getElem?_eq_getElem (by omega)⟩
  · refine ⟨xs[k + 1]'(by omega), List.getElem_mem _, ?_⟩
    unfold setAt
    refine List.mem_append_right _ ?_
    exact List.mem_iff_getElem?.mpr ⟨0, by rw [List.getElem?_drop]; exact List.getElem?_eq_getElem (by omega)⟩
def ODDS : List D := [.str "", .str "A", .str "1a", .str ⟨(List.replicate 13 ("a" : Str).cps).foldl (· ++ ·) #[]⟩, .str "..", .str " ", .str "a.", .non, .int 5, .bl true, .tup [.str "."], .lst [.str "a"]]
theorem odds_bad : ∀ d ∈ ODDS, okCell d ∧ ckD d = false := by
  have h : ∀ s ∈ ([("" : Str), "A", "1a", ⟨(List.replicate 13 ("a" : Str).cps).foldl (· ++ ·) #[]⟩, "..", " ", "a."] : List Str), (PyData.strOk s = true ∧ s.length ≤ lim) ∧ (fitsS s || (s == ".")) = false := by decide +kernel
  intro d hd
  simp only [ODDS, List.mem_cons, List.not_mem_nil, or_false] at hd
  rcases hd with e | e | e | e | e | e | e | e | e | e | e | e <;> subst e <;> first | exact ⟨trivial, rfl⟩ | exact h _ (by simp)
end K46
end
section
namespace K46
open PySem L2 DL
theorem slTo (f : Ev) (k : Ev) (xs : List D) (n : Nat) (ρ : Rho) (c c1 c2 : Cup) (h1 : f ρ c = some (.tup xs, c1)) (h2 : k ρ c1 = some (.int n, c2)) : dSl f dNoPart (dPart k) ρ c = some (.tup (xs.take n), c2) := by
  simp [dSl, dNoPart, dPart, h1, h2, slD, dCut_to]
theorem slFrom (f : Ev) (k : Ev) (xs : List D) (n : Nat) (ρ : Rho) (c c1 c2 : Cup) (h1 : f ρ c = some (.tup xs, c1)) (h2 : k ρ c1 = some (.int n, c2)) : dSl f (dPart k) dNoPart ρ c = some (.tup (xs.drop n), c2) := by
  simp [dSl, dNoPart, dPart, h1, h2, slD, dCut_from]
/-- xs[:k] + (d,) + xs[k+1:] -/
theorem set_read (i j m : Nat) (xs : List D) (k : Nat) (d : D) (ρ : Rho) (c : Cup) (hk : k < xs.length) (hl : xs.length ≤ 1000) (e1 : ρ[i]? = some (some (false, .tup xs))) (e2 : ρ[j]? = some (some (false, .int k))) (e3 : ρ[m]? = some (some (false, d))) :
    dBin opAdd (dBin opAdd (dSl (dVarP i) dNoPart (dPart (dVarP j))) (dTup (dCons (dVar m) dNil))) (dSl (dVarP i) (dPart (dBin opAdd (dVarP j) (dC (.int 1)))) dNoPart) ρ c = some (.tup (setAt xs k d), c) := by
  have v1 : dVarP i ρ c = some (.tup xs, c) := by simp [dVarP, e1]
  have v2 : dVarP j ρ c = some (.int k, c) := by simp [dVarP, e2]
  have s1 := slTo (dVarP i) (dVarP j) xs k ρ c c c v1 v2
  have s2 := slFrom (dVarP i) (dBin opAdd (dVarP j) (dC (.int 1))) xs (k + 1) ρ c c c v1 (by simp [dBin, v2, dC, opAdd])
  generalize dSl (dVarP i) dNoPart (dPart (dVarP j)) = A at s1 ⊢
  generalize dSl (dVarP i) (dPart (dBin opAdd (dVarP j) (dC (.int 1)))) dNoPart = B at s2 ⊢
  have t : dTup (dCons (dVar m) dNil) ρ c = some (.tup [d], c) := by simp [dTup, dCons, dVar, dNil, e3]
  generalize dTup (dCons (dVar m) dNil) = T at t ⊢
  have hl1 : (xs.take k).length + 1 ≤ lim := by rw [List.length_take, lim_eq]; omega
  have hl2 : (xs.take k ++ [d]).length + (xs.drop (k + 1)).length ≤ lim := by rw [List.length_append, List.length_take, List.length_drop, List.length_singleton, lim_eq]; omega
  simp only [dBin, s1, s2, t, opAdd, List.length_singleton, hl1, hl2, if_true]
  rfl
theorem opMult_str (s : Str) (k : Int) (h : 1 ≤ k ∧ k ≤ 1000 ∧ s.length ≤ 1000 ∧ s.length ≠ 0) : opMult (.str s) (.int k) = some (.str (if k = 1 then s else ⟨(List.replicate k.toNat s.cps).foldl (· ++ ·) #[]⟩)) := by
  simp only [opMult]
  rw [if_pos h]
theorem opMult_tup (xs : List D) (k : Int) (h : xs.length ≠ 0 ∧ 2 ≤ k ∧ k ≤ 1000 ∧ xs.length ≤ 1000) : opMult (.tup xs) (.int k) = some (.tup (List.replicate k.toNat xs).flatten) := by
  simp only [opMult]
  rw [if_pos h]
theorem dCut_last (xs : List D) (h : 1 ≤ xs.length) : dCut xs none (some (-1)) = xs.dropLast := by
  unfold dCut
  have e : HT.sIx xs.length xs.length (some (-1)) = xs.length - 1 := by
    simp [HT.sIx]
    omega
  rw [HT.sIx_none, e, List.dropLast_eq_take]
  rfl
theorem flat_one (n : Nat) (d : D) : (List.replicate n [d]).flatten = List.replicate n d := by
  induction n with
  | zero => rfl
  | succ n ih => rw [List.replicate_succ, List.flatten_cons, ih]; rfl
theorem roll_nat (c : Cup) (hc : CupOk c) (m : Nat) (h0 : 0 < m) (h1 : m < 1000000) : ∃ (r : Nat) (c' : Cup), g__law_roll [.cup, .int m] c = some (.int r, c') ∧ r < m ∧ CupOk c' := by
  obtain ⟨r, c', e, h2, h3, hc'⟩ := roll c hc m (by omega) (by omega)
  obtain ⟨k, rfl⟩ := Int.eq_ofNat_of_zero_le h2
  exact ⟨k, c', e, by omega, hc'⟩
def aRow (n : Nat) : Str := if (n : Int) = 1 then "a" else ⟨(List.replicate (n : Int).toNat ("a" : Str).cps).foldl (· ++ ·) #[]⟩
/-- the bent rows -/
def bentRows (cs : List D) (k : Nat) (more : Bool) : List D := (ODDS.map fun o => .tup (setAt cs k o)) ++ [.lst cs, .tup [], .str (aRow cs.length), .non] ++ (if more then [.tup (cs ++ [.str "a"]), .tup (cs.drop 1)] else [])
def bentAll (rows cs : List D) (i k : Nat) : List D := ((bentRows cs k (decide (1 < rows.length))).map fun r => .tup (setAt rows i r)) ++ [.lst rows, .tup [], .non, .tup cs, .str "drawing", .int 7, .tup (rows ++ [.tup (List.replicate (cs.length + 1) (.str "."))]), .tup (rows ++ [.tup cs.dropLast])] ++ [rows.headD .non, .tup [.tup rows]]
theorem bent_read {cols : Nat} {rows : List D} (h : Good cols rows) (c : Cup) (hc : CupOk c) : ∃ cs i k c', i < rows.length ∧ k < cols ∧ rows[i]? = some (.tup cs) ∧ CupOk c' ∧ g__law_bent [.cup, .tup rows] c = some (.lst (bentAll rows cs i k), c') := by
  have h1 := h.r1
  have h2 := h.r2
  have h3 := h.c1
  have h4 := h.c2
  obtain ⟨i, c1, e1, hi, hc1⟩ := roll_nat c hc rows.length (by omega) (by omega)
  obtain ⟨cs0, er0, l0, _⟩ := (h.row rows[0] (List.getElem_mem _)).ex
  obtain ⟨k, c2, e2, hk, hc2⟩ := roll_nat c1 hc1 cs0.length (by omega) (by omega)
  obtain ⟨cs, er, l, hcs⟩ := (h.row rows[i] (List.getElem_mem _)).ex
  have ei : rows[i]? = some (.tup cs) := by rw [List.getElem?_eq_getElem hi, er]
  refine ⟨cs, i, k, c2, hi, by omega, ei, hc2, ?_⟩
  have a0 : atI rows 0 = some (.tup cs0) := by
    have z := atI_nat (List.getElem?_eq_getElem (l := rows) (i := 0) (by omega))
    rw [er0] at z
    exact z
  have ai : atI rows (i : Int) = some (.tup cs) := atI_nat ei
  have hd : rows.headD .non = .tup cs0 := by
    cases rows with
    | nil => simp at h1
    | cons r rs => exact er0
  have hno : rows.length = 1 ∨ 1 < rows.length := by omega
  -- the odd cells
  have q1 : dLst (dCons (dC (.str "")) (dCons (dC (.str "A")) (dCons (dC (.str "1a")) (dCons (dBin opMult (dC (.str "a")) (dC (.int 13))) (dCons (dC (.str "..")) (dCons (dC (.str " ")) (dCons (dC (.str "a.")) (dCons (dC .non) (dCons (dC (.int 5)) (dCons (dC (.bl true)) (dCons (dTup (dCons (dC (.str ".")) dNil)) (dCons (dLst (dCons (dC (.str "a")) dNil)) dNil)))))))))))) [some (false, .cup), some (false, .tup rows), none, none, some (false, .int i), some (false, .int k), none, none, none, none] c2 = some (.lst ODDS, c2) := by
    have z : opMult (.str "a") (.int 13) = some (.str ⟨(List.replicate 13 ("a" : Str).cps).foldl (· ++ ·) #[]⟩) := by
      rw [opMult_str _ _ (by decide), if_neg (by decide)]
      rfl
    simp only [dLst, dTup, dCons, dC, dBin, z, dNil]
    rfl
  -- the rows with an odd cell
  have q2 := lc_map (vs := [8]) (bd := bName 8) (it := dItems (dVar 7)) (elt := dBin opAdd (dBin opAdd (dSl (dVarP 3) dNoPart (dPart (dVarP 5))) (dTup (dCons (dVar 8) dNil))) (dSl (dVarP 3) (dPart (dBin opAdd (dVarP 5) (dC (.int 1)))) dNoPart))
    (ρ := [some (false, .cup), some (false, .tup rows), none, some (false, .tup cs), some (false, .int i), some (false, .int k), none, some (false, .lst ODDS), none, none]) (c := c2) (c1 := c2) (ds := ODDS) (fun o => .tup (setAt cs k o)) (by simp [dItems, dVar, itemsD]) (by simp [ODDS, lim_eq]) (fun d hd =>
      ⟨[some (false, .cup), some (false, .tup rows), none, some (false, .tup cs), some (false, .int i), some (false, .int k), none, some (false, .lst ODDS), some (false, d), none], by simp [wipeD, bName], fun c => set_read 3 5 8 cs k d _ c (by omega) (by omega) rfl rfl rfl⟩)
  have q3 : dLst (dCons (dBn biList (dCons (dVarP 3) dNil)) (dCons (dTup dNil) (dCons (dBin opMult (dC (.str "a")) (dBi biLen (dCons (dVarP 3) dNil))) (dCons (dC .non) dNil)))) [some (false, .cup), some (false, .tup rows), none, some (false, .tup cs), some (false, .int i), some (false, .int k), none, some (false, .lst ODDS), none, none] c2 = some (.lst [.lst cs, .tup [], .str (aRow cs.length), .non], c2) := by
    have z : opMult (.str "a") (.int cs.length) = some (.str (aRow cs.length)) := by
      rw [opMult_str _ _ ⟨by omega, by omega, by decide, by decide⟩]
      rfl
    simp [dLst, dTup, dCons, dC, dBin, dBn, dBi, dVarP, biList, biLen, z, dNil]
  generalize hA : ODDS.map (fun o => D.tup (setAt cs k o)) = A at q2
  have lA : A.length = 12 := by rw [← hA, List.length_map]; rfl
  have q4 : dIf (dTest (dBin opGt (dBi biLen (dCons (dVarP 1) dNil)) (dC (.int 1)))) (dLst (dCons (dBin opAdd (dVarP 3) (dTup (dCons (dC (.str "a")) dNil))) (dCons (dSl (dVarP 3) (dPart (dC (.int 1))) dNoPart) dNil))) (dLst dNil) [some (false, .cup), some (false, .tup rows), none, some (false, .tup cs), some (false, .int i), some (false, .int k), some (false, .lst (A ++ [.lst cs, .tup [], .str (aRow cs.length), .non])), some (false, .lst ODDS), none, none] c2 = some (.lst (if decide (1 < rows.length) = true then [.tup (cs ++ [.str "a"]), .tup (cs.drop 1)] else []), c2) := by
    have z := slFrom (dVarP 3) (dC (.int 1)) cs 1 [some (false, .cup), some (false, .tup rows), none, some (false, .tup cs), some (false, .int i), some (false, .int k), some (false, .lst (A ++ [.lst cs, .tup [], .str (aRow cs.length), .non])), some (false, .lst ODDS), none, none] c2 c2 c2 (by simp [dVarP]) rfl
    generalize dSl (dVarP 3) (dPart (dC (.int 1))) dNoPart = S at z ⊢
    have hl : cs.length + 1 ≤ lim := by rw [lim_eq]; omega
    by_cases g : 1 < rows.length
    · have g' : (1 : Int) < rows.length := by omega
      simp [dIf, dTest, dBin, opGt, dBi, dCons, dVarP, dNil, biLen, dC, g, g', dLst, opAdd, dTup, hl, z]
    · have g' : ¬ (1 : Int) < rows.length := by omega
      simp [dIf, dTest, dBin, opGt, dBi, dCons, dVarP, dNil, biLen, dC, g, g', dLst]
  generalize hB : bentRows cs k (decide (1 < rows.length)) = B
  have eB : A ++ [.lst cs, .tup [], .str (aRow cs.length), .non] ++ (if decide (1 < rows.length) = true then [.tup (cs ++ [.str "a"]), .tup (cs.drop 1)] else []) = B := by rw [← hB, ← hA]; rfl
  have lB : B.length ≤ 18 := by
    rw [← eB]
    split <;> simp [lA]
  generalize hC : (if decide (1 < rows.length) = true then [D.tup (cs ++ [.str "a"]), .tup (cs.drop 1)] else []) = C at q4 eB
  have lC : C.length ≤ 2 := by
    rw [← hC]
    split <;> simp
  have q5 := lc_map (vs := [9]) (bd := bName 9) (it := dItems (dVar 6)) (elt := dBin opAdd (dBin opAdd (dSl (dVarP 1) dNoPart (dPart (dVarP 4))) (dTup (dCons (dVar 9) dNil))) (dSl (dVarP 1) (dPart (dBin opAdd (dVarP 4) (dC (.int 1)))) dNoPart))
    (ρ := [some (false, .cup), some (false, .tup rows), none, some (false, .tup cs), some (false, .int i), some (false, .int k), some (false, .lst B), some (false, .lst ODDS), none, none]) (c := c2) (c1 := c2) (ds := B) (fun o => .tup (setAt rows i o)) (by simp [dItems, dVar, itemsD]) (by rw [lim_eq]; omega) (fun d hd =>
      ⟨[some (false, .cup), some (false, .tup rows), none, some (false, .tup cs), some (false, .int i), some (false, .int k), some (false, .lst B), some (false, .lst ODDS), none, some (false, d)], by simp [wipeD, bName], fun c => set_read 1 4 9 rows i d _ c hi (by omega) rfl rfl rfl⟩)
  generalize hM : B.map (fun o => D.tup (setAt rows i o)) = M at q5
  have lM : M.length ≤ 18 := by rw [← hM, List.length_map]; exact lB
  have q6 : dLst (dCons (dBn biList (dCons (dVarP 1) dNil)) (dCons (dTup dNil) (dCons (dC .non) (dCons (dVar 3) (dCons (dC (.str "drawing")) (dCons (dC (.int 7)) (dCons (dBin opAdd (dVarP 1) (dTup (dCons (dBin opMult (dTup (dCons (dC (.str ".")) dNil)) (dBin opAdd (dBi biLen (dCons (dVarP 3) dNil)) (dC (.int 1)))) dNil))) (dCons (dBin opAdd (dVarP 1) (dTup (dCons (dSl (dVarP 3) dNoPart (dPart (dNeg (dC (.int 1))))) dNil))) dNil)))))))) [some (false, .cup), some (false, .tup rows), some (false, .lst M), some (false, .tup cs), some (false, .int i), some (false, .int k), some (false, .lst B), some (false, .lst ODDS), none, none] c2 =
      some (.lst [.lst rows, .tup [], .non, .tup cs, .str "drawing", .int 7, .tup (rows ++ [.tup (List.replicate (cs.length + 1) (.str "."))]), .tup (rows ++ [.tup cs.dropLast])], c2) := by
    have z : dSl (dVarP 3) dNoPart (dPart (dNeg (dC (.int 1)))) [some (false, .cup), some (false, .tup rows), some (false, .lst M), some (false, .tup cs), some (false, .int i), some (false, .int k), some (false, .lst B), some (false, .lst ODDS), none, none] c2 = some (.tup cs.dropLast, c2) := by
      have y : dCut cs none (some (-1)) = cs.dropLast := by
        exact dCut_last cs (by omega)
      simp [dSl, dNoPart, dPart, dNeg, dC, dVarP, slD, y]
    have z2 : opMult (.tup [.str "."]) (.int (cs.length + 1)) = some (.tup (List.replicate (cs.length + 1) (.str "."))) := by
      rw [opMult_tup _ _ ⟨by simp, by omega, by omega, by simp⟩, show ((cs.length : Int) + 1).toNat = cs.length + 1 by omega, flat_one]
    generalize dSl (dVarP 3) dNoPart (dPart (dNeg (dC (.int 1)))) = S at z ⊢
    have hl : rows.length + 1 ≤ lim := by rw [lim_eq]; omega
    simp [dLst, dTup, dCons, dC, dBin, dBn, dBi, dVarP, dVar, biList, biLen, z, z2, dNil, opAdd, hl]
  have hf : bentAll rows cs i k = M ++ [.lst rows, .tup [], .non, .tup cs, .str "drawing", .int 7, .tup (rows ++ [.tup (List.replicate (cs.length + 1) (.str "."))]), .tup (rows ++ [.tup cs.dropLast])] ++ [.tup cs0, .tup [.tup rows]] := by
    rw [← hM, ← hB, ← hd]
    rfl
  rw [hf]
  generalize hX : [D.lst rows, .tup [], .non, .tup cs, .str "drawing", .int 7, .tup (rows ++ [.tup (List.replicate (cs.length + 1) (.str "."))]), .tup (rows ++ [.tup cs.dropLast])] = X at q6 ⊢
  have lX : X.length = 8 := by rw [← hX]; rfl
  generalize hY : [D.lst cs, .tup [], .str (aRow cs.length), .non] = Y at q3 q4 eB
  have lY : Y.length = 4 := by rw [← hY]; rfl
  unfold g__law_bent b__law_bent
  generalize dLst (dCons (dC (.str "")) (dCons (dC (.str "A")) (dCons (dC (.str "1a")) (dCons (dBin opMult (dC (.str "a")) (dC (.int 13))) (dCons (dC (.str "..")) (dCons (dC (.str " ")) (dCons (dC (.str "a.")) (dCons (dC .non) (dCons (dC (.int 5)) (dCons (dC (.bl true)) (dCons (dTup (dCons (dC (.str ".")) dNil)) (dCons (dLst (dCons (dC (.str "a")) dNil)) dNil)))))))))))) = F1 at q1 ⊢
  generalize dLc [8] (dItems (dVar 7)) (bName 8) dYes (dBin opAdd (dBin opAdd (dSl (dVarP 3) dNoPart (dPart (dVarP 5))) (dTup (dCons (dVar 8) dNil))) (dSl (dVarP 3) (dPart (dBin opAdd (dVarP 5) (dC (.int 1)))) dNoPart)) = F2 at q2 ⊢
  generalize dLst (dCons (dBn biList (dCons (dVarP 3) dNil)) (dCons (dTup dNil) (dCons (dBin opMult (dC (.str "a")) (dBi biLen (dCons (dVarP 3) dNil))) (dCons (dC .non) dNil)))) = F3 at q3 ⊢
  generalize dIf (dTest (dBin opGt (dBi biLen (dCons (dVarP 1) dNil)) (dC (.int 1)))) (dLst (dCons (dBin opAdd (dVarP 3) (dTup (dCons (dC (.str "a")) dNil))) (dCons (dSl (dVarP 3) (dPart (dC (.int 1))) dNoPart) dNil))) (dLst dNil) = F4 at q4 ⊢
  generalize dLc [9] (dItems (dVar 6)) (bName 9) dYes (dBin opAdd (dBin opAdd (dSl (dVarP 1) dNoPart (dPart (dVarP 4))) (dTup (dCons (dVar 9) dNil))) (dSl (dVarP 1) (dPart (dBin opAdd (dVarP 4) (dC (.int 1)))) dNoPart)) = F5 at q5 ⊢
  generalize dLst (dCons (dBn biList (dCons (dVarP 1) dNil)) (dCons (dTup dNil) (dCons (dC .non) (dCons (dVar 3) (dCons (dC (.str "drawing")) (dCons (dC (.int 7)) (dCons (dBin opAdd (dVarP 1) (dTup (dCons (dBin opMult (dTup (dCons (dC (.str ".")) dNil)) (dBin opAdd (dBi biLen (dCons (dVarP 3) dNil)) (dC (.int 1)))) dNil))) (dCons (dBin opAdd (dVarP 1) (dTup (dCons (dSl (dVarP 3) dNoPart (dPart (dNeg (dC (.int 1))))) dNil))) dNil)))))))) = F6 at q6 ⊢
  have g1 : A.length + Y.length ≤ lim := by rw [lim_eq]; omega
  have g2 : A.length + Y.length + C.length ≤ lim := by rw [lim_eq]; omega
  have g3 : M.length + X.length ≤ lim := by rw [lim_eq]; omega
  have g4 : M.length + X.length + 2 ≤ lim := by rw [lim_eq]; omega
  have eB' : A ++ (Y ++ C) = B := by rw [← eB, List.append_assoc]
  simp [fD, startD, sSeq, sNext, sIf, sSet, sRet, sRetN, sDrop, sDropM, sPut, sPar2, sPar3, sAsg, sCup0, sCup1, sFrz, frz, sBreak, sCont, dTest, dBin, dChain, dVar, dVarP, dC, dCons, dNil, dTup, dLst, dAnd, dOr, dNot, dBl, dIf, dNeg, dCup0, dCup1, dBi, dBn, dCall, dIsi, isiD, opGt, opLt, opLe, opGe, opAdd, opSub, opMult, opFdiv, opMod, opPow, biInt, biStr, biLen, biList, biTup, biMax2, biMin2, bName, mApp, List.getElem?_cons_succ, List.getElem?_cons_zero, List.set_cons_succ, List.set_cons_zero, List.length_cons, List.length_nil, List.map_cons, List.map_nil, List.cons_append, List.nil_append, List.replicate_succ, List.replicate_zero, opIx, a0, ai, e1, e2, q1, q2, q3, q4, q5, q6, g1, g2, g3, g4, eB']
end K46
end
section
namespace K46
open PySem L2 DL
theorem row_bad {cols : Nat} {rows : List D} (h : Good cols rows) {r : D} (hr : r ∈ rows) : Bad r := by
  obtain ⟨cs, rfl, l, hc⟩ := (h.row r hr).ex
  have h3 := h.c1
  have h4 := h.c2
  have hs : ∀ x ∈ cs, ∃ s, x = .str s := fun x hx => by
    have := (hc x hx).1
    cases x <;> first | exact ⟨_, rfl⟩ | exact this.elim
  obtain ⟨s, e⟩ := hs cs[0] (List.getElem_mem _)
  exact bad_row (by omega) (by omega) (fun x hx => by obtain ⟨t, rfl⟩ := hs x hx; exact fun z => by cases z) (List.getElem_mem (l := cs) (n := 0) (by omega)) (by rw [e]; rfl)
theorem bent_bad {cols : Nat} {rows cs : List D} (h : Good cols rows) {i k : Nat} (hi : i < rows.length) (hk : k < cols) (ei : rows[i]? = some (.tup cs)) : ∀ d ∈ bentAll rows cs i k, Bad d := by
  have h1 := h.r1
  have h2 := h.r2
  have h3 := h.c1
  have h4 := h.c2
  have hm : D.tup cs ∈ rows := List.mem_of_getElem? ei
  obtain ⟨_, e0, l, hcs⟩ := (h.row _ hm).ex
  cases e0
  have nc : ∀ r ∈ rows, r ≠ .cup := fun r hr => by obtain ⟨_, rfl, _⟩ := (h.row r hr).ex; exact fun z => by cases z
  have ok : ∀ r ∈ rows, r ≠ .cup ∧ ∀ d ∈ cellsOf r, okCell d := fun r hr => ⟨nc r hr, fun d hd => by
    obtain ⟨_, rfl, _, hc⟩ := (h.row r hr).ex
    exact okC_cell (hc d hd)⟩
  have len : ∀ r ∈ rows, rowLen r = cols := h.len
  -- a row put in
  have put : ∀ r, r ≠ .cup → tupIn r 1 30 = false → Bad (.tup (setAt rows i r)) := fun r hr ht =>
    bad_row (by rw [setAt_len hi]; omega) (by rw [setAt_len hi]; omega) (fun x hx => by
      rcases setAt_mem hx with z | z
      · exact nc x z
      · rw [z]; exact hr) (setAt_has rows i r) ht
  have put2 : 1 < rows.length → ∀ r, r ≠ .cup → rowLen r ≠ cols → Bad (.tup (setAt rows i r)) := fun g r hr ht => by
    obtain ⟨x, hx, hx2⟩ := setAt_other (d := r) hi g
    exact bad_len (by rw [setAt_len hi]; omega) (fun x hx => by
      rcases setAt_mem hx with z | z
      · exact nc x z
      · rw [z]; exact hr) hx2 (setAt_has rows i r) (by rw [len x hx]; exact fun z => ht z.symm)
  have put3 : ∀ o, okCell o → ckD o = false → Bad (.tup (setAt rows i (.tup (setAt cs k o)))) := fun o ho hb =>
    bad_cell (by rw [setAt_len hi]; omega) (fun x hx => by
      rcases setAt_mem hx with z | z
      · exact ok x z
      · rw [z]
        refine ⟨(fun z => by cases z), fun y hy => ?_⟩
        rcases setAt_mem (show y ∈ setAt cs k o from hy) with z | z
        · exact okC_cell (hcs y z)
        · rw [z]; exact ho) (setAt_has rows i _) (show o ∈ cellsOf (.tup (setAt cs k o)) from setAt_has cs k o) hb
  have add : ∀ n : Nat, n ≠ cols → ∀ us : List D, us.length = n → Bad (.tup (rows ++ [.tup us])) := fun n hn us hu =>
    bad_len (r := .tup cs) (u := .tup us) (by rw [List.length_append, List.length_singleton]; omega) (fun x hx => by
      rcases List.mem_append.mp hx with z | z
      · exact nc x z
      · rw [List.mem_singleton.mp z]; exact fun z => by cases z) (List.mem_append_left _ hm) (List.mem_append_right _ List.mem_cons_self) (by
      show ((cs.length : Nat) : Int) ≠ (us.length : Nat)
      omega)
  intro d hd
  unfold bentAll at hd
  rcases List.mem_append.mp hd with hd | hd
  · rcases List.mem_append.mp hd with hd | hd
    · obtain ⟨r, hr, rfl⟩ := List.mem_map.mp hd
      unfold bentRows at hr
      rcases List.mem_append.mp hr with hr | hr
      · rcases List.mem_append.mp hr with hr | hr
        · obtain ⟨o, ho, rfl⟩ := List.mem_map.mp hr
          obtain ⟨b1, b2⟩ := odds_bad o ho
          exact put3 o b1 b2
        · simp only [List.mem_cons, List.not_mem_nil, or_false] at hr
          rcases hr with e | e | e | e <;> subst e <;> exact put _ (fun z => by cases z) rfl
      · split at hr
        · rename_i g
          have g := of_decide_eq_true g
          simp only [List.mem_cons, List.not_mem_nil, or_false] at hr
          rcases hr with e | e <;> subst e
          · exact put2 g _ (fun z => by cases z) (by
              show (((cs ++ [D.str "a"]).length : Nat) : Int) ≠ cols
              rw [List.length_append, List.length_singleton]
              omega)
          · exact put2 g _ (fun z => by cases z) (by
              show (((cs.drop 1).length : Nat) : Int) ≠ cols
              rw [List.length_drop]
              omega)
        · cases hr
    · simp only [List.mem_cons, List.not_mem_nil, or_false] at hd
      rcases hd with e | e | e | e | e | e | e | e <;> subst e
      · exact bad_no (fun z => by cases z) rfl
      · exact bad_no (fun z => by cases z) rfl
      · exact bad_no (fun z => by cases z) rfl
      · exact row_bad h hm
      · exact bad_no (fun z => by cases z) rfl
      · exact bad_no (fun z => by cases z) rfl
      · exact add (cs.length + 1) (by omega) _ (by rw [List.length_replicate])
      · exact add (cs.length - 1) (by omega) _ (by rw [List.length_dropLast])
  · simp only [List.mem_cons, List.not_mem_nil, or_false] at hd
    rcases hd with e | e <;> subst e
    · refine row_bad h ?_
      cases rows with
      | nil => simp at h1
      | cons r rs => exact List.mem_cons_self
    · exact bad_cell (r := .tup rows) (x := .tup cs) (by simp) (fun x hx => by
        rw [List.mem_singleton.mp hx]
        refine ⟨(fun z => by cases z), fun y hy => ?_⟩
        obtain ⟨_, rfl, _⟩ := (h.row y hy).ex
        trivial) List.mem_cons_self hm rfl
theorem bent_len (rows cs : List D) (i k : Nat) : (bentAll rows cs i k).length ≤ 28 := by
  have : (bentRows cs k (decide (1 < rows.length))).length ≤ 18 := by
    unfold bentRows
    split <;> simp [ODDS]
  unfold bentAll
  simp only [List.length_append, List.length_map, List.length_cons, List.length_nil]
  omega
theorem sort_mem {ds : List D} {d : D} (h : d ∈ sortD ds) : d ∈ ds := by
  unfold sortD at h
  exact List.mem_mergeSort.mp h
theorem sameOk_T {n : Nat} {d : D} (h : okT d) : sameOk n d := by
  cases d <;> first | exact h.elim | (cases n <;> exact h.1)
theorem over_ok : PyData.strOk "over" = true := by decide +kernel
theorem sameOk_note {n : Nat} {d : D} (h : isNote d) : sameOk (n + 1) d := by
  obtain ⟨a, b, ha, hb, rfl⟩ := h
  refine ⟨by simp [lim_eq], fun x hx => ?_⟩
  simp only [List.mem_cons, List.not_mem_nil, or_false] at hx
  rcases hx with e | e | e <;> subst e
  · cases n <;> exact over_ok
  · exact sameOk_T ha
  · exact sameOk_T hb
theorem namesK_ok : ∀ {rows ks : List D}, (∀ r ∈ rows, okRow r) → (∀ k ∈ ks, okT k) → (∀ k ∈ rows.foldl stepK ks, okT k) ∧ (rows.foldl stepK ks).length ≤ ks.length + 40 * rows.length
  | [], ks, _, hk => ⟨hk, Nat.le_refl _⟩
  | r :: rows, ks, h, hk => by
    obtain ⟨h1, h2⟩ := stepK_ok (h r List.mem_cons_self) hk
    obtain ⟨h3, h4⟩ := namesK_ok (rows := rows) (ks := stepK ks r) (fun d hd => h d (List.mem_cons_of_mem _ hd)) h1
    refine ⟨h3, ?_⟩
    rw [List.foldl_cons, List.length_cons]
    omega
/-- told and due alike -/
theorem sameOk_both {rows : List D} (h : ∀ r ∈ rows, okRow r) (hl : rows.length ≤ 40) : sameOk 19 (.tup [.tup (sortD (namesK rows)), .tup (sortD (notesK rows))]) := by
  obtain ⟨n1, n2⟩ := namesK_ok (ks := []) h (fun _ z => by cases z)
  obtain ⟨m1, m2⟩ := notesK_ok h hl
  have n2 : (namesK rows).length ≤ 0 + 40 * rows.length := n2
  refine ⟨by simp [lim_eq], fun x hx => ?_⟩
  simp only [List.mem_cons, List.not_mem_nil, or_false] at hx
  rcases hx with e | e <;> subst e
  · refine ⟨by rw [sortD_len, lim_eq]; omega, fun y hy => sameOk_T (n1 y (sort_mem hy))⟩
  · refine ⟨by rw [sortD_len, lim_eq]; omega, fun y hy => sameOk_note (m1 y (sort_mem hy))⟩
/-- no bent one is found -/
theorem none_found {ds : List D} (h : ∀ d ∈ ds, Bad d) (hl : ds.length ≤ lim) {f : Ev} {x0 x1 x2 x3 x4 x5 : Option (Bool × D)} {c c1 : Cup} (hf : f [x0, x1, x2, x3, x4, x5] c = some (.lst ds, c1)) :
    dLc [5] (dItems f) (bName 5) (dTest (dBin opIsNot (dCall g_is_drawing (dCons (dVar 5) dNil)) (dC (.bl false)))) (dVar 5) [x0, x1, x2, x3, x4, x5] c = some (.lst [], c1) := by
  have e := lc_pure (vs := [5]) (bd := bName 5) (it := dItems f) (elt := dVar 5) (test := dTest (dBin opIsNot (dCall g_is_drawing (dCons (dVar 5) dNil)) (dC (.bl false)))) (ρ := [x0, x1, x2, x3, x4, x5]) (c := c) (c1 := c1) (ds := ds) (fun _ => false) id (by simp [dItems, hf, itemsD]) hl (fun d hd =>
    ⟨[x0, x1, x2, x3, x4, some (false, d)], by simp [wipeD, bName], fun c => by
      have z := is_dr d c
      rw [h d hd c] at z
      simp [dTest, dBin, dCall, dCons, dVar, dNil, z, dC, opIsNot, opIs, isD], fun z => by cases z⟩)
  rw [e]
  simp
end K46
end
section
namespace K46
open PySem L2 DL
/-- a turn of the law -/
theorem law_turn (x0 x1 x2 x3 x5 : Option (Bool × D)) (c : Cup) (hc : CupOk c) : ∃ y2 y3 y5 c', CupOk c' ∧
    (sSeq (sSet false 3 (dCall g__law_names (dCons (dVar 4) (dCons (dBin opAdd (dC (.int 1)) (dCall g__law_roll (dCons (dVar 4) (dCons (dC (.int 9)) dNil)))) (dCons (dC (.str "c")) dNil)))))
    (sSeq (sSet false 2 (dCall g__law_drawing (dCons (dVar 4) (dCons (dBin opAdd (dC (.int 1)) (dCall g__law_roll (dCons (dVar 4) (dCons (dC (.int 7)) dNil)))) (dCons (dBin opAdd (dC (.int 1)) (dCall g__law_roll (dCons (dVar 4) (dCons (dC (.int 7)) dNil)))) (dCons (dVar 3) dNil))))))
    (sSeq (sIf (dOr (dTest (dBin opIsNot (dCall g_is_drawing (dCons (dVar 2) dNil)) (dC (.bl true)))) (dTest (dBin opNe (dLc [5] (dItems (dCall g__law_bent (dCons (dVar 4) (dCons (dVar 2) dNil)))) (bName 5) (dTest (dBin opIsNot (dCall g_is_drawing (dCons (dVar 5) dNil)) (dC (.bl false)))) (dVar 5)) (dLst dNil)))) (sSeq (sRet (dC (.bl false)))
    sNext) sNext)
    (sSeq (sIf (dNot (dTest (dCall (g__law_same 20) (dCons (dTup (dCons (dCall g_names_of (dCons (dVar 2) dNil)) (dCons (dCall g_drawn_notes (dCons (dVar 2) dNil)) dNil))) (dCons (dTup (dCons (dBi biTup (dCons (dCall g__law_all_names (dCons (dVar 2) dNil)) dNil)) (dCons (dCall g__law_notes (dCons (dVar 2) dNil)) dNil))) dNil))))) (sSeq (sRet (dC (.bl false)))
    sNext) sNext)
    sNext)))) [x0, x1, x2, x3, some (false, .cup), x5] c = some (.nx [x0, x1, y2, y3, some (false, .cup), y5] c') := by
  obtain ⟨m, c1, e1, hm, hc1⟩ := roll_nat c hc 9 (by omega) (by omega)
  obtain ⟨fs, c2, e2, l2, hf, hc2⟩ := names_drawn c1 hc1 (1 + m) (by omega) (by omega)
  obtain ⟨a, c3, e3, ha, hc3⟩ := roll_nat c2 hc2 7 (by omega) (by omega)
  obtain ⟨b, c4, e4, hb, hc4⟩ := roll_nat c3 hc3 7 (by omega) (by omega)
  obtain ⟨rows, c5, e5, lr, hr, hc5⟩ := drawing_drawn c4 hc4 (1 + a) (1 + b) (by omega) (by omega) (by omega) (by omega) fs (by omega) (by omega) hf
  have g : Good (1 + b) rows := ⟨hr, by omega, by omega, by omega, by omega⟩
  obtain ⟨cs, i, k, c6, hi, hk, ei, hc6, e6⟩ := bent_read g c5 hc5
  have dr : ∀ c, g_is_drawing [.tup rows] c = some (.bl true, c) := fun c => by rw [is_dr]; exact g.fits c
  have bb := bent_bad g hi hk ei
  have bl := bent_len rows cs i k
  generalize bentAll rows cs i k = BN at e6 bb bl
  have e7 := none_found (f := dCall g__law_bent (dCons (dVar 4) (dCons (dVar 2) dNil))) (x0 := x0) (x1 := x1) (x2 := some (false, .tup rows)) (x3 := some (false, .lst (fs.map .str))) (x4 := some (false, .cup)) (x5 := x5) bb (by rw [lim_eq]; omega) (c := c5) (c1 := c6) (by simp [dCall, dCons, dVar, dNil, e6])
  have ro := g.okDr.rows
  have l40 : rows.length ≤ 40 := by omega
  have f1 := names_of g.fits ro l40 c6
  have f2 := drawn_notes g.fits ro l40 c6
  have f3 := all_names ro l40 c6
  have f4 := law_notes g.okDr c6
  have f5 := same20 (c := c6) (sameOk_both ro l40)
  have z0 : opNe (.lst []) (.lst []) = some (.bl false) := rfl
  have n1 : ((1 : Int) + m) = ((1 + m : Nat) : Int) := by omega
  have n2 : ((1 : Int) + a) = ((1 + a : Nat) : Int) := by omega
  have n3 : ((1 : Int) + b) = ((1 + b : Nat) : Int) := by omega
  refine ⟨some (false, .tup rows), some (false, .lst (fs.map .str)), x5, c6, hc6, ?_⟩
  generalize dLc [5] (dItems (dCall g__law_bent (dCons (dVar 4) (dCons (dVar 2) dNil)))) (bName 5) (dTest (dBin opIsNot (dCall g_is_drawing (dCons (dVar 5) dNil)) (dC (.bl false)))) (dVar 5) = LC at e7 ⊢
  have e1 : g__law_roll [.cup, .int 9] c = some (.int m, c1) := e1
  have e3 : g__law_roll [.cup, .int 7] c2 = some (.int a, c3) := e3
  have e4 : g__law_roll [.cup, .int 7] c3 = some (.int b, c4) := e4
  rw [← n1] at e2
  rw [← n2, ← n3] at e5
  simp [sSeq, sSet, opAdd, e1, e2, e3, e4, e5, sIf, dOr, dNot, dTest, dr, dCall, dCons, dVar, dNil, dBin, dC, opIsNot, isD, e7, dLst, z0, dTup, f1, f2, f3, f4, dBi, biTup, f5, sNext]
end K46
end
section
namespace K46
open PySem L2 DL
/-! written -/
def DW (d : D) : List D := [.tup [.str "a", d, .str ".", .str "a"], .tup [.str "a", .str ".", d, d], .tup [d, .str "a", d, .str "a"], .tup [.str "a", .str "a", .str ".", .str "."], .tup [.str ".", d, .str "a", .str "b"]]
theorem sort3 {x y z : D} (h1 : leD x z = true) (h2 : leD x y = true) (h3 : leD y z = false) : sortD [x, y, z] = [x, z, y] := by
  simp [sortD, List.mergeSort, List.MergeSort.Internal.splitInTwo, List.merge, h1, h2, h3]
def ONES : List Str := ["m", "k2", "zz"]
theorem ones_ok : ∀ s ∈ ONES, (PyData.strOk s = true ∧ s.length ≤ lim) ∧ namesK (DW (.str s)) = [.str "a", .str s, .str "b"] ∧ notesK (DW (.str s)) = [noteK (.str "a") (.str s), noteK (.str s) (.str "a")] ∧ ((DW (.str s)).all rowGood = true) := by
  intro s hs
  simp only [ONES, List.mem_cons, List.not_mem_nil, or_false] at hs
  rcases hs with e | e | e <;> subst e <;> refine ⟨by decide +kernel, by kernel_rfl, by kernel_rfl, by kernel_rfl⟩
theorem ones_le : ∀ s ∈ ONES, leD (.str "a") (.str s) = true ∧ leD (.str "a") (.str "b") = true ∧ leD (.str s) (.str "b") = false := by decide +kernel
theorem dw_fits {s : Str} (h : s ∈ ONES) (c : Cup) : g_fits_drawing [.tup (DW (.str s))] c = some (.bl true, c) := by
  obtain ⟨h1, h2, h3, h4⟩ := ones_ok s h
  have := (fd_main (rows := DW (.str s)) rfl rfl (by kernel_rfl) (fun r hr d hd => by
    simp only [DW, List.mem_cons, List.not_mem_nil, or_false] at hr
    have ha : okCell (.str "a") := ⟨by decide +kernel, by decide +kernel⟩
    have hb : okCell (.str "b") := ⟨by decide +kernel, by decide +kernel⟩
    have hp : okCell (.str ".") := ⟨by decide +kernel, by decide +kernel⟩
    have hs : okCell (.str s) := h1
    rcases hr with e | e | e | e | e <;> subst e <;> simp only [cellsOf, List.mem_cons, List.not_mem_nil, or_false] at hd <;> rcases hd with e | e | e | e <;> subst e <;> assumption) c).2 h4
  rw [this, h2, h3]
  rfl
theorem dw_rows {s : Str} (h : s ∈ ONES) : ∀ r ∈ DW (.str s), okRow r := fun r hr => by
  obtain ⟨h1, _⟩ := ones_ok s h
  have ha : okT (.str "a") := ⟨by decide +kernel, by decide +kernel⟩
  have hb : okT (.str "b") := ⟨by decide +kernel, by decide +kernel⟩
  have hp : okT (.str ".") := ⟨by decide +kernel, by decide +kernel⟩
  have hs : okT (.str s) := h1
  simp only [DW, List.mem_cons, List.not_mem_nil, or_false] at hr
  rcases hr with e | e | e | e | e <;> subst e <;> refine ⟨_, rfl, fun d hd => ?_, by simp⟩ <;> simp only [List.mem_cons, List.not_mem_nil, or_false] at hd <;> rcases hd with e | e | e | e <;> subst e <;> assumption
def AIR1 : List D := [.tup [.str "."]]
theorem air_fits (c : Cup) : g_fits_drawing [.tup AIR1] c = some (.bl true, c) := by
  have := (fd_main (rows := AIR1) rfl rfl (by kernel_rfl) (fun r hr d hd => by
    simp only [AIR1, List.mem_cons, List.not_mem_nil, or_false] at hr
    subst hr
    simp only [cellsOf, List.mem_cons, List.not_mem_nil, or_false] at hd
    subst hd
    exact ⟨by decide +kernel, by decide +kernel⟩) c).2 (by kernel_rfl)
  rw [this]
  kernel_rfl
theorem air_rows : ∀ r ∈ AIR1, okRow r := fun r hr => by
  simp only [AIR1, List.mem_cons, List.not_mem_nil, or_false] at hr
  subst hr
  refine ⟨_, rfl, fun d hd => ?_, by simp⟩
  simp only [List.mem_cons, List.not_mem_nil, or_false] at hd
  subst hd
  exact ⟨by decide +kernel, by decide +kernel⟩
theorem written (c : Cup) (hc : CupOk c) : ∃ c', CupOk c' ∧ g__law_written [.cup] c = some (.bl true, c') := by
  obtain ⟨d, hd, c1, e1, hc1⟩ := some_of c hc [.str "m", .str "k2", .str "zz"] (by simp) (by simp [lim_eq])
  obtain ⟨s, hs, rfl⟩ : ∃ s ∈ ONES, d = .str s := by
    simp only [List.mem_cons, List.not_mem_nil, or_false] at hd
    rcases hd with e | e | e <;> subst e <;> exact ⟨_, by simp [ONES], rfl⟩
  obtain ⟨h1, h2, h3, h4⟩ := ones_ok s hs
  obtain ⟨l1, l2, l3⟩ := ones_le s hs
  have f1 := drawn_notes (dw_fits hs) (dw_rows hs) (by simp [DW]) c1
  have f2 := names_of (dw_fits hs) (dw_rows hs) (by simp [DW]) c1
  have f3 := drawn_notes air_fits air_rows (by simp [AIR1]) c1
  have n0 : notesK AIR1 = [] := by kernel_rfl
  have z0 : sortD [] = [] := by simp [sortD]
  rw [h3] at f1
  rw [h2, sort3 l2 l1 l3] at f2
  rw [n0, z0] at f3
  have ha : okT (.str "a") := ⟨by decide +kernel, by decide +kernel⟩
  have hsT : okT (.str s) := h1
  have nt : ∀ k ∈ [noteK (.str "a") (.str s), noteK (.str s) (.str "a")], isNote k := fun k hk => by
    simp only [List.mem_cons, List.not_mem_nil, or_false] at hk
    rcases hk with e | e <;> subst e
    · exact ⟨_, _, ha, hsT, rfl⟩
    · exact ⟨_, _, hsT, ha, rfl⟩
  have so := sortOk_notes nt (by simp [lim_eq])
  have f4 := same20 (c := c1) (d := .tup [.tup (sortD [noteK (.str "a") (.str s), noteK (.str s) (.str "a")]), .tup [.str "a", .str "b", .str s], .tup []]) (by
    refine ⟨by simp [lim_eq], fun x hx => ?_⟩
    simp only [List.mem_cons, List.not_mem_nil, or_false] at hx
    rcases hx with e | e | e <;> subst e
    · exact ⟨by rw [sortD_len]; simp [lim_eq], fun y hy => sameOk_note (nt y (sort_mem hy))⟩
    · refine ⟨by simp [lim_eq], fun y hy => ?_⟩
      simp only [List.mem_cons, List.not_mem_nil, or_false] at hy
      rcases hy with e | e | e <;> subst e <;> refine sameOk_T ?_
      · exact ha
      · exact ⟨by decide +kernel, by decide +kernel⟩
      · exact h1
    · exact ⟨by simp [lim_eq], fun y hy => by cases hy⟩)
  unfold noteK at so f1 f4
  unfold DW at f1 f2
  unfold AIR1 at f3
  refine ⟨c1, hc1, ?_⟩
  generalize hSN : sortD [.tup [.str "over", .str "a", .str s], .tup [.str "over", .str s, .str "a"]] = SN at f1 f4 ⊢
  have e1' := e1
  have so' : biSorted [.lst [.tup [.str "over", .str "a", .str s], .tup [.str "over", .str s, .str "a"]]] = some SN := by
    unfold biSorted
    simp only [so, if_true]
    rw [hSN]
  simp [g__law_written, b__law_written, fD, startD, sSeq, sNext, sIf, sSet, sRet, sRetN, sDrop, sDropM, sPut, sPar2, sPar3, sAsg, sCup0, sCup1, sFrz, frz, sBreak, sCont, dTest, dBin, dChain, dVar, dVarP, dC, dCons, dNil, dTup, dLst, dAnd, dOr, dNot, dBl, dIf, dNeg, dCup0, dCup1, dBi, dBn, dCall, dIsi, isiD, opGt, opLt, opLe, opGe, opAdd, opSub, opMult, opFdiv, opMod, opPow, biInt, biStr, biLen, biList, biTup, biMax2, biMin2, bName, mApp, List.getElem?_cons_succ, List.getElem?_cons_zero, List.set_cons_succ, List.set_cons_zero, List.length_cons, List.length_nil, List.map_cons, List.map_nil, List.cons_append, List.nil_append, List.replicate_succ, List.replicate_zero, e1', so', f1, f2, f3, f4]
end K46
end
section
namespace K46
open PySem L2 DL
/-! at the bounds -/
def nm (i : Nat) : D := .str ⟨#[110, 48 + i / 10, 48 + i % 10]⟩
def NAMES : List D := (List.range 61).map fun i => nm (10 + i)
def wcell (m r s : Nat) : D := if s < m / 29 ∧ r < 30 then nm (10 + r * (s + 1) % 59) else if s = m / 29 ∧ 0 < m % 29 ∧ r < m % 29 + 1 then nm (10 + r * (s + 1) % 59) else .str "."
def WIDE (m : Nat) : List D := (List.range 30).map fun r => .tup ((List.range 30).map fun s => wcell m r s)
def cellB : D → Bool
  | .str s => PyData.strOk s && decide (s.length ≤ lim) && (fitsS s || (s == "."))
  | _ => false
theorem cellB_ok {d : D} (h : cellB d = true) : okC d := by
  cases d <;> first | cases h; done | skip
  rename_i s
  simp only [cellB, Bool.and_eq_true, decide_eq_true_eq] at h
  exact ⟨h.1, h.2⟩
def shape (n : Nat) (rows : List D) : Bool := rows.all fun r => match r with
  | .tup cs => cs.length == n && cs.all cellB
  | _ => false
theorem shape_ok {n : Nat} {rows : List D} (h : shape n rows = true) (h1 : 1 ≤ n) (h2 : n ≤ 30) (h3 : 1 ≤ rows.length) (h4 : rows.length ≤ 30) : okDr rows n ∧ ∀ r ∈ rows, ∃ cs, r = .tup cs ∧ cs.length = n ∧ ∀ d ∈ cs, okC d := by
  have key : ∀ r ∈ rows, ∃ cs, r = .tup cs ∧ cs.length = n ∧ ∀ d ∈ cs, okC d := fun r hr => by
    have z := List.all_eq_true.mp h r hr
    cases r <;> first | cases z; done | skip
    rename_i cs
    simp only [Bool.and_eq_true, beq_iff_eq] at z
    exact ⟨cs, rfl, z.1, fun d hd => cellB_ok (List.all_eq_true.mp z.2 d hd)⟩
  exact ⟨⟨fun r hr => let ⟨cs, e, l, hc⟩ := key r hr; ⟨cs, e, fun d hd => (hc d hd).1, l⟩, h1, h2, h3, h4⟩, key⟩
theorem shape_main {n : Nat} {rows : List D} (h : shape n rows = true) (h1 : 1 ≤ n) (h2 : n ≤ 30) (h3 : 1 ≤ rows.length) (h4 : rows.length ≤ 30) (c : Cup) : g_fits_drawing [.tup rows] c = some (.bl (decide ((namesK rows).length ≤ 60) && decide ((notesK rows).length ≤ 200)), c) := by
  obtain ⟨_, key⟩ := shape_ok h h1 h2 h3 h4
  refine (fd_main (by simp only [tupIn, Bool.and_eq_true, decide_eq_true_eq]; omega) (List.all_eq_true.mpr fun r hr => ?_) (nub_one (n := n) (fun x hx => ?_) (fun e => ?_)) (fun r hr d hd => ?_) c).2 (List.all_eq_true.mpr fun r hr => ?_)
  · obtain ⟨cs, rfl, l, _⟩ := key r hr
    simp only [tupIn, Bool.and_eq_true, decide_eq_true_eq]
    omega
  · obtain ⟨r, hr, rfl⟩ := List.mem_map.mp hx
    obtain ⟨cs, rfl, l, _⟩ := key r hr
    show ((cs.length : Nat) : Int) = n
    rw [l]
  · have := congrArg List.length e
    rw [List.length_map, List.length_nil] at this
    omega
  · obtain ⟨cs, rfl, _, hc⟩ := key r hr
    exact okC_cell (hc d hd)
  · obtain ⟨cs, rfl, _, hc⟩ := key r hr
    exact List.all_eq_true.mpr fun d hd => (hc d hd).2
def Fit (b : Bool) (d : D) : Prop := ∀ c, g_fits_drawing [d] c = some (.bl b, c)
theorem shape_fit {n : Nat} {rows : List D} (b : Bool) (h : shape n rows = true) (h1 : 1 ≤ n) (h2 : n ≤ 30) (h3 : 1 ≤ rows.length) (h4 : rows.length ≤ 30) (e : (decide ((namesK rows).length ≤ 60) && decide ((notesK rows).length ≤ 200)) = b) : Fit b (.tup rows) := fun c => by rw [shape_main h h1 h2 h3 h4, e]
def ALL1 (d : D) : List D := List.replicate 30 (.tup (List.replicate 30 d))
def TWO : List D := [.tup (NAMES.take 30), .tup ((NAMES.take 60).drop 30)]
def MANY : List D := [.tup (NAMES.take 30), .tup ((NAMES.take 60).drop 30), .tup ((NAMES.take 61).drop 31)]
def THREE : List D := [.tup (NAMES.take 20), .tup ((NAMES.take 40).drop 20), .tup ((NAMES.take 60).drop 40)]
def GOODS (d : D) : List D := [.tup (ALL1 d), .tup (ALL1 (.str ".")), .tup TWO, .tup [.tup [d]], .tup [.tup [.str "."]], .tup (WIDE 200)]
def BADS (d : D) : List D := [.tup [.tup (List.replicate 31 d)], .tup (List.replicate 31 (.tup [d])), .tup MANY, .tup (WIDE 201)]
theorem names_len : NAMES.length = 61 := by kernel_rfl
theorem names_cells : (NAMES.all fun d => cellB d && notAir d) = true := by kernel_rfl
theorem all1_chk : ((D.str "." :: NAMES).all fun d => shape 30 (ALL1 d) && (decide ((namesK (ALL1 d)).length ≤ 60) && decide ((notesK (ALL1 d)).length ≤ 200))) = true := by kernel_rfl
theorem one_chk : ((D.str "." :: NAMES).all fun d => shape 1 [.tup [d]] && (decide ((namesK [.tup [d]]).length ≤ 60) && decide ((notesK [.tup [d]]).length ≤ 200))) = true := by kernel_rfl
theorem two_chk : (shape 30 TWO && (decide ((namesK TWO).length ≤ 60) && decide ((notesK TWO).length ≤ 200))) = true := by kernel_rfl
theorem many_sh : shape 30 MANY = true := by kernel_rfl
theorem many_chk : (decide ((namesK MANY).length ≤ 60) && decide ((notesK MANY).length ≤ 200)) = false := by kernel_rfl
theorem three_sh : shape 20 THREE = true := by kernel_rfl
theorem three_names : (namesK THREE).length = 60 := by kernel_rfl
theorem three_notes : (notesK THREE).length = 40 := by kernel_rfl
theorem wide_sh : shape 30 (WIDE 200) = true := by kernel_rfl
theorem wide_names : decide ((namesK (WIDE 200)).length ≤ 60) = true := by kernel_rfl
theorem wide_notes : (notesK (WIDE 200)).length = 200 := by kernel_rfl
theorem wide_sh1 : shape 30 (WIDE 201) = true := by kernel_rfl
theorem wide_notes1 : (notesK (WIDE 201)).length = 201 := by kernel_rfl
theorem names_read (c : Cup) : dLc [7] (dRng1 (dCons (dC (.int 61)) dNil)) (bName 7) dYes (dBin opAdd (dC (.str "n")) (dBi biStr (dCons (dBin opAdd (dC (.int 10)) (dVarP 7)) dNil))) [some (false, .cup), none, none, none, none, none, none, none, none] c = some (.lst NAMES, c) := by kernel_rfl
theorem wide_read (c : Cup) : g__law_wide [.lst (NAMES.take 59), .int 200] c = some (.tup (WIDE 200), c) := by kernel_rfl
theorem wide_read1 (c : Cup) : g__law_wide [.lst (NAMES.take 59), .int 201] c = some (.tup (WIDE 201), c) := by kernel_rfl
end K46
end
section
namespace K46
open PySem L2 DL
def g0 (d : D) : D := match g_fits_drawing [d] (0, 0) with
  | some (b, _) => b
  | none => .non
theorem fit_g0 {b : Bool} {d : D} (h : Fit b d) : g0 d = .bl b := by unfold g0; rw [h]
theorem fit_dr {b : Bool} {d : D} (h : Fit b d) (c : Cup) : g_is_drawing [d] c = some (g0 d, c) := by rw [is_dr, h c, fit_g0 h]
theorem good_read (d : D) (c : Cup) (x4 : Option (Bool × D)) : dLst (dCons (dBin opMult (dTup (dCons (dBin opMult (dTup (dCons (dVar 1) dNil)) (dC (.int 30))) dNil)) (dC (.int 30))) (dCons (dBin opMult (dTup (dCons (dBin opMult (dTup (dCons (dC (.str ".")) dNil)) (dC (.int 30))) dNil)) (dC (.int 30))) (dCons (dTup (dCons (dBi biTup (dCons (dSl (dVarP 2) dNoPart (dPart (dC (.int 30)))) dNil)) (dCons (dBi biTup (dCons (dSl (dVarP 2) (dPart (dC (.int 30))) (dPart (dC (.int 60)))) dNil)) dNil))) (dCons (dTup (dCons (dTup (dCons (dVar 1) dNil)) dNil)) (dCons (dTup (dCons (dTup (dCons (dC (.str ".")) dNil)) dNil)) (dCons (dVar 3) dNil)))))) [some (false, .cup), some (false, d), some (false, .lst NAMES), some (false, .tup (WIDE 200)), none, none, none, none, none] c = some (.lst (GOODS d), c) := by kernel_rfl
theorem bad_read (d g : D) (c : Cup) : dLst (dCons (dTup (dCons (dBin opMult (dTup (dCons (dVar 1) dNil)) (dC (.int 31))) dNil)) (dCons (dBin opMult (dTup (dCons (dTup (dCons (dVar 1) dNil)) dNil)) (dC (.int 31))) (dCons (dTup (dCons (dBi biTup (dCons (dSl (dVarP 2) dNoPart (dPart (dC (.int 30)))) dNil)) (dCons (dBi biTup (dCons (dSl (dVarP 2) (dPart (dC (.int 30))) (dPart (dC (.int 60)))) dNil)) (dCons (dBi biTup (dCons (dSl (dVarP 2) (dPart (dC (.int 31))) (dPart (dC (.int 61)))) dNil)) dNil)))) (dCons (dCall g__law_wide (dCons (dSl (dVarP 2) dNoPart (dPart (dC (.int 59)))) (dCons (dC (.int 201)) dNil))) dNil)))) [some (false, .cup), some (false, d), some (false, .lst NAMES), some (false, .tup (WIDE 200)), some (false, g), none, none, none, none] c = some (.lst (BADS d), c) := by kernel_rfl
theorem three_read (a d w g b : D) (c : Cup) : dTup (dCons (dBi biTup (dCons (dSl (dVarP 2) dNoPart (dPart (dC (.int 20)))) dNil)) (dCons (dBi biTup (dCons (dSl (dVarP 2) (dPart (dC (.int 20))) (dPart (dC (.int 40)))) dNil)) (dCons (dBi biTup (dCons (dSl (dVarP 2) (dPart (dC (.int 40))) (dPart (dC (.int 60)))) dNil)) dNil))) [some (false, a), some (false, d), some (false, .lst NAMES), some (false, w), some (false, g), some (false, b), none, none, none] c = some (.tup THREE, c) := by kernel_rfl
theorem wide_call (a x : D) (c : Cup) (y1 y3 y4 y5 y6 y7 y8 : Option (Bool × D)) : dCall g__law_wide (dCons (dSl (dVarP 2) dNoPart (dPart (dC (.int 59)))) (dCons (dC (.int 200)) dNil)) [some (false, a), y1, some (false, .lst NAMES), y3, y4, y5, y6, y7, y8] c = some (.tup (WIDE 200), c) := by kernel_rfl
theorem wide_fit : Fit true (.tup (WIDE 200)) := shape_fit true wide_sh (by decide) (by decide) (by simp [WIDE]) (by simp [WIDE]) (by rw [wide_names, wide_notes]; rfl)
theorem wide_fit1 : Fit false (.tup (WIDE 201)) := shape_fit false wide_sh1 (by decide) (by decide) (by simp [WIDE]) (by simp [WIDE]) (by rw [wide_notes1]; simp)
theorem goods_fit {d : D} (hd : d ∈ NAMES) : ∀ x ∈ GOODS d, Fit true x := by
  have a1 := fun d (h : d ∈ D.str "." :: NAMES) => List.all_eq_true.mp all1_chk d h
  have o1 := fun d (h : d ∈ D.str "." :: NAMES) => List.all_eq_true.mp one_chk d h
  have t1 := two_chk
  have fa : ∀ d ∈ D.str "." :: NAMES, Fit true (.tup (ALL1 d)) := fun d h => by
    obtain ⟨z1, z2⟩ := Bool.and_eq_true_iff.mp (a1 d h)
    exact shape_fit true z1 (by decide) (by decide) (by simp [ALL1]) (by simp [ALL1]) z2
  have fo : ∀ d ∈ D.str "." :: NAMES, Fit true (.tup [.tup [d]]) := fun d h => by
    obtain ⟨z1, z2⟩ := Bool.and_eq_true_iff.mp (o1 d h)
    exact shape_fit true z1 (by decide) (by decide) (by simp) (by simp) z2
  obtain ⟨z1, z2⟩ := Bool.and_eq_true_iff.mp t1
  intro x hx
  simp only [GOODS, List.mem_cons, List.not_mem_nil, or_false] at hx
  rcases hx with e | e | e | e | e | e <;> subst e
  · exact fa d (List.mem_cons_of_mem _ hd)
  · exact fa _ List.mem_cons_self
  · exact shape_fit true z1 (by decide) (by decide) (by simp [TWO]) (by simp [TWO]) z2
  · exact fo d (List.mem_cons_of_mem _ hd)
  · exact fo _ List.mem_cons_self
  · exact wide_fit
theorem bads_fit {d : D} (hd : d ∈ NAMES) : ∀ x ∈ BADS d, Fit false x := by
  intro x hx
  simp only [BADS, List.mem_cons, List.not_mem_nil, or_false] at hx
  rcases hx with e | e | e | e <;> subst e
  · exact bad_row (by simp) (by simp) (fun r hr => by rw [List.mem_singleton.mp hr]; exact fun z => by cases z) List.mem_cons_self (by simp [tupIn])
  · exact bad_no (fun z => by cases z) (by simp [tupIn])
  · exact shape_fit false many_sh (by decide) (by decide) (by simp [MANY]) (by simp [MANY]) many_chk
  · exact wide_fit1
theorem all_dr {d : D} (hd : d ∈ NAMES) (a w t y7 : Option (Bool × D)) (x1 : Option (Bool × D)) (c : Cup) :
    dLc [8] (dItems (dBin opAdd (dVarP 4) (dVarP 5))) (bName 8) dYes (dCall g_is_drawing (dCons (dVar 8) dNil)) [a, x1, w, t, some (false, .lst (GOODS d)), some (false, .lst (BADS d)), y7, none, none] c = some (.lst [.bl true, .bl true, .bl true, .bl true, .bl true, .bl true, .bl false, .bl false, .bl false, .bl false], c) := by
  have hl : (GOODS d).length + (BADS d).length ≤ lim := by simp [GOODS, BADS, lim_eq]
  have gf := goods_fit hd
  have bf := bads_fit hd
  have e := lc_map (vs := [8]) (bd := bName 8) (it := dItems (dBin opAdd (dVarP 4) (dVarP 5))) (elt := dCall g_is_drawing (dCons (dVar 8) dNil)) (ρ := [a, x1, w, t, some (false, .lst (GOODS d)), some (false, .lst (BADS d)), y7, none, none]) (c := c) (c1 := c) (ds := GOODS d ++ BADS d) g0 (by simp [dItems, dBin, dVarP, opAdd, hl, itemsD]) (by rw [List.length_append]; exact hl) (fun x hx =>
    ⟨[a, x1, w, t, some (false, .lst (GOODS d)), some (false, .lst (BADS d)), y7, none, some (false, x)], by simp [wipeD, bName], fun c => by
      have z : g_is_drawing [x] c = some (g0 x, c) := by
        rcases List.mem_append.mp hx with h | h
        · exact fit_dr (gf x h) c
        · exact fit_dr (bf x h) c
      simp [dCall, dCons, dVar, dNil, z]⟩)
  rw [e, List.map_append]
  have m1 : (GOODS d).map g0 = [.bl true, .bl true, .bl true, .bl true, .bl true, .bl true] := by
    rw [List.map_congr_left (g := fun _ => D.bl true) fun x hx => fit_g0 (gf x hx)]
    rfl
  have m2 : (BADS d).map g0 = [.bl false, .bl false, .bl false, .bl false] := by
    rw [List.map_congr_left (g := fun _ => D.bl false) fun x hx => fit_g0 (bf x hx)]
    rfl
  rw [m1, m2]
  rfl
theorem due_dr (ρ : Rho) (c : Cup) : dBin opAdd (dBin opMult (dLst (dCons (dC (.bl true)) dNil)) (dC (.int 6))) (dBin opMult (dLst (dCons (dC (.bl false)) dNil)) (dC (.int 4))) ρ c = some (.lst [.bl true, .bl true, .bl true, .bl true, .bl true, .bl true, .bl false, .bl false, .bl false, .bl false], c) := by kernel_rfl
theorem same_dr : opNe (.lst [.bl true, .bl true, .bl true, .bl true, .bl true, .bl true, .bl false, .bl false, .bl false, .bl false]) (.lst [.bl true, .bl true, .bl true, .bl true, .bl true, .bl true, .bl false, .bl false, .bl false, .bl false]) = some (.bl false) := by kernel_rfl
end K46
end
section
namespace K46
open PySem L2 DL
theorem lens_eval (NO DN SM : List D → Cup → Option (D × Cup)) (WW TT A1 A2 A3 : List D) (x0 x1 x2 x4 x5 x7 x8 : Option (Bool × D)) (c1 : Cup) (r : D)
  (n1 : NO [.tup TT] c1 = some (.tup A1, c1)) (n2 : DN [.tup TT] c1 = some (.tup A2, c1)) (n3 : DN [.tup WW] c1 = some (.tup A3, c1)) (i1 i2 i3 : Int) (s1 : (A1.length : Int) = i1) (s2 : (A2.length : Int) = i2) (s3 : (A3.length : Int) = i3)
  (y1 y2 y3 : Ev) (h1 : ∀ ρ c, y1 ρ c = some (.int i1, c)) (h2 : ∀ ρ c, y2 ρ c = some (.int i2, c)) (h3 : ∀ ρ c, y3 ρ c = some (.int i3, c)) (f2 : SM [.tup [.int i1, .int i2, .int i3], .tup [.int i1, .int i2, .int i3]] c1 = some (r, c1)) :
  dCall SM (dCons (dTup (dCons (dBi biLen (dCons (dCall NO (dCons (dVar 6) dNil)) dNil)) (dCons (dBi biLen (dCons (dCall DN (dCons (dVar 6) dNil)) dNil)) (dCons (dBi biLen (dCons (dCall DN (dCons (dVar 3) dNil)) dNil)) dNil)))) (dCons (dTup (dCons y1 (dCons y2 (dCons y3 dNil)))) dNil)) [x0, x1, x2, some (false, .tup WW), x4, x5, some (false, .tup TT), x7, x8] c1 = some (r, c1) := by
  subst s1 s2 s3
  simp [dCall, dTup, dCons, dNil, dBi, dVar, biLen, n1, n2, n3, h1, h2, h3, f2]
theorem ret_eval (NO DN AN LN SM : List D → Cup → Option (D × Cup)) (WW A3 A4 : List D) (x0 x1 x2 x4 x5 x6 x7 x8 : Option (Bool × D)) (c1 : Cup)
  (n3 : DN [.tup WW] c1 = some (.tup A3, c1)) (n4 : NO [.tup WW] c1 = some (.tup A4, c1)) (n5 : AN [.tup WW] c1 = some (.lst A4, c1)) (n6 : LN [.tup WW] c1 = some (.tup A3, c1)) (f1 : SM [.tup [.tup A4, .tup A3], .tup [.tup A4, .tup A3]] c1 = some (.bl true, c1)) :
  sRet (dCall SM (dCons (dTup (dCons (dCall NO (dCons (dVar 3) dNil)) (dCons (dCall DN (dCons (dVar 3) dNil)) dNil))) (dCons (dTup (dCons (dBi biTup (dCons (dCall AN (dCons (dVar 3) dNil)) dNil)) (dCons (dCall LN (dCons (dVar 3) dNil)) dNil))) dNil))) [x0, x1, x2, some (false, .tup WW), x4, x5, x6, x7, x8] c1 = some (.rt (.bl true) c1) := by
  simp [sRet, dCall, dTup, dCons, dNil, dBi, dVar, biTup, n3, n4, n5, n6, f1]
theorem seqN {F G : SF} {ρ ρ1 : Rho} {c c1 : Cup} (h : F ρ c = some (.nx ρ1 c1)) : sSeq F G ρ c = G ρ1 c1 := by unfold sSeq; rw [h]
theorem seqR {F G : SF} {ρ : Rho} {c c1 : Cup} {d : D} (h : F ρ c = some (.rt d c1)) : sSeq F G ρ c = some (.rt d c1) := by unfold sSeq; rw [h]
theorem ifN {t : EvB} {F G : SF} {ρ : Rho} {c c1 : Cup} (h : t ρ c = some (false, c1)) : sIf t F G ρ c = G ρ c1 := by simp only [sIf, h]
theorem fD1 {N : Nat} {F : SF} {d r : D} {c c1 : Cup} (h : F (startD N [d]) c = some (.rt r c1)) : fD 1 N F [d] c = some (r, c1) := by
  unfold fD
  rw [if_pos (show [d].length = 1 from rfl), h]
theorem bounds_right (c : Cup) (hc : CupOk c) : ∃ c', CupOk c' ∧ g__law_bounds_right [.cup] c = some (.bl true, c') := by
  have q1 := names_read c
  obtain ⟨d, hd, c1, e1, hc1⟩ := some_of c hc NAMES (by rw [names_len]; decide) (by rw [names_len, lim_eq]; decide)
  have q2 := wide_call .cup .non c1 none none none none none none none
  have q3 := good_read d c1 none
  have q4 := bad_read d (.lst (GOODS d)) c1
  have q5 := all_dr hd (some (false, .cup)) (some (false, .lst NAMES)) (some (false, .tup (WIDE 200))) none (some (false, d)) c1
  have q6 := fun ρ => due_dr ρ c1
  have q7 := three_read .cup d (.tup (WIDE 200)) (.lst (GOODS d)) (.lst (BADS d)) c1
  obtain ⟨t1, t2⟩ := shape_ok three_sh (by decide) (by decide) (by simp [THREE]) (by simp [THREE])
  obtain ⟨w1, w2⟩ := shape_ok wide_sh (by decide) (by decide) (by simp [WIDE]) (by simp [WIDE])
  have three_fit : Fit true (.tup THREE) := shape_fit true three_sh (by decide) (by decide) (by simp [THREE]) (by simp [THREE]) (by rw [three_names, three_notes]; rfl)
  have lt : THREE.length ≤ 40 := by simp [THREE]
  have lw : (WIDE 200).length ≤ 40 := by simp [WIDE]
  have n1 := names_of three_fit t1.rows lt c1
  have n2 := drawn_notes three_fit t1.rows lt c1
  have n3 := drawn_notes wide_fit w1.rows lw c1
  have n4 := names_of wide_fit w1.rows lw c1
  have n5 := all_names w1.rows lw c1
  have n6 := law_notes w1 c1
  have s1 : ((sortD (namesK THREE)).length : Int) = 60 := by rw [sortD_len, three_names]; rfl
  have s2 : ((sortD (notesK THREE)).length : Int) = 40 := by rw [sortD_len, three_notes]; rfl
  have s3 : ((sortD (notesK (WIDE 200))).length : Int) = 200 := by rw [sortD_len, wide_notes]; rfl
  have f1 := same20 (c := c1) (sameOk_both w1.rows lw)
  have f2 := same20 (c := c1) (d := .tup [.int 60, .int 40, .int 200]) ⟨by simp [lim_eq], fun x hx => by
    simp only [List.mem_cons, List.not_mem_nil, or_false] at hx
    rcases hx with e | e | e <;> subst e <;> trivial⟩
  refine ⟨c1, hc1, ?_⟩
  have sd := same_dr
  generalize [D.bl true, .bl true, .bl true, .bl true, .bl true, .bl true, .bl false, .bl false, .bl false, .bl false] = BS at q5 q6 sd
  generalize WIDE 200 = WW at q2 q3 q4 q5 q7 n3 n4 n5 n6 s3 f1
  generalize sortD (namesK THREE) = A1 at n1 s1
  generalize sortD (notesK THREE) = A2 at n2 s2
  generalize sortD (notesK WW) = A3 at n3 n6 s3 f1
  generalize sortD (namesK WW) = A4 at n4 n5 f1
  generalize THREE = TT at n1 n2 q7
  unfold g__law_bounds_right b__law_bounds_right
  generalize dLc [7] (dRng1 (dCons (dC (.int 61)) dNil)) (bName 7) dYes (dBin opAdd (dC (.str "n")) (dBi biStr (dCons (dBin opAdd (dC (.int 10)) (dVarP 7)) dNil))) = X7 at q1 ⊢
  generalize dCall g__law_wide (dCons (dSl (dVarP 2) dNoPart (dPart (dC (.int 59)))) (dCons (dC (.int 200)) dNil)) = XW at q2 ⊢
  generalize dLst (dCons (dBin opMult (dTup (dCons (dBin opMult (dTup (dCons (dVar 1) dNil)) (dC (.int 30))) dNil)) (dC (.int 30))) (dCons (dBin opMult (dTup (dCons (dBin opMult (dTup (dCons (dC (.str ".")) dNil)) (dC (.int 30))) dNil)) (dC (.int 30))) (dCons (dTup (dCons (dBi biTup (dCons (dSl (dVarP 2) dNoPart (dPart (dC (.int 30)))) dNil)) (dCons (dBi biTup (dCons (dSl (dVarP 2) (dPart (dC (.int 30))) (dPart (dC (.int 60)))) dNil)) dNil))) (dCons (dTup (dCons (dTup (dCons (dVar 1) dNil)) dNil)) (dCons (dTup (dCons (dTup (dCons (dC (.str ".")) dNil)) dNil)) (dCons (dVar 3) dNil)))))) = X4 at q3 ⊢
  generalize dLst (dCons (dTup (dCons (dBin opMult (dTup (dCons (dVar 1) dNil)) (dC (.int 31))) dNil)) (dCons (dBin opMult (dTup (dCons (dTup (dCons (dVar 1) dNil)) dNil)) (dC (.int 31))) (dCons (dTup (dCons (dBi biTup (dCons (dSl (dVarP 2) dNoPart (dPart (dC (.int 30)))) dNil)) (dCons (dBi biTup (dCons (dSl (dVarP 2) (dPart (dC (.int 30))) (dPart (dC (.int 60)))) dNil)) (dCons (dBi biTup (dCons (dSl (dVarP 2) (dPart (dC (.int 31))) (dPart (dC (.int 61)))) dNil)) dNil)))) (dCons (dCall g__law_wide (dCons (dSl (dVarP 2) dNoPart (dPart (dC (.int 59)))) (dCons (dC (.int 201)) dNil))) dNil)))) = X5 at q4 ⊢
  generalize dLc [8] (dItems (dBin opAdd (dVarP 4) (dVarP 5))) (bName 8) dYes (dCall g_is_drawing (dCons (dVar 8) dNil)) = X8 at q5 ⊢
  generalize dBin opAdd (dBin opMult (dLst (dCons (dC (.bl true)) dNil)) (dC (.int 6))) (dBin opMult (dLst (dCons (dC (.bl false)) dNil)) (dC (.int 4))) = XD at q6 ⊢
  generalize dTup (dCons (dBi biTup (dCons (dSl (dVarP 2) dNoPart (dPart (dC (.int 20)))) dNil)) (dCons (dBi biTup (dCons (dSl (dVarP 2) (dPart (dC (.int 20))) (dPart (dC (.int 40)))) dNil)) (dCons (dBi biTup (dCons (dSl (dVarP 2) (dPart (dC (.int 40))) (dPart (dC (.int 60)))) dNil)) dNil))) = X6 at q7 ⊢
  generalize g__law_same 20 = SM at f1 f2 ⊢
  generalize g__law_some = SO at e1 ⊢
  generalize g_names_of = NO at n1 n4 ⊢
  generalize g_drawn_notes = DN at n2 n3 ⊢
  generalize g__law_all_names = AN at n5 ⊢
  generalize g__law_notes = LN at n6 ⊢
  clear three_fit t1 t2 w1 w2 lt lw hd hc hc1
  generalize NAMES = NN at q1 q2 q3 q4 q5 q7 e1
  generalize GOODS d = GG at q3 q4 q5 q7
  generalize BADS d = BB at q4 q5 q7
  refine fD1 ?_
  have e0 : startD 9 [D.cup] = [some (false, .cup), none, none, none, none, none, none, none, none] := rfl
  rw [e0]
  rw [seqN (ρ1 := [some (false, .cup), none, some (false, .lst NN), none, none, none, none, none, none]) (c1 := c) (by simp [sSet, q1])]
  rw [seqN (ρ1 := [some (false, .cup), some (false, d), some (false, .lst NN), some (false, .tup WW), none, none, none, none, none]) (c1 := c1) (by simp [sPar2, dCall, dCons, dVar, dNil, e1, q2])]
  rw [seqN (ρ1 := [some (false, .cup), some (false, d), some (false, .lst NN), some (false, .tup WW), some (false, .lst GG), none, none, none, none]) (c1 := c1) (by simp [sSet, q3])]
  rw [seqN (ρ1 := [some (false, .cup), some (false, d), some (false, .lst NN), some (false, .tup WW), some (false, .lst GG), some (false, .lst BB), none, none, none]) (c1 := c1) (by simp [sSet, q4])]
  rw [seqN (ρ1 := [some (false, .cup), some (false, d), some (false, .lst NN), some (false, .tup WW), some (false, .lst GG), some (false, .lst BB), none, none, none]) (c1 := c1) (by rw [ifN (c1 := c1) (by simp [dTest, dBin, q5, q6, sd])]; rfl)]
  rw [seqN (ρ1 := [some (false, .cup), some (false, d), some (false, .lst NN), some (false, .tup WW), some (false, .lst GG), some (false, .lst BB), some (false, .tup TT), none, none]) (c1 := c1) (by simp [sSet, q7])]
  have z := lens_eval NO DN SM WW TT A1 A2 A3 (some (false, .cup)) (some (false, d)) (some (false, .lst NN)) (some (false, .lst GG)) (some (false, .lst BB)) none none c1 (.bl true) n1 n2 n3 60 40 200 s1 s2 s3 (dC (.int 60)) (dC (.int 40)) (dC (.int 200)) (fun _ _ => rfl) (fun _ _ => rfl) (fun _ _ => rfl) f2
  rw [seqN (ρ1 := [some (false, .cup), some (false, d), some (false, .lst NN), some (false, .tup WW), some (false, .lst GG), some (false, .lst BB), some (false, .tup TT), none, none]) (c1 := c1) (by rw [ifN (c1 := c1) (by simp only [dNot, dTest]; rw [z]; rfl)]; rfl)]
  exact seqR (ret_eval NO DN AN LN SM WW A3 A4 _ _ _ _ _ _ _ _ c1 n3 n4 n5 n6 f1)
/-- the law holds -/
theorem math : ∀ c, CupOk c → ∃ c', b_law (lawRho 6 4) c = some (.rt (.bl true) c') := fun c hc => by
  have turn := law_turn
  unfold b_law
  generalize (sSeq (sSet false 3 (dCall g__law_names (dCons (dVar 4) (dCons (dBin opAdd (dC (.int 1)) (dCall g__law_roll (dCons (dVar 4) (dCons (dC (.int 9)) dNil)))) (dCons (dC (.str "c")) dNil)))))
    (sSeq (sSet false 2 (dCall g__law_drawing (dCons (dVar 4) (dCons (dBin opAdd (dC (.int 1)) (dCall g__law_roll (dCons (dVar 4) (dCons (dC (.int 7)) dNil)))) (dCons (dBin opAdd (dC (.int 1)) (dCall g__law_roll (dCons (dVar 4) (dCons (dC (.int 7)) dNil)))) (dCons (dVar 3) dNil))))))
    (sSeq (sIf (dOr (dTest (dBin opIsNot (dCall g_is_drawing (dCons (dVar 2) dNil)) (dC (.bl true)))) (dTest (dBin opNe (dLc [5] (dItems (dCall g__law_bent (dCons (dVar 4) (dCons (dVar 2) dNil)))) (bName 5) (dTest (dBin opIsNot (dCall g_is_drawing (dCons (dVar 5) dNil)) (dC (.bl false)))) (dVar 5)) (dLst dNil)))) (sSeq (sRet (dC (.bl false)))
    sNext) sNext)
    (sSeq (sIf (dNot (dTest (dCall (g__law_same 20) (dCons (dTup (dCons (dCall g_names_of (dCons (dVar 2) dNil)) (dCons (dCall g_drawn_notes (dCons (dVar 2) dNil)) dNil))) (dCons (dTup (dCons (dBi biTup (dCons (dCall g__law_all_names (dCons (dVar 2) dNil)) dNil)) (dCons (dCall g__law_notes (dCons (dVar 2) dNil)) dNil))) dNil))))) (sSeq (sRet (dC (.bl false)))
    sNext) sNext)
    sNext)))) = F at turn ⊢
  obtain ⟨ρ', c1, h1, y1, y2, y3, y5, e, hc1⟩ := for_inv (n := 0) (ds := intsD 0 5) (bd := bName 1) (F := F) (ρ := lawRho 6 4) (c := c)
    (fun _ ρ c => ∃ y1 y2 y3 y5, ρ = [none, y1, y2, y3, some (false, .cup), y5] ∧ CupOk c)
    (fun i d ρ c hd ⟨y1, y2, y3, y5, e, hc⟩ => by
      subst e
      obtain ⟨z2, z3, z5, c2, h2, h3⟩ := turn none (some (false, d)) y2 y3 y5 c hc
      exact ⟨[none, some (false, d), y2, y3, some (false, .cup), y5], _, c2, by simp [bName], h3, some (false, d), z2, z3, z5, rfl, h2⟩)
    ⟨none, none, none, none, rfl, hc⟩
  subst e
  obtain ⟨c2, hc2, e2⟩ := bounds_right c1 hc1
  obtain ⟨c3, hc3, e3⟩ := written c2 hc2
  refine ⟨c3, ?_⟩
  have er : dRng1 (dCons (dC (.int 5)) dNil) (lawRho 6 4) c = some (intsD 0 5, c) := rfl
  generalize dRng1 (dCons (dC (.int 5)) dNil) = Z at er ⊢
  simp [sSeq, sFor, er, h1, sRet, dIf, dTest, dCall, dCons, dVar, dNil, e2, e3, dC]
end K46
end
section
open PySem PySem.W PyProof.Rows
set_option maxRecDepth 100000 in
set_option maxHeartbeats 0 in
theorem PySem.Challenge.cw_earthorder_k46_whole_drawings_and_notes_holds : PySem.Challenge.rw_earthorder_k46_whole_drawings_and_notes.Holds := by
  w_on; o_law; k_head; (case hw => w_witness2)
  k_fill
  refine L2.walk_of (l := PySem.Challenge.rw_earthorder_k46_whole_drawings_and_notes) (n := 63) (k := 24) (x := "script") (CX := fun _ => L2.CX0) (sp := fun w => DL.spLaw _) rfl (by decide) rfl ⟨rfl, by decide, by decide⟩ (fun w h Y => PySem.W.kIn_of Y) ?F (fun _ _ a ns hl _ hS => ⟨a, ns, rfl, hS, hl, fun _ => rfl⟩) (fun _ _ _ _ _ h => h)
  case F =>
    intro w mg fa h KX NG hmg
    refine' K46.all_mk K46.math KX NG hmg ?a1 ?l1 ?c1 ?k1 ?a2 ?l2 ?c2 ?k2 ?a3 ?l3 ?c3 ?k3 ?a4 ?l4 ?c4 ?k4 ?a5 ?l5 ?c5 ?k5 ?a6 ?l6 ?c6 ?k6 ?a7 ?l7 ?c7 ?k7 ?a8 ?l8 ?c8 ?k8 ?a9 ?l9 ?c9 ?k9 ?a10 ?l10 ?c10 ?k10 ?a11 ?l11 ?c11 ?k11 ?a12 ?l12 ?c12 ?k12 ?a13 ?l13 ?c13 ?k13 ?a14 ?l14 ?c14 ?k14 ?a15 ?l15 ?c15 ?k15 ?a16 ?l16 ?c16 ?k16 ?a17 ?l17 ?c17 ?k17 ?a18 ?l18 ?c18 ?k18 ?a19 ?l19 ?c19 ?k19 ?a20 ?l20 ?c20 ?k20 ?a21 ?l21 ?c21 ?k21 ?a22 ?l22 ?c22 ?k22 ?z1 ?z2 ?z3 ?z4 ?z5 ?z6 ?z7 ?z8 ?z9 ?z10 ?z11 ?z12 ?z13 ?z14 ?z15 ?z16 ?g1 ?g2 ?g3 ?g4 ?g5 ?g6 ?g7
    (case a1 => k_is)
    (case l1 => k_is)
    (case c1 => k_is)
    (case k1 => k_is)
    (case a2 => k_is)
    (case l2 => k_is)
    (case c2 => k_is)
    (case k2 => k_is)
    (case a3 => k_is)
    (case l3 => k_is)
    (case c3 => k_is)
    (case k3 => k_is)
    (case a4 => k_is)
    (case l4 => k_is)
    (case c4 => k_is)
    (case k4 => k_is)
    (case a5 => k_is)
    (case l5 => k_is)
    (case c5 => k_is)
    (case k5 => k_is)
    (case a6 => k_is)
    (case l6 => k_is)
    (case c6 => k_is)
    (case k6 => k_is)
    (case a7 => k_is)
    (case l7 => k_is)
    (case c7 => k_is)
    (case k7 => k_is)
    (case a8 => k_is)
    (case l8 => k_is)
    (case c8 => k_is)
    (case k8 => k_is)
    (case a9 => k_is)
    (case l9 => k_is)
    (case c9 => k_is)
    (case k9 => k_is)
    (case a10 => k_is)
    (case l10 => k_is)
    (case c10 => k_is)
    (case k10 => k_is)
    (case a11 => k_is)
    (case l11 => k_is)
    (case c11 => k_is)
    (case k11 => k_is)
    (case a12 => k_is)
    (case l12 => k_is)
    (case c12 => k_is)
    (case k12 => k_is)
    (case a13 => k_is)
    (case l13 => k_is)
    (case c13 => k_is)
    (case k13 => k_is)
    (case a14 => k_is)
    (case l14 => k_is)
    (case c14 => k_is)
    (case k14 => k_is)
    (case a15 => k_is)
    (case l15 => k_is)
    (case c15 => k_is)
    (case k15 => k_is)
    (case a16 => k_is)
    (case l16 => k_is)
    (case c16 => k_is)
    (case k16 => k_is)
    (case a17 => k_is)
    (case l17 => k_is)
    (case c17 => k_is)
    (case k17 => k_is)
    (case a18 => k_is)
    (case l18 => k_is)
    (case c18 => k_is)
    (case k18 => k_is)
    (case a19 => k_is)
    (case l19 => k_is)
    (case c19 => k_is)
    (case k19 => k_is)
    (case a20 => k_is)
    (case l20 => k_is)
    (case c20 => k_is)
    (case k20 => k_is)
    (case a21 => k_is)
    (case l21 => k_is)
    (case c21 => k_is)
    (case k21 => k_is)
    (case a22 => k_is)
    (case l22 => k_is)
    (case c22 => k_is)
    (case k22 => k_is)
    (case z1 => k_is)
    (case z2 => k_is)
    (case z3 => k_is)
    (case z4 => k_is)
    (case z5 => k_is)
    (case z6 => k_is)
    (case z7 => k_is)
    (case z8 => k_is)
    (case z9 => k_is)
    (case z10 => k_is)
    (case z11 => k_is)
    (case z12 => k_is)
    (case z13 => k_is)
    (case z14 => k_is)
    (case z15 => k_is)
    (case z16 => k_is)
    (case g1 => k_is)
    (case g2 => k_is)
    (case g3 => k_is)
    (case g4 => k_is)
    (case g5 => k_is)
    (case g6 => k_is)
    (case g7 => k_is)
end
