import PyProof.Rows.All
import Wide.All
import OpenK.AllK
import Wide.FinOn
import KE.KStateDown
import HandS.ForMost
import HandS.Exc
import HandS.ExcCtx
import HandS.Walk
import HandS.Wide
import HandS.IsInst
import HandS.Head0
import HandS.Head1
import HandS.Head2
import HandS.HeadEnd
import HandS.HeadHook1
import HandS.HeadHook2
import HandS.Defaults
import HandS.ExcOwn
import HandS.TupAny
import HandS.Zip
import HandS.Codes
import PySem.Challenge.RW_barsplit_k10_rows_made
set_option Elab.async false
set_option linter.all false
set_option maxRecDepth 100000
set_option maxHeartbeats 4000000
/-! A layer of values over the hand layer: trees of data, what stands for them in the heap, and what each reading does to them. -/
namespace VL
open PySem PySem.Spec PyProof.Rows L2

/-- data: what a value is, without addresses -/
inductive D where
  | non | bl (b : Bool) | int (i : Int) | str (x : Str) | ty (n : String) | adr (a : Addr)
  | tup (ds : List D) | lst (ds : List D) | dK (ks : List Key) (ds : List D) | dT (ks : List (List Key)) (ds : List D) | scr (ns : List Int)

/-- a tuple that stands at a: tracked, or written -/
def TqT (K : PySem.W.Frag) (G : Hp) (a : Addr) (vs : List V) : Prop := G a = some (.tup vs) ∨ ∃ (o : Obj) (its : Array Value) (n : Nat), K.lookup a = some o ∧ o.cls = .type "tuple" ∧ o.data = .seq its n ∧ its.size ≤ sizeLine ∧ Vals vs its.toList
theorem TqT.sq {K : PySem.W.Frag} {G : Hp} {a : Addr} {vs : List V} (h : TqT K G a vs) : SqT K G a vs := by
  rcases h with h | h
  · exact .inl (.inl h)
  · exact .inr h
mutual
/-- v stands for d in the heap G -/
def Rep (K : PySem.W.Frag) (G : Hp) : D → V → Prop
  | .non, v => v = .non
  | .bl b, v => v = .bl b
  | .int i, v => v = .int i
  | .str x, v => v = .str x
  | .ty n, v => v = .ty n
  | .adr a, v => v = .ref a
  | .tup ds, v => ∃ a vs, v = .ref a ∧ TqT K G a vs ∧ RepL K G ds vs
  | .lst ds, v => ∃ a vs, v = .ref a ∧ G a = some (.lst vs) ∧ RepL K G ds vs
  | .dK ks ds, v => ∃ a vs, v = .ref a ∧ G a = some (.dK (ks.zip vs)) ∧ ks.length = ds.length ∧ RepL K G ds vs
  | .dT ks ds, v => ∃ a vs, v = .ref a ∧ G a = some (.dT (ks.zip vs)) ∧ ks.length = ds.length ∧ RepL K G ds vs
  | .scr ns, v => ∃ a, v = .ref a ∧ ((∃ o, G a = some (.frz o (.lst (ns.map V.int)))) ∨ ∀ H : Hp, SqL K H a (ns.map V.int))
def RepL (K : PySem.W.Frag) (G : Hp) : List D → List V → Prop
  | [], vs => vs = []
  | d :: ds, vs => ∃ v r, vs = v :: r ∧ Rep K G d v ∧ RepL K G ds r
end
mutual
/-- nothing in it can be changed -/
def D.imm : D → Bool
  | .tup ds => immL ds
  | .lst _ => false
  | .dK _ _ => false
  | .dT _ _ => false
  | _ => true
def immL : List D → Bool
  | [] => true
  | d :: ds => d.imm && immL ds
end
/-- what stands at the address of a thing that can be changed -/
def Obj1 (K : PySem.W.Frag) (G H : Hp) (a : Addr) : D → Prop
  | .lst ds => ∃ vs, H a = some (.lst vs) ∧ RepL K G ds vs
  | .dK ks ds => ∃ vs, H a = some (.dK (ks.zip vs)) ∧ ks.length = ds.length ∧ RepL K G ds vs
  | .dT ks ds => ∃ vs, H a = some (.dT (ks.zip vs)) ∧ ks.length = ds.length ∧ RepL K G ds vs
  | _ => False

def Ex (H H' : Hp) : Prop := ∀ a o, H a = some o → H' a = some o
theorem Ex.refl (H : Hp) : Ex H H := fun _ _ h => h
theorem Ex.trans {H H1 H2 : Hp} (a : Ex H H1) (b : Ex H1 H2) : Ex H H2 := fun x o h => b x o (a x o h)
theorem Ex.new {H : Hp} {p : Addr} {o : HO} (h : H p = none) : Ex H (upd H p o) := fun a u e => by
  rw [upd_ne (ne_of_none e h)]
  exact e
theorem ex_rd {H H' : Hp} {a : Addr} {u : HO} (e : Ex H H') (h : Rd H a u) : Rd H' a u := by
  rcases h with h | ⟨o, h⟩
  · exact Or.inl (e a _ h)
  · exact Or.inr ⟨o, e a _ h⟩
theorem ex_l {K : PySem.W.Frag} {H H' : Hp} {a : Addr} {xs : List V} (e : Ex H H') (h : SqL K H a xs) : SqL K H' a xs := by
  rcases h with h | h
  · exact Or.inl (ex_rd e h)
  · exact Or.inr h
theorem ex_t {K : PySem.W.Frag} {H H' : Hp} {a : Addr} {xs : List V} (e : Ex H H') (h : SqT K H a xs) : SqT K H' a xs := by
  rcases h with h | h
  · exact Or.inl (ex_rd e h)
  · exact Or.inr h
theorem TqT.mono {K : PySem.W.Frag} {H H' : Hp} {a : Addr} {xs : List V} (e : Ex H H') (h : TqT K H a xs) : TqT K H' a xs := by
  rcases h with h | h
  · exact Or.inl (e a _ h)
  · exact Or.inr h
theorem fresh_back {H H' : Hp} {p : Addr} (e : Ex H H') (h : H' p = none) : H p = none := by
  cases h1 : H p with
  | none => rfl
  | some o =>
    rw [e p o h1] at h
    cases h
mutual
theorem Rep.mono {K : PySem.W.Frag} {G G' : Hp} (e : Ex G G') : ∀ (d : D) {v : V}, Rep K G d v → Rep K G' d v
  | .non, _, h => by simpa only [Rep] using h
  | .bl _, _, h => by simpa only [Rep] using h
  | .int _, _, h => by simpa only [Rep] using h
  | .str _, _, h => by simpa only [Rep] using h
  | .ty _, _, h => by simpa only [Rep] using h
  | .adr _, _, h => by simpa only [Rep] using h
  | .tup ds, _, h => by
    simp only [Rep] at h ⊢
    obtain ⟨a, vs, h1, h2, h3⟩ := h
    exact ⟨a, vs, h1, h2.mono e, RepL.mono e ds h3⟩
  | .lst ds, _, h => by
    simp only [Rep] at h ⊢
    obtain ⟨a, vs, h1, h2, h3⟩ := h
    exact ⟨a, vs, h1, e _ _ h2, RepL.mono e ds h3⟩
  | .dK ks ds, _, h => by
    simp only [Rep] at h ⊢
    obtain ⟨a, vs, h1, h2, h4, h3⟩ := h
    exact ⟨a, vs, h1, e _ _ h2, h4, RepL.mono e ds h3⟩
  | .dT ks ds, _, h => by
    simp only [Rep] at h ⊢
    obtain ⟨a, vs, h1, h2, h4, h3⟩ := h
    exact ⟨a, vs, h1, e _ _ h2, h4, RepL.mono e ds h3⟩
  | .scr ns, _, h => by
    simp only [Rep] at h ⊢
    obtain ⟨a, h1, h2⟩ := h
    refine ⟨a, h1, ?_⟩
    rcases h2 with ⟨o, h2⟩ | h2
    · exact .inl ⟨o, e _ _ h2⟩
    · exact .inr h2
theorem RepL.mono {K : PySem.W.Frag} {G G' : Hp} (e : Ex G G') : ∀ (ds : List D) {vs : List V}, RepL K G ds vs → RepL K G' ds vs
  | [], _, h => by simpa only [RepL] using h
  | d :: ds, _, h => by
    simp only [RepL] at h ⊢
    obtain ⟨v, r, h1, h2, h3⟩ := h
    exact ⟨v, r, h1, Rep.mono e d h2, RepL.mono e ds h3⟩
end
/-- what never changes of H stands in G -/
def Still (H G : Hp) : Prop := (∀ a o u, H a = some (.frz o u) → G a = some (.frz o u)) ∧ ∀ a xs, H a = some (.tup xs) → G a = some (.tup xs)
mutual
theorem Rep.imm {K : PySem.W.Frag} {G G' : Hp} (e : Still G G') : ∀ (d : D) {v : V}, d.imm = true → Rep K G d v → Rep K G' d v
  | .non, _, _, h => by simpa only [Rep] using h
  | .bl _, _, _, h => by simpa only [Rep] using h
  | .int _, _, _, h => by simpa only [Rep] using h
  | .str _, _, _, h => by simpa only [Rep] using h
  | .ty _, _, _, h => by simpa only [Rep] using h
  | .adr _, _, _, h => by simpa only [Rep] using h
  | .tup ds, _, i, h => by
    simp only [Rep] at h ⊢
    simp only [D.imm] at i
    obtain ⟨a, vs, h1, h2, h3⟩ := h
    refine ⟨a, vs, h1, ?_, RepL.imm e ds i h3⟩
    rcases h2 with h2 | h2
    · exact .inl (e.2 _ _ h2)
    · exact .inr h2
  | .lst _, _, i, _ => by simp [D.imm] at i
  | .dK _ _, _, i, _ => by simp [D.imm] at i
  | .dT _ _, _, i, _ => by simp [D.imm] at i
  | .scr ns, _, _, h => by
    simp only [Rep] at h ⊢
    obtain ⟨a, h1, h2⟩ := h
    refine ⟨a, h1, ?_⟩
    rcases h2 with ⟨o, h2⟩ | h2
    · exact .inl ⟨o, e.1 _ _ _ h2⟩
    · exact .inr h2
theorem RepL.imm {K : PySem.W.Frag} {G G' : Hp} (e : Still G G') : ∀ (ds : List D) {vs : List V}, immL ds = true → RepL K G ds vs → RepL K G' ds vs
  | [], _, _, h => by simpa only [RepL] using h
  | d :: ds, _, i, h => by
    simp only [RepL] at h ⊢
    simp only [immL, Bool.and_eq_true] at i
    obtain ⟨v, r, h1, h2, h3⟩ := h
    exact ⟨v, r, h1, Rep.imm e d i.1 h2, RepL.imm e ds i.2 h3⟩
end
theorem RepL.len {K : PySem.W.Frag} {G : Hp} : ∀ {ds : List D} {vs : List V}, RepL K G ds vs → ds.length = vs.length
  | [], _, h => by simp only [RepL] at h; subst h; rfl
  | d :: ds, _, h => by
    simp only [RepL] at h
    obtain ⟨v, r, h1, _, h3⟩ := h
    subst h1
    simp [RepL.len h3]
theorem RepL.get {K : PySem.W.Frag} {G : Hp} : ∀ {ds : List D} {vs : List V} {i : Nat} {d : D}, RepL K G ds vs → ds[i]? = some d → ∃ v, vs[i]? = some v ∧ Rep K G d v
  | [], _, _, _, _, e => by simp at e
  | d :: ds, _, 0, _, h, e => by
    simp only [RepL] at h
    obtain ⟨v, r, h1, h2, _⟩ := h
    subst h1
    simp at e
    subst e
    exact ⟨v, rfl, h2⟩
  | d :: ds, _, i + 1, _, h, e => by
    simp only [RepL] at h
    obtain ⟨v, r, h1, _, h3⟩ := h
    subst h1
    obtain ⟨w, h4, h5⟩ := RepL.get (i := i) h3 (by simpa using e)
    exact ⟨w, by simpa using h4, h5⟩
theorem RepL.snoc {K : PySem.W.Frag} {G : Hp} {d : D} {v : V} (hd : Rep K G d v) : ∀ {ds : List D} {vs : List V}, RepL K G ds vs → RepL K G (ds ++ [d]) (vs ++ [v])
  | [], _, h => by
    simp only [RepL] at h
    subst h
    show RepL K G [d] [v]
    simp only [RepL]
    exact ⟨v, [], rfl, hd, rfl⟩
  | d' :: ds, _, h => by
    simp only [RepL] at h
    obtain ⟨w, r, h1, h2, h3⟩ := h
    subst h1
    show RepL K G (d' :: (ds ++ [d])) (w :: (r ++ [v]))
    simp only [RepL]
    exact ⟨w, r ++ [v], rfl, h2, RepL.snoc hd h3⟩
theorem RepL.append {K : PySem.W.Frag} {G : Hp} : ∀ {ds es : List D} {vs ws : List V}, RepL K G ds vs → RepL K G es ws → RepL K G (ds ++ es) (vs ++ ws)
  | [], _, _, _, h, h' => by
    simp only [RepL] at h
    subst h
    exact h'
  | d' :: ds, es, _, ws, h, h' => by
    simp only [RepL] at h
    obtain ⟨w, r, h1, h2, h3⟩ := h
    subst h1
    show RepL K G (d' :: (ds ++ es)) (w :: (r ++ ws))
    simp only [RepL]
    exact ⟨w, r ++ ws, rfl, h2, RepL.append h3 h'⟩
theorem repL_nil {K : PySem.W.Frag} {G : Hp} : RepL K G [] [] := by simp only [RepL]
theorem repL_cons {K : PySem.W.Frag} {G : Hp} {d : D} {ds : List D} {v : V} {vs : List V} (h : Rep K G d v) (hs : RepL K G ds vs) : RepL K G (d :: ds) (v :: vs) := by
  simp only [RepL]
  exact ⟨v, vs, rfl, h, hs⟩
theorem repL_cons_inv {K : PySem.W.Frag} {G : Hp} {d : D} {ds : List D} {vs : List V} (h : RepL K G (d :: ds) vs) : ∃ v r, vs = v :: r ∧ Rep K G d v ∧ RepL K G ds r := by
  simpa only [RepL] using h
theorem repL_nil_inv {K : PySem.W.Frag} {G : Hp} {vs : List V} (h : RepL K G [] vs) : vs = [] := by simpa only [RepL] using h
theorem RepL.drop {K : PySem.W.Frag} {G : Hp} : ∀ (n : Nat) {ds : List D} {vs : List V}, RepL K G ds vs → RepL K G (ds.drop n) (vs.drop n)
  | 0, _, _, h => h
  | n + 1, [], _, h => by rw [repL_nil_inv h]; exact repL_nil
  | n + 1, d :: ds, _, h => by
    obtain ⟨v, r, rfl, _, h3⟩ := repL_cons_inv h
    exact RepL.drop n h3
theorem RepL.take {K : PySem.W.Frag} {G : Hp} : ∀ (n : Nat) {ds : List D} {vs : List V}, RepL K G ds vs → RepL K G (ds.take n) (vs.take n)
  | 0, _, _, _ => repL_nil
  | n + 1, [], _, h => by rw [repL_nil_inv h]; exact repL_nil
  | n + 1, d :: ds, _, h => by
    obtain ⟨v, r, rfl, h2, h3⟩ := repL_cons_inv h
    exact repL_cons h2 (RepL.take n h3)
theorem RepL.set {K : PySem.W.Frag} {G : Hp} {d : D} {v : V} (hd : Rep K G d v) : ∀ (n : Nat) {ds : List D} {vs : List V}, RepL K G ds vs → RepL K G (ds.set n d) (vs.set n v)
  | _, [], _, h => by rw [repL_nil_inv h]; simp only [List.set_nil]; exact repL_nil
  | 0, d' :: ds, _, h => by
    obtain ⟨w, r, rfl, h2, h3⟩ := repL_cons_inv h
    exact repL_cons hd h3
  | n + 1, d' :: ds, _, h => by
    obtain ⟨w, r, rfl, h2, h3⟩ := repL_cons_inv h
    exact repL_cons h2 (RepL.set hd n h3)
theorem RepL.erase {K : PySem.W.Frag} {G : Hp} : ∀ (n : Nat) {ds : List D} {vs : List V}, RepL K G ds vs → RepL K G (ds.eraseIdx n) (vs.eraseIdx n)
  | _, [], _, h => by rw [repL_nil_inv h]; simp only [List.eraseIdx_nil]; exact repL_nil
  | 0, d' :: ds, _, h => by
    obtain ⟨w, r, rfl, h2, h3⟩ := repL_cons_inv h
    exact h3
  | n + 1, d' :: ds, _, h => by
    obtain ⟨w, r, rfl, h2, h3⟩ := repL_cons_inv h
    exact repL_cons h2 (RepL.erase n h3)
theorem RepL.reverse {K : PySem.W.Frag} {G : Hp} : ∀ {ds : List D} {vs : List V}, RepL K G ds vs → RepL K G ds.reverse vs.reverse
  | [], _, h => by rw [repL_nil_inv h]; exact repL_nil
  | d' :: ds, _, h => by
    obtain ⟨w, r, rfl, h2, h3⟩ := repL_cons_inv h
    rw [List.reverse_cons, List.reverse_cons]
    exact RepL.snoc h2 (RepL.reverse h3)
theorem repL_of {K : PySem.W.Frag} {G : Hp} : ∀ {ds : List D} {vs : List V}, ds.length = vs.length → (∀ (i : Nat) d v, ds[i]? = some d → vs[i]? = some v → Rep K G d v) → RepL K G ds vs
  | [], [], _, _ => repL_nil
  | d :: ds, v :: vs, hl, h => repL_cons (h 0 d v rfl rfl) (repL_of (by simpa using hl) fun i d' v' e1 e2 => h (i + 1) d' v' (by simpa using e1) (by simpa using e2))
  | [], _ :: _, hl, _ => by simp at hl
  | _ :: _, [], hl, _ => by simp at hl
theorem Obj1.mono {K : PySem.W.Frag} {G G' H H' : Hp} {a : Addr} {d : D} (e : Ex G G') (e' : ∀ o, H a = some o → H' a = some o) (h : Obj1 K G H a d) : Obj1 K G' H' a d := by
  cases d with
  | lst ds => obtain ⟨vs, h1, h2⟩ := h; exact ⟨vs, e' _ h1, RepL.mono e ds h2⟩
  | dK ks ds => obtain ⟨vs, h1, h3, h2⟩ := h; exact ⟨vs, e' _ h1, h3, RepL.mono e ds h2⟩
  | dT ks ds => obtain ⟨vs, h1, h3, h2⟩ := h; exact ⟨vs, e' _ h1, h3, RepL.mono e ds h2⟩
  | _ => exact h.elim
theorem Obj1.rep {K : PySem.W.Frag} {G H : Hp} {a : Addr} {d : D} (e : Ex G H) (h : Obj1 K G H a d) : Rep K H d (.ref a) := by
  cases d with
  | lst ds => obtain ⟨vs, h1, h2⟩ := h; simp only [Rep]; exact ⟨a, vs, rfl, h1, RepL.mono e ds h2⟩
  | dK ks ds => obtain ⟨vs, h1, h3, h2⟩ := h; simp only [Rep]; exact ⟨a, vs, rfl, h1, h3, RepL.mono e ds h2⟩
  | dT ks ds => obtain ⟨vs, h1, h3, h2⟩ := h; simp only [Rep]; exact ⟨a, vs, rfl, h1, h3, RepL.mono e ds h2⟩
  | _ => exact h.elim
theorem Obj1.some {K : PySem.W.Frag} {G H : Hp} {a : Addr} {d : D} (h : Obj1 K G H a d) : ∃ o, H a = .some o ∧ (∀ xs, o ≠ .tup xs) ∧ ∀ ob u, o ≠ .frz ob u := by
  cases d with
  | lst ds => obtain ⟨vs, h1, _⟩ := h; exact ⟨_, h1, fun _ z => (nomatch z), fun _ _ z => (nomatch z)⟩
  | dK ks ds => obtain ⟨vs, h1, _⟩ := h; exact ⟨_, h1, fun _ z => (nomatch z), fun _ _ z => (nomatch z)⟩
  | dT ks ds => obtain ⟨vs, h1, _⟩ := h; exact ⟨_, h1, fun _ z => (nomatch z), fun _ _ z => (nomatch z)⟩
  | _ => exact h.elim

/-! ### sizes -/
def Good (H : Hp) : Prop := ∀ a xs, (H a = some (.lst xs) ∨ H a = some (.tup xs)) → xs.length ≤ sizeLine
theorem Good.l {H : Hp} (g : Good H) {a : Addr} {xs : List V} (h : H a = some (.lst xs)) : xs.length ≤ sizeLine := g a xs (.inl h)
theorem Good.t {K : PySem.W.Frag} {H : Hp} (g : Good H) {a : Addr} {xs : List V} (h : TqT K H a xs) : xs.length ≤ sizeLine := by
  rcases h with h | ⟨o, its, n, _, _, _, h1, h2⟩
  · exact g a xs (.inr h)
  · rw [h2.length]
    simpa using h1
theorem Good.put {H : Hp} (g : Good H) {a : Addr} {o : HO} (h1 : ∀ xs, o = .lst xs → xs.length ≤ sizeLine) (h2 : ∀ xs, o = .tup xs → xs.length ≤ sizeLine) : Good (upd H a o) := fun b ys r => by
  by_cases e : b = a
  · subst e
    rcases r with r | r
    · rw [upd_same] at r; exact h1 _ (Option.some.inj r)
    · rw [upd_same] at r; exact h2 _ (Option.some.inj r)
  · refine g b ys ?_
    rcases r with r | r
    · rw [upd_ne e] at r; exact .inl r
    · rw [upd_ne e] at r; exact .inr r
theorem Good.lst {H : Hp} (g : Good H) {a : Addr} {xs : List V} (h : xs.length ≤ sizeLine) : Good (upd H a (.lst xs)) := g.put (fun _ e => by cases e; exact h) fun _ e => by cases e
theorem Good.tup {H : Hp} (g : Good H) {a : Addr} {xs : List V} (h : xs.length ≤ sizeLine) : Good (upd H a (.tup xs)) := g.put (fun _ e => by cases e) fun _ e => by cases e; exact h
theorem Good.oth {H : Hp} (g : Good H) {a : Addr} {o : HO} (h1 : ∀ xs, o ≠ .lst xs) (h2 : ∀ xs, o ≠ .tup xs) : Good (upd H a o) := g.put (fun xs e => absurd e (h1 xs)) fun xs e => absurd e (h2 xs)

/-! ### the part of the heap that is shared: without the things that one slot alone holds -/
open Classical in
noncomputable def msk (om : Nat → Option Addr) (H : Hp) : Hp := fun a => if ∃ i, om i = some a then none else H a
def dl (H : Hp) (a : Addr) : Hp := fun b => if b = a then none else H b
theorem mk_le {om : Nat → Option Addr} {H : Hp} : Ex (msk om H) H := fun a o h => by
  unfold msk at h
  split at h
  · cases h
  · exact h
theorem mk_not {om : Nat → Option Addr} {H : Hp} {a : Addr} {o : HO} (h : msk om H a = some o) : ∀ i, om i ≠ some a := fun i e => by
  unfold msk at h
  rw [if_pos ⟨i, e⟩] at h
  cases h
theorem mk_at {om : Nat → Option Addr} {H : Hp} {a : Addr} (h : ∀ i, om i ≠ some a) : msk om H a = H a := by
  unfold msk
  rw [if_neg]
  rintro ⟨i, e⟩
  exact h i e
theorem mk_own {om : Nat → Option Addr} {H : Hp} {a : Addr} {i : Nat} (h : om i = some a) : msk om H a = none := by
  unfold msk
  rw [if_pos ⟨i, h⟩]
theorem mk_ex {om : Nat → Option Addr} {H H' : Hp} (e : Ex H H') : Ex (msk om H) (msk om H') := fun a o h => by
  rw [mk_at (mk_not h)]
  exact e a o (mk_le a o h)
/-- fewer things are held alone, the heap has grown -/
theorem mk_ex2 {om om' : Nat → Option Addr} {H H' : Hp} (e : Ex (msk om H) H') (h : ∀ a o, msk om H a = some o → ∀ i, om' i ≠ some a) : Ex (msk om H) (msk om' H') := fun a o q => by
  rw [mk_at (h a o q)]
  exact e a o q
theorem dl_le {H : Hp} {a : Addr} : Ex (dl H a) H := fun b o h => by
  unfold dl at h
  split at h
  · cases h
  · exact h
theorem dl_ex {H H' : Hp} {a : Addr} (e : Ex H H') : Ex (dl H a) (dl H' a) := fun b o h => by
  unfold dl at h ⊢
  split at h
  · cases h
  · rename_i hn
    rw [if_neg hn]
    exact e b o h
theorem dl_new {H H' : Hp} {a : Addr} (e : Ex H H') (hn : H a = none) : Ex H (dl H' a) := fun b o h => by
  unfold dl
  rw [if_neg (ne_of_none h hn)]
  exact e b o h
end VL

namespace VL
open PySem PySem.Spec PyProof.Rows L2

/-- an exception of an own class -/
structure Exn where
  cls : Str
  fs : List (Str × D)
/-- how a result is held: shared; by one slot alone (borrowed); by nobody yet -/
inductive Rt where
  | shr | bor | fre
  deriving DecidableEq
inductive RE where
  | ok (r : Rt) (d : D) | exc (e : Exn) | bad
inductive RL where
  | ok (rs : List (Rt × D)) | exc (e : Exn) | bad
inductive Slot where
  | no | sh (d : D) | ow (d : D)
abbrev Env := List Slot
inductive FR where
  | ok (c : Bool) (d : D) | exc (e : Exn) | bad
inductive Out where
  | nx (Γ : Env) | ret (c : Bool) (d : D) | brk (Γ : Env) | cnt (Γ : Env) | exc (Γ : Env) (e : Exn) | bad

def SlotOk (K : PySem.W.Frag) (H0 : Hp) (om : Nat → Option Addr) (H : Hp) : Option Slot → Option (Option V) → Option Addr → Prop
  | some (.sh d), s, _ => ∃ v, s = some (some v) ∧ Rep K (msk om H) d v
  | some (.ow d), s, o => ∃ a, o = some a ∧ s = some (some (.ref a)) ∧ H0 a = none ∧ Obj1 K (msk om H) H a d
  | _, _, _ => True
/-- a state of a def's body: Γ says what the slots hold; om which things one slot alone holds; H0, om0: those at the entry -/
structure Sta (K : PySem.W.Frag) (H0 : Hp) (om0 : Nat → Option Addr) (Γ : Env) (σ : L2.St) (H : Hp) (om : Nat → Option Addr) : Prop where
  len : σ.length = Γ.length
  good : Good H
  base : Ex H0 H
  inj : ∀ i j a, om i = some a → om j = some a → i = j
  dom : ∀ i a, om i = some a → ∃ o, H a = some o ∧ (∀ xs, o ≠ .tup xs) ∧ ∀ ob u, o ≠ .frz ob u
  hid : ∀ i a, om0 i = some a → om (Γ.length + i) = some a
  bnd : ∃ n, Γ.length ≤ n ∧ ∀ i, n ≤ i → om i = none
  slot : ∀ i, SlotOk K H0 om H (Γ[i]?) (σ[i]?) (om i)
section
variable {K : PySem.W.Frag} {H0 : Hp} {om0 om om' : Nat → Option Addr} {Γ Γ' : Env} {σ σ' : L2.St} {H H' H1 H2 : Hp} {d : D} {v : V} {r : Rt}
theorem SlotOk.step {s : Option Slot} {x : Option (Option V)} {o : Option Addr} (h : SlotOk K H0 om H s x o) (e : Ex H H') : SlotOk K H0 om H' s x o := by
  cases s with
  | none => trivial
  | some s =>
    cases s with
    | no => trivial
    | sh d =>
      obtain ⟨v, h1, h2⟩ := h
      exact ⟨v, h1, Rep.mono (mk_ex e) d h2⟩
    | ow d =>
      obtain ⟨a, h1, h2, h3, h4⟩ := h
      exact ⟨a, h1, h2, h3, h4.mono (mk_ex e) (fun o => e a o)⟩
theorem Sta.step (S : Sta K H0 om0 Γ σ H om) (e : Ex H H') (g : Good H') : Sta K H0 om0 Γ σ H' om :=
  ⟨S.len, g, S.base.trans e, S.inj, fun i a h => let ⟨o, h1, h2⟩ := S.dom i a h; ⟨o, e a o h1, h2⟩, S.hid, S.bnd, fun i => (S.slot i).step e⟩
theorem Sta.sh (S : Sta K H0 om0 Γ σ H om) {i : Nat} (h : Γ[i]? = some (.sh d)) : ∃ v, σ[i]? = some (some v) ∧ Rep K (msk om H) d v := by
  have := S.slot i
  rw [h] at this
  exact this
theorem Sta.ow (S : Sta K H0 om0 Γ σ H om) {i : Nat} (h : Γ[i]? = some (.ow d)) : ∃ a, om i = some a ∧ σ[i]? = some (some (.ref a)) ∧ H0 a = none ∧ Obj1 K (msk om H) H a d := by
  have := S.slot i
  rw [h] at this
  exact this
theorem Sta.still (S : Sta K H0 om0 Γ σ H om) : Still H (msk om H) := by
  refine ⟨fun a o u h => ?_, fun a xs h => ?_⟩
  · rw [mk_at fun i e => ?_]
    · exact h
    · obtain ⟨o', h1, _, h3⟩ := S.dom i a e
      rw [h] at h1
      exact h3 _ _ (Option.some.inj h1).symm
  · rw [mk_at fun i e => ?_]
    · exact h
    · obtain ⟨o', h1, h2, _⟩ := S.dom i a e
      rw [h] at h1
      exact h2 _ (Option.some.inj h1).symm
theorem Sta.fresh (S : Sta K H0 om0 Γ σ H om) {a : Addr} (h : H a = none) : ∀ i, om i ≠ some a := fun i e => by
  obtain ⟨o, h1, _⟩ := S.dom i a e
  rw [h] at h1
  cases h1
/-- the shared part at the entry's mask -/
theorem Sta.le0 (S : Sta K H0 om0 Γ σ H om) : Ex (msk om H) (msk om0 H) := fun a o h => by
  rw [mk_at fun i e => mk_not h _ (S.hid i a e)]
  exact mk_le a o h

/-- a result of an expression evaluated from H, in H' -/
def RVk (K : PySem.W.Frag) (H0 : Hp) (om : Nat → Option Addr) (H : Hp) (d : D) (v : V) (H' : Hp) : Rt → Prop
  | .shr => Rep K (msk om H') d v
  | .bor => ∃ a i, v = .ref a ∧ om i = some a ∧ H0 a = none ∧ Obj1 K (msk om H') H' a d
  | .fre => ∃ a, v = .ref a ∧ H a = none ∧ Obj1 K (msk om (dl H' a)) H' a d
structure RV (K : PySem.W.Frag) (H0 : Hp) (om : Nat → Option Addr) (H : Hp) (r : Rt) (d : D) (v : V) (H' : Hp) : Prop where
  good : Good H'
  ex : Ex H H'
  val : RVk K H0 om H d v H' r
/-- readable: shared, or held by one alone -/
def Opd (K : PySem.W.Frag) (om : Nat → Option Addr) (H : Hp) (d : D) (v : V) : Prop := Rep K (msk om H) d v ∨ ∃ a, v = .ref a ∧ Obj1 K (msk om H) H a d
theorem Opd.step (h : Opd K om H d v) (e : Ex H H') : Opd K om H' d v := by
  rcases h with h | ⟨a, h1, h2⟩
  · exact .inl (Rep.mono (mk_ex e) d h)
  · exact .inr ⟨a, h1, h2.mono (mk_ex e) fun o => e a o⟩
theorem RV.opd (h : RV K H0 om H r d v H') : Opd K om H' d v := by
  obtain ⟨g, e, h⟩ := h
  cases r with
  | shr => exact .inl h
  | bor => obtain ⟨a, i, h1, _, _, h2⟩ := h; exact .inr ⟨a, h1, h2⟩
  | fre => obtain ⟨a, h1, _, h2⟩ := h; exact .inr ⟨a, h1, h2.mono (mk_ex dl_le) fun _ z => z⟩
theorem Opd.rep (h : Opd K om H d v) : Rep K H d v := by
  rcases h with h | ⟨a, rfl, h⟩
  · exact Rep.mono mk_le d h
  · exact h.rep mk_le
/-- shared from now on -/
theorem RV.shr (S : Sta K H0 om0 Γ σ H om) (h : RV K H0 om H r d v H') (hr : r ≠ .bor) : Rep K (msk om H') d v := by
  obtain ⟨g, e, h⟩ := h
  cases r with
  | shr => exact h
  | bor => exact absurd rfl hr
  | fre =>
    obtain ⟨a, h1, hn, h2⟩ := h
    subst h1
    have e1 : Ex (msk om (dl H' a)) (msk om H') := mk_ex dl_le
    have ha : ∀ o, H' a = some o → msk om H' a = some o := fun o q => by
      rw [mk_at (S.fresh hn)]
      exact q
    cases d with
    | lst ds => obtain ⟨vs, q1, q2⟩ := h2; simp only [Rep]; exact ⟨a, vs, rfl, ha _ q1, RepL.mono e1 ds q2⟩
    | dK ks ds => obtain ⟨vs, q1, q3, q2⟩ := h2; simp only [Rep]; exact ⟨a, vs, rfl, ha _ q1, q3, RepL.mono e1 ds q2⟩
    | dT ks ds => obtain ⟨vs, q1, q3, q2⟩ := h2; simp only [Rep]; exact ⟨a, vs, rfl, ha _ q1, q3, RepL.mono e1 ds q2⟩
    | _ => exact h2.elim
theorem RV.back (h : RV K H0 om H1 r d v H2) (e : Ex H H1) : RV K H0 om H r d v H2 := by
  obtain ⟨g, e2, h⟩ := h
  refine ⟨g, e.trans e2, ?_⟩
  cases r with
  | shr => exact h
  | bor => exact h
  | fre => obtain ⟨a, h1, hn, h2⟩ := h; exact ⟨a, h1, fresh_back e hn, h2⟩
theorem RV.of_shr (g : Good H') (e : Ex H H') (h : Rep K (msk om H') d v) : RV K H0 om H .shr d v H' := ⟨g, e, h⟩

/-! ### exceptions -/
def ExcAt (K : PySem.W.Frag) (H : Hp) (e : Exn) (dd : Option Addr) : Prop := e.fs = [] ∨ ∃ a ws, dd = some a ∧ H a = some (.xd ws) ∧ ws.map (·.1) = e.fs.map (·.1) ∧ RepL K H (e.fs.map (·.2)) (ws.map (·.2))
def clsOf (K : PySem.W.Frag) (e : Exn) : Value := .ref (He.ga K e.cls)

/-! ### what a reading does -/
def PostE (K : PySem.W.Frag) (W : WX) (H0 : Hp) (om : Nat → Option Addr) (σ : L2.St) (H : Hp) (Q : VK) : RE → Prop
  | .ok r d => ∀ v H', RV K H0 om H r d v H' → Q v H'
  | .exc e => ∀ H' dd, Good H' → Ex H H' → ExcAt K H' e dd → W (clsOf K e) dd σ H'
  | .bad => False
def SimE (K : PySem.W.Frag) (W : WX) (t : TE) (f : Env → RE) : Prop := ∀ H0 om0 Γ σ H om Q, Sta K H0 om0 Γ σ H om → PostE K W H0 om σ H Q (f Γ) → t σ H Q
def PostT (K : PySem.W.Frag) (W : WX) (σ : L2.St) (H : Hp) (Q : Bool → Hp → Prop) : RE → Prop
  | .ok _ (.bl b) => ∀ H', Good H' → Ex H H' → Q b H'
  | .exc e => ∀ H' dd, Good H' → Ex H H' → ExcAt K H' e dd → W (clsOf K e) dd σ H'
  | _ => False
def SimT (K : PySem.W.Frag) (W : WX) (t : TT) (f : Env → RE) : Prop := ∀ H0 om0 Γ σ H om Q, Sta K H0 om0 Γ σ H om → PostT K W σ H Q (f Γ) → t σ H Q
/-- results of several expressions in a row: readable; those that are not borrowed shared -/
inductive OpdL (K : PySem.W.Frag) (om : Nat → Option Addr) (H : Hp) : List (Rt × D) → List V → Prop
  | nil : OpdL K om H [] []
  | cons {r d rs v vs} : Opd K om H d v → (r ≠ .bor → Rep K (msk om H) d v) → OpdL K om H rs vs → OpdL K om H ((r, d) :: rs) (v :: vs)
theorem OpdL.step {rs : List (Rt × D)} {vs : List V} (h : OpdL K om H rs vs) (e : Ex H H') : OpdL K om H' rs vs := by
  induction h with
  | nil => exact .nil
  | cons h1 h2 _ ih => exact .cons (h1.step e) (fun q => Rep.mono (mk_ex e) _ (h2 q)) ih
theorem OpdL.len {rs : List (Rt × D)} {vs : List V} (h : OpdL K om H rs vs) : rs.length = vs.length := by
  induction h with
  | nil => rfl
  | cons _ _ _ ih => simp [ih]
def PostA (K : PySem.W.Frag) (W : WX) (om : Nat → Option Addr) (σ : L2.St) (H : Hp) (Q : List V → Hp → Prop) : RL → Prop
  | .ok rs => ∀ vs H', Good H' → Ex H H' → OpdL K om H' rs vs → Q vs H'
  | .exc e => ∀ H' dd, Good H' → Ex H H' → ExcAt K H' e dd → W (clsOf K e) dd σ H'
  | .bad => False
def SimA (K : PySem.W.Frag) (W : WX) (t : TA) (f : Env → RL) : Prop := ∀ H0 om0 Γ σ H om Q, Sta K H0 om0 Γ σ H om → PostA K W om σ H Q (f Γ) → t σ H Q

/-- what a call gives back: from the heap H, mask om0 -/
def kidsImm : D → Bool
  | .lst ds => immL ds
  | .dK _ ds => immL ds
  | .dT _ ds => immL ds
  | _ => false
def Ret (K : PySem.W.Frag) (om0 : Nat → Option Addr) (H : Hp) (c : Bool) (d : D) (v : V) (H' : Hp) : Prop :=
  if c = true then ∃ a, v = .ref a ∧ H a = none ∧ Obj1 K (msk om0 (dl H' a)) H' a d else Rep K (msk om0 H') d v
def Fw (K : PySem.W.Frag) (H0 : Hp) (om0 om : Nat → Option Addr) (H : Hp) (Γ' : Env) (σ' : L2.St) (H' : Hp) : Prop := ∃ om', Sta K H0 om0 Γ' σ' H' om' ∧ Ex (msk om H) (msk om' H')
def PostS (K : PySem.W.Frag) (W : WX) (H0 : Hp) (om0 om : Nat → Option Addr) (H : Hp) (D : Ends) : Out → Prop
  | .nx Γ' => ∀ σ' H', Fw K H0 om0 om H Γ' σ' H' → D.nx σ' H'
  | .brk Γ' => ∀ σ' H', Fw K H0 om0 om H Γ' σ' H' → D.bk σ' H'
  | .cnt Γ' => ∀ σ' H', Fw K H0 om0 om H Γ' σ' H' → D.ct σ' H'
  | .ret c d => ∀ v H', Good H' → Ex H0 H' → Ret K om0 H0 c d v H' → D.rt v H'
  | .exc Γ' e => ∀ σ' H' dd, Fw K H0 om0 om H Γ' σ' H' → ExcAt K H' e dd → W (clsOf K e) dd σ' H'
  | .bad => False
def SimS (K : PySem.W.Frag) (W : WX) (t : TS) (f : Env → Out) : Prop := ∀ H0 om0 Γ σ H om D, Sta K H0 om0 Γ σ H om → PostS K W H0 om0 om H D (f Γ) → t D σ H

/-! ### sequencing -/
def bindE : RE → (Rt → D → RE) → RE
  | .ok r d, k => k r d
  | .exc e, _ => .exc e
  | .bad, _ => .bad
@[simp] theorem bindE_ok (r : Rt) (d : D) (k : Rt → D → RE) : bindE (.ok r d) k = k r d := rfl
@[simp] theorem bindE_exc (e : Exn) (k : Rt → D → RE) : bindE (.exc e) k = .exc e := rfl
@[simp] theorem bindE_bad (k : Rt → D → RE) : bindE .bad k = .bad := rfl
theorem SimE.bind {W : WX} {t : TE} {f : Env → RE} {k : Rt → D → RE} {Q Q' : VK} (h : SimE K W t f) (S : Sta K H0 om0 Γ σ H om) (p : PostE K W H0 om σ H Q' (bindE (f Γ) k))
    (q : ∀ r d v H1, f Γ = .ok r d → RV K H0 om H r d v H1 → Sta K H0 om0 Γ σ H1 om → PostE K W H0 om σ H Q' (k r d) → Q v H1) : t σ H Q := by
  refine h H0 om0 Γ σ H om Q S ?_
  cases e : f Γ with
  | ok r d =>
    rw [e] at p
    exact fun v H1 R => q r d v H1 e R (S.step R.ex R.good) p
  | exc x =>
    rw [e] at p
    exact p
  | bad =>
    rw [e] at p
    exact p
theorem PostE.back {W : WX} {Q : VK} {x : RE} (h : PostE K W H0 om σ H Q x) (e : Ex H H1) : PostE K W H0 om σ H1 Q x := by
  cases x with
  | ok r d => exact fun v H' R => h v H' (R.back e)
  | exc x => exact fun H' dd g e' a => h H' dd g (e.trans e') a
  | bad => exact h
theorem PostT.back {W : WX} {Q : Bool → Hp → Prop} {x : RE} (h : PostT K W σ H Q x) (e : Ex H H1) : PostT K W σ H1 Q x := by
  cases x with
  | ok r d =>
    cases d with
    | bl b => exact fun H' g e' => h H' g (e.trans e')
    | _ => exact h
  | exc x => exact fun H' dd g e' a => h H' dd g (e.trans e') a
  | bad => exact h
theorem PostA.back {W : WX} {Q : List V → Hp → Prop} {x : RL} (h : PostA K W om σ H Q x) (e : Ex H H1) : PostA K W om σ H1 Q x := by
  cases x with
  | ok rs => exact fun vs H' g e' o => h vs H' g (e.trans e') o
  | exc x => exact fun H' dd g e' a => h H' dd g (e.trans e') a
  | bad => exact h
end

/-! ### names and constants -/
def varD (i : Nat) : Env → RE := fun Γ => match Γ[i]? with
  | some (.sh d) => .ok .shr d
  | some (.ow d) => .ok .bor d
  | _ => .bad
def cD (d : D) : Env → RE := fun _ => .ok .shr d
section
variable {K : PySem.W.Frag} {W : WX}
theorem se_var {i : Nat} : SimE K W (tVar i) (varD i) := fun H0 om0 Γ σ H om Q S p => by
  unfold varD at p
  cases e : Γ[i]? with
  | none => rw [e] at p; exact p.elim
  | some s =>
    rw [e] at p
    cases s with
    | no => exact p.elim
    | sh d =>
      obtain ⟨v, h1, h2⟩ := S.sh e
      exact ⟨v, h1, p v H ⟨S.good, Ex.refl H, h2⟩⟩
    | ow d =>
      obtain ⟨a, h1, h2, h3, h4⟩ := S.ow e
      exact ⟨.ref a, h2, p _ H ⟨S.good, Ex.refl H, a, i, rfl, h1, h3, h4⟩⟩
theorem se_c {d : D} {v : V} (h : ∀ G : Hp, Rep K G d v) : SimE K W (tC v) (cD d) := fun H0 om0 Γ σ H om Q S p => p v H ⟨S.good, Ex.refl H, h _⟩
theorem se_int {i : Int} : SimE K W (tC (.int i)) (cD (.int i)) := se_c fun _ => by simp only [Rep]
theorem se_str {x : Str} : SimE K W (tC (.str x)) (cD (.str x)) := se_c fun _ => by simp only [Rep]
theorem se_bl {b : Bool} : SimE K W (tC (.bl b)) (cD (.bl b)) := se_c fun _ => by simp only [Rep]
theorem se_non : SimE K W (tC .non) (cD .non) := se_c fun _ => by simp only [Rep]
theorem se_ty {n : String} : SimE K W (tC (.ty n)) (cD (.ty n)) := se_c fun _ => by simp only [Rep]

/-! ### operations on two values -/
/-- r does on values what g does on data -/
def OpSim (K : PySem.W.Frag) (r : R2) (g : D → D → RE) : Prop := ∀ H0 om0 Γ σ H om a b va vb Q, Sta K H0 om0 Γ σ H om → Opd K om H a va → Opd K om H b vb →
  (match g a b with | .ok s d => ∀ v H', RV K H0 om H s d v H' → Q v H' | _ => False) → r va vb H Q
def op2D (g : D → D → RE) (f1 f2 : Env → RE) : Env → RE := fun Γ => bindE (f1 Γ) fun _ a => bindE (f2 Γ) fun _ b => match g a b with | .ok s d => .ok s d | _ => .bad
theorem se_op {r : R2} {g : D → D → RE} {ta tb : TE} {f1 f2 : Env → RE} (hr : OpSim K r g) (h1 : SimE K W ta f1) (h2 : SimE K W tb f2) : SimE K W (tOp r ta tb) (op2D g f1 f2) := fun H0 om0 Γ σ H om Q S p => by
  refine h1.bind S p fun _ a va H1 _ R1 S1 p1 => ?_
  refine h2.bind S1 (p1.back R1.ex) fun _ b vb H2 _ R2 S2 p2 => ?_
  refine hr H0 om0 Γ σ H2 om a b va vb Q S2 (R1.opd.step R2.ex) R2.opd ?_
  cases e : g a b with
  | ok s d =>
    rw [e] at p2
    exact fun v H' R => p2 v H' (R.back R2.ex)
  | exc x => rw [e] at p2; exact p2
  | bad => rw [e] at p2; exact p2
def UnSim (K : PySem.W.Frag) (r : V → Hp → VK → Prop) (g : D → RE) : Prop := ∀ H0 om0 Γ σ H om a va Q, Sta K H0 om0 Γ σ H om → Opd K om H a va →
  (match g a with | .ok s d => ∀ v H', RV K H0 om H s d v H' → Q v H' | _ => False) → r va H Q
def op1D (g : D → RE) (f1 : Env → RE) : Env → RE := fun Γ => bindE (f1 Γ) fun _ a => match g a with | .ok s d => .ok s d | _ => .bad
theorem se_un {r : V → Hp → VK → Prop} {g : D → RE} {ta : TE} {f1 : Env → RE} (hr : UnSim K r g) (h1 : SimE K W ta f1) : SimE K W (tUn r ta) (op1D g f1) := fun H0 om0 Γ σ H om Q S p => by
  refine h1.bind S p fun _ a va H1 _ R1 S1 p1 => ?_
  refine hr H0 om0 Γ σ H1 om a va Q S1 R1.opd ?_
  cases e : g a with
  | ok s d =>
    rw [e] at p1
    exact fun v H' R => p1 v H' (R.back R1.ex)
  | exc x => rw [e] at p1; exact p1
  | bad => rw [e] at p1; exact p1
end

/-! ### tests -/
section
variable {K : PySem.W.Frag} {W : WX} {t u : TT} {te ta tb : TE} {f g h : Env → RE}
def testD (f : Env → RE) : Env → RE := fun Γ => bindE (f Γ) fun r d => match d with | .bl b => .ok .shr (.bl b) | _ => .bad
theorem st_of {Q : Bool → Hp → Prop} {σ : L2.St} {H : Hp} (h1 : SimE K W te f) {H0 om0 Γ om} (S : Sta K H0 om0 Γ σ H om) (p : PostT K W σ H Q (f Γ)) : te σ H (fun x H' => ∃ k, x = .bl k ∧ Q k H') := by
  refine h1 H0 om0 Γ σ H om _ S ?_
  cases e : f Γ with
  | ok r d =>
    rw [e] at p
    cases d with
    | bl b =>
      intro v H' R
      have := R.opd.rep
      simp only [Rep] at this
      exact ⟨b, this, p H' R.good R.ex⟩
    | _ => exact p.elim
  | exc x => rw [e] at p; exact p
  | bad => rw [e] at p; exact p
theorem st_test (h1 : SimE K W te f) : SimT K W (tTest te) f := fun H0 om0 Γ σ H om Q S p => st_of h1 S p
theorem st_B (h1 : SimE K W te f) : SimT K W (tB te) f := fun H0 om0 Γ σ H om Q S p => st_of h1 S p
def andD (f g : Env → RE) : Env → RE := fun Γ => bindE (f Γ) fun r d => match d with | .bl true => g Γ | .bl false => .ok .shr (.bl false) | _ => .bad
def orD (f g : Env → RE) : Env → RE := fun Γ => bindE (f Γ) fun r d => match d with | .bl false => g Γ | .bl true => .ok .shr (.bl true) | _ => .bad
def notD (f : Env → RE) : Env → RE := fun Γ => bindE (f Γ) fun r d => match d with | .bl b => .ok .shr (.bl (!b)) | _ => .bad
def ifD (c f g : Env → RE) : Env → RE := fun Γ => bindE (c Γ) fun r d => match d with | .bl true => f Γ | .bl false => g Γ | _ => .bad
theorem SimT.bind {σ : L2.St} {H : Hp} {Q : Bool → Hp → Prop} {k : Rt → D → RE} {H0 om0 Γ om} (h1 : SimT K W t f) (S : Sta K H0 om0 Γ σ H om)
    (hx : ∀ e, f Γ = .exc e → ∀ H' dd, Good H' → Ex H H' → ExcAt K H' e dd → W (clsOf K e) dd σ H') (hb : f Γ ≠ .bad) (hn : ∀ r d, f Γ = .ok r d → ∃ b, d = .bl b)
    (q : ∀ r b H1, f Γ = .ok r (.bl b) → Good H1 → Ex H H1 → Sta K H0 om0 Γ σ H1 om → Q b H1) : t σ H Q := by
  refine h1 H0 om0 Γ σ H om Q S ?_
  cases e : f Γ with
  | ok r d =>
    obtain ⟨b, rfl⟩ := hn r d e
    exact fun H' g e' => q r b H' e g e' (S.step e' g)
  | exc x => exact hx x e
  | bad => exact absurd e hb
theorem st_and (h1 : SimT K W t f) (h2 : SimT K W u g) : SimT K W (tAnd t u) (andD f g) := fun H0 om0 Γ σ H om Q S p => by
  unfold andD at p
  refine SimT.bind (t := t) (k := fun r d => .bad) h1 S (fun e he => ?_) (fun he => ?_) (fun r d he => ?_) fun r b H1 he g1 e1 S1 => ?_
  · rw [he] at p; exact p
  · rw [he] at p; exact p
  · rw [he] at p
    cases d with
    | bl b => exact ⟨b, rfl⟩
    | _ => exact p.elim
  · rw [he] at p
    cases b with
    | true => exact h2 H0 om0 Γ σ H1 om Q S1 (PostT.back p e1)
    | false => exact p H1 g1 e1
theorem st_or (h1 : SimT K W t f) (h2 : SimT K W u g) : SimT K W (tOr t u) (orD f g) := fun H0 om0 Γ σ H om Q S p => by
  unfold orD at p
  refine SimT.bind (t := t) (k := fun r d => .bad) h1 S (fun e he => ?_) (fun he => ?_) (fun r d he => ?_) fun r b H1 he g1 e1 S1 => ?_
  · rw [he] at p; exact p
  · rw [he] at p; exact p
  · rw [he] at p
    cases d with
    | bl b => exact ⟨b, rfl⟩
    | _ => exact p.elim
  · rw [he] at p
    cases b with
    | false => exact h2 H0 om0 Γ σ H1 om Q S1 (PostT.back p e1)
    | true => exact p H1 g1 e1
theorem st_not (h1 : SimT K W t f) : SimT K W (tNot t) (notD f) := fun H0 om0 Γ σ H om Q S p => by
  unfold notD at p
  refine SimT.bind (t := t) (k := fun r d => .bad) h1 S (fun e he => ?_) (fun he => ?_) (fun r d he => ?_) fun r b H1 he g1 e1 S1 => ?_
  · rw [he] at p; exact p
  · rw [he] at p; exact p
  · rw [he] at p
    cases d with
    | bl b => exact ⟨b, rfl⟩
    | _ => exact p.elim
  · rw [he] at p
    exact p H1 g1 e1
theorem st_yes : SimT K W tYes (cD (.bl true)) := fun H0 om0 Γ σ H om Q S p => p H S.good (Ex.refl H)
theorem blE {σ : L2.St} {H : Hp} {Q : VK} {H0 om b} (S : Good H) (p : PostE K W H0 om σ H Q (.ok .shr (.bl b))) : Q (.bl b) H := p _ H ⟨S, Ex.refl H, by show Rep K _ _ _; simp only [Rep]⟩
theorem se_and (h1 : SimE K W ta f) (h2 : SimE K W tb g) : SimE K W (tAndV ta tb) (andD f g) := fun H0 om0 Γ σ H om Q S p => by
  refine h1.bind S p fun r d v H1 _ R1 S1 p1 => ?_
  have q := R1.opd.rep
  cases d with
  | bl b =>
    simp only [Rep] at q
    refine ⟨b, q, ?_⟩
    cases b with
    | true => exact h2 H0 om0 Γ σ H1 om Q S1 (p1.back R1.ex)
    | false => exact blE S1.good (p1.back R1.ex)
  | _ => exact p1.elim
theorem se_or (h1 : SimE K W ta f) (h2 : SimE K W tb g) : SimE K W (tOrV ta tb) (orD f g) := fun H0 om0 Γ σ H om Q S p => by
  refine h1.bind S p fun r d v H1 _ R1 S1 p1 => ?_
  have q := R1.opd.rep
  cases d with
  | bl b =>
    simp only [Rep] at q
    refine ⟨b, q, ?_⟩
    cases b with
    | false => exact h2 H0 om0 Γ σ H1 om Q S1 (p1.back R1.ex)
    | true => exact blE S1.good (p1.back R1.ex)
  | _ => exact p1.elim
theorem se_not (h1 : SimE K W ta f) : SimE K W (tNotV ta) (notD f) := fun H0 om0 Γ σ H om Q S p => by
  refine h1.bind S p fun r d v H1 _ R1 S1 p1 => ?_
  have q := R1.opd.rep
  cases d with
  | bl b =>
    simp only [Rep] at q
    exact ⟨b, q, blE S1.good (p1.back R1.ex)⟩
  | _ => exact p1.elim
theorem se_if (h1 : SimT K W t h) (h2 : SimE K W ta f) (h3 : SimE K W tb g) : SimE K W (tIf t ta tb) (ifD h f g) := fun H0 om0 Γ σ H om Q S p => by
  unfold ifD at p
  refine SimT.bind (t := t) (k := fun r d => .bad) h1 S (fun e he => ?_) (fun he => ?_) (fun r d he => ?_) fun r b H1 he g1 e1 S1 => ?_
  · rw [he] at p; exact p
  · rw [he] at p; exact p
  · rw [he] at p
    cases d with
    | bl b => exact ⟨b, rfl⟩
    | _ => exact p.elim
  · rw [he] at p
    cases b with
    | true => exact h2 H0 om0 Γ σ H1 om Q S1 (PostE.back p e1)
    | false => exact h3 H0 om0 Γ σ H1 om Q S1 (PostE.back p e1)
end

/-! ### argument lists, displays -/
section
variable {K : PySem.W.Frag} {W : WX} {te : TE} {ta : TA} {f : Env → RE} {g : Env → RL}
def nilD : Env → RL := fun _ => .ok []
def consD (f : Env → RE) (g : Env → RL) : Env → RL := fun Γ => match f Γ with
  | .ok r d => (match g Γ with
    | .ok rs => .ok ((r, d) :: rs)
    | .exc e => .exc e
    | .bad => .bad)
  | .exc e => .exc e
  | .bad => .bad
theorem sa_nil : SimA K W tNil nilD := fun H0 om0 Γ σ H om Q S p => p [] H S.good (Ex.refl H) .nil
theorem sa_cons (h1 : SimE K W te f) (h2 : SimA K W ta g) : SimA K W (tCons te ta) (consD f g) := fun H0 om0 Γ σ H om Q S p => by
  unfold consD at p
  refine h1 H0 om0 Γ σ H om _ S ?_
  cases e1 : f Γ with
  | ok r d =>
    rw [e1] at p
    intro v H1 R1
    have S1 := S.step R1.ex R1.good
    refine h2 H0 om0 Γ σ H1 om _ S1 ?_
    cases e2 : g Γ with
    | ok rs =>
      simp only [e2] at p
      intro vs H2 g2 ex2 o2
      exact p (v :: vs) H2 g2 (R1.ex.trans ex2) (.cons (R1.opd.step ex2) (fun q => Rep.mono (mk_ex ex2) _ (R1.shr S q)) o2)
    | exc x =>
      simp only [e2] at p
      exact fun H' dd g e' a => p H' dd g (R1.ex.trans e') a
    | bad => simp only [e2] at p; exact p
  | exc x => rw [e1] at p; exact p
  | bad => rw [e1] at p; exact p
/-- none borrowed -/
def plainL : List (Rt × D) → Bool
  | [] => true
  | (r, _) :: rs => decide (r ≠ .bor) && plainL rs
theorem OpdL.repL {om : Nat → Option Addr} {H : Hp} {rs : List (Rt × D)} {vs : List V} (h : OpdL K om H rs vs) (p : plainL rs = true) : RepL K (msk om H) (rs.map (·.2)) vs := by
  induction h with
  | nil => exact repL_nil
  | cons h1 h2 _ ih =>
    simp only [plainL, Bool.and_eq_true, decide_eq_true_eq] at p
    exact repL_cons (h2 p.1) (ih p.2)
def tupD (g : Env → RL) : Env → RE := fun Γ => match g Γ with
  | .ok rs => if plainL rs = true ∧ rs.length ≤ 1000 then .ok .shr (.tup (rs.map (·.2))) else .bad
  | .exc e => .exc e
  | .bad => .bad
def lstD (g : Env → RL) : Env → RE := fun Γ => match g Γ with
  | .ok rs => if plainL rs = true ∧ rs.length ≤ 1000 then .ok .fre (.lst (rs.map (·.2))) else .bad
  | .exc e => .exc e
  | .bad => .bad
theorem small {n : Nat} (h : n ≤ 1000) : n ≤ sizeLine := Nat.le_trans h (by decide)
theorem newTup {H0 H : Hp} {om0 om : Nat → Option Addr} {Γ : Env} {σ : L2.St} {p : Addr} {vs : List V} {ds : List D} (S : Sta K H0 om0 Γ σ H om) (hl : vs.length ≤ sizeLine) (hn : H p = none) (h : RepL K (msk om H) ds vs) :
    RV K H0 om H .shr (.tup ds) (.ref p) (upd H p (.tup vs)) := by
  refine ⟨S.good.tup hl, Ex.new hn, ?_⟩
  show Rep K _ _ _
  simp only [Rep]
  refine ⟨p, vs, rfl, .inl ?_, RepL.mono (mk_ex (Ex.new hn)) ds h⟩
  rw [mk_at (S.fresh hn)]
  exact upd_same
theorem newLst {H0 H : Hp} {om0 om : Nat → Option Addr} {Γ : Env} {σ : L2.St} {p : Addr} {vs : List V} {ds : List D} (S : Sta K H0 om0 Γ σ H om) (hl : vs.length ≤ sizeLine) (hn : H p = none) (h : RepL K (msk om H) ds vs) :
    RV K H0 om H .fre (.lst ds) (.ref p) (upd H p (.lst vs)) :=
  ⟨S.good.lst hl, Ex.new hn, p, rfl, hn, vs, upd_same, RepL.mono (mk_ex (dl_new (Ex.new hn) hn)) ds h⟩
theorem se_tup (h : SimA K W ta g) : SimE K W (tTup ta) (tupD g) := fun H0 om0 Γ σ H om Q S p => by
  unfold tupD at p
  refine h H0 om0 Γ σ H om _ S ?_
  cases e : g Γ with
  | ok rs =>
    simp only [e] at p
    by_cases c : plainL rs = true ∧ rs.length ≤ 1000
    · rw [if_pos c] at p
      intro vs H1 g1 e1 o1
      have S1 := S.step e1 g1
      have hl : vs.length ≤ sizeLine := by rw [← o1.len]; exact small c.2
      exact ⟨hl, fun a hn => p _ _ ((newTup S1 hl hn (o1.repL c.1)).back e1)⟩
    · rw [if_neg c] at p
      exact p.elim
  | exc x => rw [e] at p; exact p
  | bad => rw [e] at p; exact p
theorem se_lst (h : SimA K W ta g) : SimE K W (tLst ta) (lstD g) := fun H0 om0 Γ σ H om Q S p => by
  unfold lstD at p
  refine h H0 om0 Γ σ H om _ S ?_
  cases e : g Γ with
  | ok rs =>
    simp only [e] at p
    by_cases c : plainL rs = true ∧ rs.length ≤ 1000
    · rw [if_pos c] at p
      intro vs H1 g1 e1 o1
      have S1 := S.step e1 g1
      have hl : vs.length ≤ sizeLine := by rw [← o1.len]; exact small c.2
      exact ⟨hl, fun a hn => p _ _ ((newLst S1 hl hn (o1.repL c.1)).back e1)⟩
    · rw [if_neg c] at p
      exact p.elim
  | exc x => rw [e] at p; exact p
  | bad => rw [e] at p; exact p

/-! ### calls by values -/
def CallSim (K : PySem.W.Frag) (r : List V → Hp → VK → Prop) (g : List (Rt × D) → RE) : Prop := ∀ H0 om0 Γ σ H om rs vs Q, Sta K H0 om0 Γ σ H om → OpdL K om H rs vs →
  (match g rs with | .ok s d => ∀ v H', RV K H0 om H s d v H' → Q v H' | _ => False) → r vs H Q
def callBD (k : List (Rt × D) → RE) (g : Env → RL) : Env → RE := fun Γ => match g Γ with
  | .ok rs => (match k rs with | .ok s d => .ok s d | _ => .bad)
  | .exc e => .exc e
  | .bad => .bad
theorem se_cb {r : List V → Hp → VK → Prop} {k : List (Rt × D) → RE} (hr : CallSim K r k) (h : SimA K W ta g) : SimE K W (tCB r ta) (callBD k g) := fun H0 om0 Γ σ H om Q S p => by
  unfold callBD at p
  refine h H0 om0 Γ σ H om _ S ?_
  cases e : g Γ with
  | ok rs =>
    rw [e] at p
    intro vs H1 g1 e1 o1
    refine hr H0 om0 Γ σ H1 om rs vs Q (S.step e1 g1) o1 ?_
    cases e2 : k rs with
    | ok s d =>
      simp only [e2] at p
      exact fun v H' R => p v H' (R.back e1)
    | exc x => simp only [e2] at p; exact p
    | bad => simp only [e2] at p; exact p
  | exc x => rw [e] at p; exact p
  | bad => rw [e] at p; exact p

/-! ### a def's promise by a function on data -/
def PostF (K : PySem.W.Frag) (om0 : Nat → Option Addr) (H : Hp) (Q : VK) (E : XK) : FR → Prop
  | .ok c d => ∀ v H', Good H' → Ex H H' → Ret K om0 H c d v H' → Q v H'
  | .exc e => ∀ H' dd, Good H' → Ex H H' → ExcAt K H' e dd → E (clsOf K e) dd H'
  | .bad => False
structure Entry (K : PySem.W.Frag) (om0 : Nat → Option Addr) (H : Hp) : Prop where
  good : Good H
  inj : ∀ i j a, om0 i = some a → om0 j = some a → i = j
  dom : ∀ i a, om0 i = some a → ∃ o, H a = some o ∧ (∀ xs, o ≠ .tup xs) ∧ ∀ ob u, o ≠ .frz ob u
  bnd : ∃ n, ∀ i, n ≤ i → om0 i = none
def spD (K : PySem.W.Frag) (n : Nat) (den : List D → FR) : Sp := fun vs H Q E => ∃ om0 ds, ds.length = n ∧ RepL K (msk om0 H) ds vs ∧ Entry K om0 H ∧ PostF K om0 H Q E (den ds)
theorem spD_len {n : Nat} {den : List D → FR} {vs : List V} {H : Hp} {Q : VK} {E : XK} (h : spD K n den vs H Q E) : vs.length = n := by
  obtain ⟨om0, ds, hl, hr, _⟩ := h
  rw [← hr.len, hl]
theorem Sta.entry {H0 H : Hp} {om0 om : Nat → Option Addr} {Γ : Env} {σ : L2.St} (S : Sta K H0 om0 Γ σ H om) : Entry K om H := ⟨S.good, S.inj, S.dom, let ⟨n, _, h⟩ := S.bnd; ⟨n, h⟩⟩
def om_0 : Nat → Option Addr := fun _ => none
theorem om_0_ne {i : Nat} {a : Addr} (h : om_0 i = some a) : False := by
  unfold om_0 at h
  cases h
theorem entry0 {H : Hp} (g : Good H) : Entry K om_0 H := ⟨g, fun _ _ _ h => (om_0_ne h).elim, fun _ _ h => (om_0_ne h).elim, 0, fun _ _ => rfl⟩
/-- a call: none of the arguments borrowed, or a result that holds nothing of them -/
def callD (n : Nat) (den : List D → FR) (g : Env → RL) : Env → RE := fun Γ => match g Γ with
  | .ok rs => if rs.length = n then (match den (rs.map (·.2)) with
    | .ok c d => if c = true then (if plainL rs = true ∨ kidsImm d = true then .ok .fre d else .bad) else if plainL rs = true ∨ d.imm = true then .ok .shr d else .bad
    | .exc e => .exc e
    | .bad => .bad) else .bad
  | .exc e => .exc e
  | .bad => .bad
theorem OpdL.rep0 {om : Nat → Option Addr} {H : Hp} {rs : List (Rt × D)} {vs : List V} (h : OpdL K om H rs vs) : RepL K (msk om_0 H) (rs.map (·.2)) vs := by
  have e : Ex H (msk om_0 H) := fun a o q => by
    rw [mk_at fun i z => om_0_ne z]
    exact q
  induction h with
  | nil => exact repL_nil
  | cons h1 _ _ ih => exact repL_cons (Rep.mono e _ h1.rep) ih
theorem still_mk {H : Hp} {om : Nat → Option Addr} (h : ∀ i a, om i = some a → ∃ o, H a = some o ∧ (∀ xs, o ≠ .tup xs) ∧ ∀ ob u, o ≠ .frz ob u) : Still H (msk om H) := by
  refine ⟨fun a o u q => ?_, fun a xs q => ?_⟩
  · rw [mk_at fun i e => ?_]
    · exact q
    · obtain ⟨o', h1, _, h3⟩ := h i a e
      rw [q] at h1
      exact h3 _ _ (Option.some.inj h1).symm
  · rw [mk_at fun i e => ?_]
    · exact q
    · obtain ⟨o', h1, h2, _⟩ := h i a e
      rw [q] at h1
      exact h2 _ (Option.some.inj h1).symm
theorem still_dl {H : Hp} {om : Nat → Option Addr} {a : Addr} {o : HO} (h : ∀ i a, om i = some a → ∃ o, H a = some o ∧ (∀ xs, o ≠ .tup xs) ∧ ∀ ob u, o ≠ .frz ob u) (ha : H a = some o) (h1 : ∀ xs, o ≠ .tup xs) (h2 : ∀ ob u, o ≠ .frz ob u) : Still H (msk om (dl H a)) := by
  have s := still_mk h
  have k : ∀ b u, msk om H b = some u → b ≠ a → msk om (dl H a) b = some u := fun b u q n => by
    rw [mk_at (mk_not q)]
    unfold dl
    rw [if_neg n]
    exact mk_le _ _ q
  exact ⟨fun b ob u q => k b _ (s.1 b ob u q) fun e => by rw [e, ha] at q; exact h2 _ _ (Option.some.inj q), fun b xs q => k b _ (s.2 b xs q) fun e => by rw [e, ha] at q; exact h1 _ (Option.some.inj q)⟩
theorem Obj1.kids {G H : Hp} {a : Addr} {d : D} {G' : Hp} (h : Obj1 K G H a d) (hi : kidsImm d = true) (e : Still G G') : Obj1 K G' H a d := by
  cases d with
  | lst ds => obtain ⟨vs, q1, q2⟩ := h; exact ⟨vs, q1, RepL.imm e ds hi q2⟩
  | dK ks ds => obtain ⟨vs, q1, q3, q2⟩ := h; exact ⟨vs, q1, q3, RepL.imm e ds hi q2⟩
  | dT ks ds => obtain ⟨vs, q1, q3, q2⟩ := h; exact ⟨vs, q1, q3, RepL.imm e ds hi q2⟩
  | _ => exact h.elim
theorem se_call {n : Nat} {den : List D → FR} {WEσ : L2.St → XK} (hE : ∀ σ cls d H, WEσ σ cls d H = W cls d σ H) (h : SimA K W ta g) : SimE K W (tCallS (spD K n den) WEσ ta) (callD n den g) := fun H0 om0 Γ σ H om Q S p => by
  unfold callD at p
  refine h H0 om0 Γ σ H om _ S ?_
  cases e : g Γ with
  | ok rs =>
    simp only [e] at p
    intro vs H1 g1 e1 o1
    have S1 := S.step e1 g1
    by_cases hln : rs.length = n
    case neg =>
      rw [if_neg hln] at p
      exact p.elim
    rw [if_pos hln] at p
    have hn : (rs.map (·.2)).length = n := by rw [List.length_map]; exact hln
    cases e2 : den (rs.map (·.2)) with
    | ok c d =>
      simp only [e2] at p
      by_cases hc : c = true
      · subst hc
        rw [if_pos rfl] at p
        by_cases hp : plainL rs = true
        · rw [if_pos (.inl hp)] at p
          refine ⟨om, rs.map (·.2), hn, o1.repL hp, S1.entry, ?_⟩
          rw [e2]
          intro v H' g' e' R
          unfold Ret at R
          rw [if_pos rfl] at R
          exact p v H' (RV.back ⟨g', e', R⟩ e1)
        · by_cases hd : kidsImm d = true
          · rw [if_pos (.inr hd)] at p
            refine ⟨om_0, rs.map (·.2), hn, o1.rep0, entry0 g1, ?_⟩
            rw [e2]
            intro v H' g' e' R
            unfold Ret at R
            rw [if_pos rfl] at R
            obtain ⟨a, rfl, ha, ho⟩ := R
            refine p _ H' (RV.back ⟨g', e', a, rfl, ha, ?_⟩ e1)
            obtain ⟨o, z1, z2, z3⟩ := ho.some
            refine (ho.mono (mk_le.trans dl_le) fun _ z => z).kids hd (still_dl (fun i b q => ?_) z1 z2 z3)
            obtain ⟨o', y1, y2⟩ := S1.dom i b q
            exact ⟨o', e' _ _ y1, y2⟩
          · rw [if_neg (by rintro (z | z); exact hp z; exact hd z)] at p
            exact p.elim
      · rw [if_neg hc] at p
        have hcf : c = false := by simpa using hc
        subst hcf
        by_cases hp : plainL rs = true
        · rw [if_pos (.inl hp)] at p
          refine ⟨om, rs.map (·.2), hn, o1.repL hp, S1.entry, ?_⟩
          rw [e2]
          intro v H' g' e' R
          unfold Ret at R
          rw [if_neg (by decide)] at R
          exact p v H' (RV.back ⟨g', e', R⟩ e1)
        · by_cases hd : d.imm = true
          · rw [if_pos (.inr hd)] at p
            refine ⟨om_0, rs.map (·.2), hn, o1.rep0, entry0 g1, ?_⟩
            rw [e2]
            intro v H' g' e' R
            unfold Ret at R
            rw [if_neg (by decide)] at R
            refine p v H' (RV.back ⟨g', e', ?_⟩ e1)
            exact Rep.imm (S1.step e' g').still d hd (Rep.mono mk_le d R)
          · rw [if_neg (by rintro (z | z); exact hp z; exact hd z)] at p
            exact p.elim
    | exc x =>
      simp only [e2] at p
      refine ⟨om_0, rs.map (·.2), hn, o1.rep0, entry0 g1, ?_⟩
      rw [e2]
      intro H' dd g' e' a
      rw [hE]
      exact p H' dd g' (e1.trans e') a
    | bad => simp only [e2] at p; exact p.elim
  | exc x => rw [e] at p; exact p
  | bad => rw [e] at p; exact p
end
end VL

namespace VL
open PySem PySem.Spec PyProof.Rows L2
section
variable {K : PySem.W.Frag} {W : WX} {H0 : Hp} {om0 om om' : Nat → Option Addr} {Γ Γ' : Env} {σ σ' : L2.St} {H H' H1 H2 : Hp} {d : D} {v : V} {r : Rt} {D1 : Ends}
/-! ### the slots stored -/
theorem Sta.setSh (S : Sta K H0 om0 Γ σ H om) (h : Rep K (msk om H) d v) (i : Nat) : Sta K H0 om0 (Γ.set i (.sh d)) (σ.set i (some v)) H om := by
  refine ⟨by simpa using S.len, S.good, S.base, S.inj, S.dom, fun j a e => ?_, ?_, fun j => ?_⟩
  · rw [List.length_set]; exact S.hid j a e
  · rw [List.length_set]; exact S.bnd
  · by_cases e : i = j
    · subst e
      by_cases hl : i < Γ.length
      · rw [List.getElem?_set_self hl, List.getElem?_set_self (by rw [S.len]; exact hl)]
        exact ⟨v, rfl, h⟩
      · rw [List.getElem?_eq_none (by rw [List.length_set]; omega)]
        trivial
    · rw [List.getElem?_set_ne e, List.getElem?_set_ne e]
      exact S.slot j
theorem Sta.setOw (S : Sta K H0 om0 Γ σ H om) {a : Addr} (e : Ex H H') (g : Good H') (hn : H a = none) (h : Obj1 K (msk om (dl H' a)) H' a d) {i : Nat} (hi : i < Γ.length) :
    Sta K H0 om0 (Γ.set i (.ow d)) (σ.set i (some (.ref a))) H' (fun j => if j = i then some a else om j) ∧ Ex (msk om H) (msk (fun j => if j = i then some a else om j) H') := by
  have nf := S.fresh hn
  have ex : Ex (msk om H) (msk (fun j => if j = i then some a else om j) H') := mk_ex2 (mk_le.trans e) fun b o q j z => by
    have z2 : (if j = i then some a else om j) = some b := z
    by_cases ji : j = i
    · rw [if_pos ji] at z2
      have : a = b := Option.some.inj z2
      subst this
      rw [mk_le _ _ q] at hn
      cases hn
    · rw [if_neg ji] at z2
      exact mk_not q _ z2
  have exd : Ex (msk om (dl H' a)) (msk (fun j => if j = i then some a else om j) H') := mk_ex2 (mk_le.trans dl_le) fun b o q j z => by
    have z2 : (if j = i then some a else om j) = some b := z
    by_cases ji : j = i
    · rw [if_pos ji] at z2
      have : a = b := Option.some.inj z2
      subst this
      have := mk_le _ _ q
      unfold dl at this
      rw [if_pos rfl] at this
      cases this
    · rw [if_neg ji] at z2
      exact mk_not q _ z2
  obtain ⟨o, o1, o2, o3⟩ := h.some
  refine ⟨⟨by simpa using S.len, g, S.base.trans e, fun j1 j2 b e1 e2 => ?_, fun j b q => ?_, fun j b q => ?_, ?_, fun j => ?_⟩, ex⟩
  · by_cases h1 : j1 = i
    · by_cases h2 : j2 = i
      · rw [h1, h2]
      · rw [if_pos h1] at e1
        rw [if_neg h2] at e2
        cases e1
        exact absurd e2 (nf _)
    · by_cases h2 : j2 = i
      · rw [if_neg h1] at e1
        rw [if_pos h2] at e2
        cases e2
        exact absurd e1 (nf _)
      · rw [if_neg h1] at e1
        rw [if_neg h2] at e2
        exact S.inj _ _ _ e1 e2
  · by_cases h1 : j = i
    · rw [if_pos h1] at q
      cases q
      exact ⟨o, o1, o2, o3⟩
    · rw [if_neg h1] at q
      obtain ⟨o', p1, p2⟩ := S.dom j b q
      exact ⟨o', e _ _ p1, p2⟩
  · rw [List.length_set]
    show (if Γ.length + j = i then some a else om (Γ.length + j)) = some b
    rw [if_neg (by omega)]
    exact S.hid j b q
  · rw [List.length_set]
    obtain ⟨n, n1, n2⟩ := S.bnd
    refine ⟨n, n1, fun j hj => ?_⟩
    show (if j = i then some a else om j) = none
    rw [if_neg (by omega)]
    exact n2 j hj
  · by_cases e2 : i = j
    · subst e2
      rw [List.getElem?_set_self hi, List.getElem?_set_self (by rw [S.len]; exact hi)]
      refine ⟨a, if_pos rfl, rfl, fresh_back S.base hn, h.mono exd fun _ z => z⟩
    · rw [List.getElem?_set_ne e2, List.getElem?_set_ne e2]
      have q := S.slot j
      show SlotOk K H0 _ H' _ _ (if j = i then some a else om j)
      rw [if_neg (Ne.symm e2)]
      cases hs : Γ[j]? with
      | none => trivial
      | some s =>
        rw [hs] at q
        cases s with
        | no => trivial
        | sh d' =>
          obtain ⟨v', q1, q2⟩ := q
          exact ⟨v', q1, Rep.mono ex d' q2⟩
        | ow d' =>
          obtain ⟨b, q1, q2, q3, q4⟩ := q
          exact ⟨b, q1, q2, q3, q4.mono ex fun o => e b o⟩
/-- a thing that one slot alone held is shared from now on -/
theorem Sta.frz (S : Sta K H0 om0 Γ σ H om) {i : Nat} (h : Γ[i]? = some (.ow d)) :
    Sta K H0 om0 (Γ.set i (.sh d)) σ H (fun j => if j = i then none else om j) ∧ Ex (msk om H) (msk (fun j => if j = i then none else om j) H) := by
  have hi : i < Γ.length := (List.getElem?_eq_some_iff.mp h).1
  obtain ⟨a, a1, a2, a3, a4⟩ := S.ow h
  have ex : Ex (msk om H) (msk (fun j => if j = i then none else om j) H) := mk_ex2 mk_le fun b o q j z => by
    have z2 : (if j = i then none else om j) = some b := z
    by_cases ji : j = i
    · rw [if_pos ji] at z2
      cases z2
    · rw [if_neg ji] at z2
      exact mk_not q _ z2
  have na : ∀ j, (if j = i then none else om j) ≠ some a := fun j z => by
    by_cases ji : j = i
    · rw [if_pos ji] at z
      cases z
    · rw [if_neg ji] at z
      exact ji (S.inj _ _ _ z a1)
  refine ⟨⟨by simpa using S.len, S.good, S.base, fun j1 j2 b e1 e2 => ?_, fun j b q => ?_, fun j b q => ?_, ?_, fun j => ?_⟩, ex⟩
  · by_cases h1 : j1 = i
    · rw [if_pos h1] at e1
      cases e1
    · by_cases h2 : j2 = i
      · rw [if_pos h2] at e2
        cases e2
      · rw [if_neg h1] at e1
        rw [if_neg h2] at e2
        exact S.inj _ _ _ e1 e2
  · by_cases h1 : j = i
    · rw [if_pos h1] at q
      cases q
    · rw [if_neg h1] at q
      exact S.dom j b q
  · rw [List.length_set]
    show (if Γ.length + j = i then none else om (Γ.length + j)) = some b
    rw [if_neg (by omega)]
    exact S.hid j b q
  · rw [List.length_set]
    obtain ⟨n, n1, n2⟩ := S.bnd
    refine ⟨n, n1, fun j hj => ?_⟩
    show (if j = i then none else om j) = none
    rw [if_neg (by omega)]
    exact n2 j hj
  · by_cases e2 : i = j
    · subst e2
      rw [List.getElem?_set_self hi]
      refine ⟨.ref a, a2, ?_⟩
      have ha : ∀ o, H a = some o → msk (fun j => if j = i then none else om j) H a = some o := fun o q => by
        rw [mk_at na]
        exact q
      cases d with
      | lst ds => obtain ⟨vs, q1, q2⟩ := a4; simp only [Rep]; exact ⟨a, vs, rfl, ha _ q1, RepL.mono ex ds q2⟩
      | dK ks ds => obtain ⟨vs, q1, q3, q2⟩ := a4; simp only [Rep]; exact ⟨a, vs, rfl, ha _ q1, q3, RepL.mono ex ds q2⟩
      | dT ks ds => obtain ⟨vs, q1, q3, q2⟩ := a4; simp only [Rep]; exact ⟨a, vs, rfl, ha _ q1, q3, RepL.mono ex ds q2⟩
      | _ => exact a4.elim
    · rw [List.getElem?_set_ne e2]
      have q := S.slot j
      show SlotOk K H0 _ H _ _ (if j = i then none else om j)
      rw [if_neg (Ne.symm e2)]
      cases hs : Γ[j]? with
      | none => trivial
      | some s =>
        rw [hs] at q
        cases s with
        | no => trivial
        | sh d' =>
          obtain ⟨v', q1, q2⟩ := q
          exact ⟨v', q1, Rep.mono ex d' q2⟩
        | ow d' =>
          obtain ⟨b, q1, q2, q3, q4⟩ := q
          exact ⟨b, q1, q2, q3, q4.mono ex fun o z => z⟩
/-- the thing that slot i alone holds is changed -/
theorem Sta.put (S : Sta K H0 om0 Γ σ H om) {i : Nat} {a : Addr} {o : HO} (h : Γ[i]? = some (.ow d)) (ha : om i = some a) {d' : D} (g : Good (upd H a o)) (h1 : ∀ xs, o ≠ .tup xs) (h2 : ∀ ob u, o ≠ .frz ob u) (q : Obj1 K (msk om H) (upd H a o) a d') :
    Sta K H0 om0 (Γ.set i (.ow d')) σ (upd H a o) om ∧ Ex (msk om H) (msk om (upd H a o)) := by
  have hi : i < Γ.length := (List.getElem?_eq_some_iff.mp h).1
  obtain ⟨b, b1, b2, b3, b4⟩ := S.ow h
  rw [ha] at b1
  cases b1
  have ex : Ex (msk om H) (msk om (upd H a o)) := mk_ex2 (fun c u z => by
      have ne : c ≠ a := fun e => mk_not z i (by rw [e]; exact ha)
      rw [upd_ne ne]
      exact mk_le _ _ z) fun c u z => mk_not z
  refine ⟨⟨by simpa using S.len, g, fun c u z => ?_, S.inj, fun j c z => ?_, fun j c z => ?_, ?_, fun j => ?_⟩, ex⟩
  · rw [upd_ne (ne_of_none z b3)]
    exact S.base c u z
  · by_cases e : c = a
    · rw [e]
      exact ⟨o, upd_same, h1, h2⟩
    · rw [upd_ne e]
      exact S.dom j c z
  · rw [List.length_set]; exact S.hid j c z
  · rw [List.length_set]; exact S.bnd
  · by_cases e : i = j
    · subst e
      rw [List.getElem?_set_self hi]
      exact ⟨a, ha, b2, b3, q.mono ex fun _ z => z⟩
    · rw [List.getElem?_set_ne e]
      have q2 := S.slot j
      cases hs : Γ[j]? with
      | none => trivial
      | some s =>
        rw [hs] at q2
        cases s with
        | no => trivial
        | sh d' =>
          obtain ⟨v', p1, p2⟩ := q2
          exact ⟨v', p1, Rep.mono ex d' p2⟩
        | ow d' =>
          obtain ⟨c, p1, p2, p3, p4⟩ := q2
          refine ⟨c, p1, p2, p3, p4.mono ex fun u z => ?_⟩
          rw [upd_ne fun e2 => e (S.inj _ _ _ ha (by rw [← e2]; exact p1))]
          exact z

/-! ### statements -/
theorem Fw.refl (S : Sta K H0 om0 Γ σ H om) : Fw K H0 om0 om H Γ σ H := ⟨om, S, Ex.refl _⟩
theorem Fw.step (S : Sta K H0 om0 Γ σ H om) (e : Ex H H') (g : Good H') : Fw K H0 om0 om H Γ σ H' := ⟨om, S.step e g, mk_ex e⟩
theorem Fw.back (h : Fw K H0 om0 om' H' Γ' σ' H2) (e : Ex (msk om H) (msk om' H')) : Fw K H0 om0 om H Γ' σ' H2 := let ⟨o, S, e2⟩ := h; ⟨o, S, e.trans e2⟩
theorem PostS.back {x : Out} (h : PostS K W H0 om0 om H D1 x) (e : Ex (msk om H) (msk om' H')) : PostS K W H0 om0 om' H' D1 x := by
  cases x with
  | nx Γ => exact fun σ' H2 f => h σ' H2 (f.back e)
  | brk Γ => exact fun σ' H2 f => h σ' H2 (f.back e)
  | cnt Γ => exact fun σ' H2 f => h σ' H2 (f.back e)
  | ret c d => exact h
  | exc Γ x => exact fun σ' H2 dd f => h σ' H2 dd (f.back e)
  | bad => exact h
def seqD (f g : Env → Out) : Env → Out := fun Γ => match f Γ with
  | .nx Γ' => g Γ'
  | x => x
def nextD : Env → Out := fun Γ => .nx Γ
def brkD : Env → Out := fun Γ => .brk Γ
def cntD : Env → Out := fun Γ => .cnt Γ
def neverD : Env → Out := fun _ => .bad
variable {t u : TS} {f g : Env → Out} {te : TE} {fe : Env → RE}
theorem ss_next : SimS K W tNext nextD := fun H0 om0 Γ σ H om D S p => p σ H (.refl S)
theorem ss_brk : SimS K W tBreak brkD := fun H0 om0 Γ σ H om D S p => p σ H (.refl S)
theorem ss_cnt : SimS K W tCont cntD := fun H0 om0 Γ σ H om D S p => p σ H (.refl S)
theorem ss_never : SimS K W tNever neverD := fun H0 om0 Γ σ H om D S p => p
theorem ss_seq (h1 : SimS K W t f) (h2 : SimS K W u g) : SimS K W (tSeq t u) (seqD f g) := fun H0 om0 Γ σ H om D S p => by
  unfold seqD at p
  refine h1 H0 om0 Γ σ H om _ S ?_
  cases e : f Γ with
  | nx Γ' =>
    rw [e] at p
    rintro σ' H' ⟨om', S', ex⟩
    exact h2 H0 om0 Γ' σ' H' om' D S' (PostS.back p ex)
  | brk Γ' => rw [e] at p; exact p
  | cnt Γ' => rw [e] at p; exact p
  | ret c d => rw [e] at p; exact p
  | exc Γ' x => rw [e] at p; exact p
  | bad => rw [e] at p; exact p
def frzD (i : Nat) (Γ : Env) : Env := match Γ[i]? with
  | some (.ow d) => Γ.set i (.sh d)
  | _ => Γ
/-- ahead of the statement what slot i alone holds is shared -/
def frzS (i : Nat) (f : Env → Out) : Env → Out := fun Γ => f (frzD i Γ)
theorem ss_frz {i : Nat} (h : SimS K W t f) : SimS K W t (frzS i f) := fun H0 om0 Γ σ H om D S p => by
  unfold frzS at p
  cases e : Γ[i]? with
  | none =>
    have : frzD i Γ = Γ := by unfold frzD; rw [e]
    rw [this] at p
    exact h H0 om0 Γ σ H om D S p
  | some s =>
    cases s with
    | no =>
      have : frzD i Γ = Γ := by unfold frzD; rw [e]
      rw [this] at p
      exact h H0 om0 Γ σ H om D S p
    | sh d =>
      have : frzD i Γ = Γ := by unfold frzD; rw [e]
      rw [this] at p
      exact h H0 om0 Γ σ H om D S p
    | ow d =>
      have : frzD i Γ = Γ.set i (.sh d) := by unfold frzD; rw [e]
      rw [this] at p
      obtain ⟨S', ex⟩ := S.frz e
      exact h H0 om0 _ σ H _ D S' (PostS.back p ex)
/-- evaluate, then go on -/
def evalS (f : Env → RE) (k : Env → Rt → D → Out) : Env → Out := fun Γ => match f Γ with
  | .ok r d => k Γ r d
  | .exc e => .exc Γ e
  | .bad => .bad
theorem evalS_ok {Γ : Env} {k : Env → Rt → D → Out} (h : fe Γ = .ok r d) : evalS fe k Γ = k Γ r d := by unfold evalS; rw [h]
theorem SimE.stm {k : Env → Rt → D → Out} {Q : VK} (h : SimE K W te fe) (S : Sta K H0 om0 Γ σ H om) (p : PostS K W H0 om0 om H D1 (evalS fe k Γ))
    (q : ∀ r d v H1, RV K H0 om H r d v H1 → Sta K H0 om0 Γ σ H1 om → PostS K W H0 om0 om H D1 (k Γ r d) → Q v H1) : te σ H Q := by
  unfold evalS at p
  refine h H0 om0 Γ σ H om Q S ?_
  cases e : fe Γ with
  | ok r d =>
    rw [e] at p
    exact fun v H1 R => q r d v H1 R (S.step R.ex R.good) p
  | exc x =>
    rw [e] at p
    exact fun H' dd g e' a => p σ H' dd (.step S e' g) a
  | bad => rw [e] at p; exact p
def asgD (i : Nat) (f : Env → RE) : Env → Out := evalS f fun Γ r d => if r = .bor then .bad else .nx (Γ.set i (.sh d))
theorem ss_asg {i : Nat} (h : SimE K W te fe) : SimS K W (tAsg te (gName i)) (asgD i fe) := fun H0 om0 Γ σ H om D S p => by
  refine h.stm S p fun r d v H1 R S1 p1 => ?_
  by_cases hr : r = .bor
  · rw [if_pos hr] at p1
    exact p1.elim
  · rw [if_neg hr] at p1
    exact p1 _ H1 ⟨om, S1.setSh (R.shr S hr) i, mk_ex R.ex⟩
def asgOD (i : Nat) (f : Env → RE) : Env → Out := evalS f fun Γ r d => if r = .fre ∧ i < Γ.length then .nx (Γ.set i (.ow d)) else .bad
theorem ss_asgO {i : Nat} (h : SimE K W te fe) : SimS K W (tAsg te (gName i)) (asgOD i fe) := fun H0 om0 Γ σ H om D S p => by
  refine h.stm S p fun r d v H1 R S1 p1 => ?_
  by_cases hr : r = .fre ∧ i < Γ.length
  · rw [if_pos hr] at p1
    obtain ⟨rfl, hi⟩ := hr
    obtain ⟨g, e, a, rfl, hn, ho⟩ := R
    obtain ⟨S2, ex⟩ := S.setOw e g hn ho hi
    exact p1 _ H1 ⟨_, S2, ex⟩
  · rw [if_neg hr] at p1
    exact p1.elim
def dropD (f : Env → RE) : Env → Out := evalS f fun Γ _ _ => .nx Γ
theorem ss_drop (h : SimE K W te fe) : SimS K W (tDrop te) (dropD fe) := fun H0 om0 Γ σ H om D S p => by
  refine h.stm S p fun r d v H1 R S1 p1 => ?_
  exact p1 _ H1 ⟨om, S1, mk_ex R.ex⟩
def retD (f : Env → RE) : Env → Out := evalS f fun _ r d => if d.imm = true then .ret false d else if r = .shr then .ret false d else .ret true d
theorem ss_ret (h : SimE K W te fe) : SimS K W (tRet te) (retD fe) := fun H0 om0 Γ σ H om D S p => by
  refine h.stm (Q := D.rt) S p fun r d v H1 R S1 p1 => ?_
  by_cases hi : d.imm = true
  · rw [if_pos hi] at p1
    refine p1 v H1 S1.good S1.base ?_
    unfold Ret
    rw [if_neg (by decide)]
    refine Rep.mono S1.le0 d ?_
    exact Rep.imm S1.still d hi R.opd.rep
  · rw [if_neg hi] at p1
    by_cases hb : r = .shr
    · rw [if_pos hb] at p1
      subst hb
      refine p1 v H1 S1.good S1.base ?_
      unfold Ret
      rw [if_neg (by decide)]
      exact Rep.mono S1.le0 d (R.shr S (by decide))
    · rw [if_neg hb] at p1
      refine p1 v H1 S1.good S1.base ?_
      unfold Ret
      rw [if_pos rfl]
      obtain ⟨g, e, h⟩ := R
      cases r with
      | shr => exact absurd rfl hb
      | bor =>
        obtain ⟨a, j, h1, h2, h3, h4⟩ := h
        refine ⟨a, h1, h3, h4.mono (fun b o z => ?_) fun _ z => z⟩
        rw [mk_at fun i q => mk_not z _ (S1.hid i b q)]
        unfold dl
        rw [if_neg fun q => mk_not z j (by rw [q]; exact h2)]
        exact mk_le _ _ z
      | fre =>
        obtain ⟨a, h1, h2, h4⟩ := h
        refine ⟨a, h1, fresh_back S.base h2, h4.mono (fun b o z => ?_) fun _ z => z⟩
        rw [mk_at fun i q => mk_not z _ (S1.hid i b q)]
        exact mk_le _ _ z
def ifS (c : Env → RE) (f g : Env → Out) : Env → Out := evalS c fun Γ _ d => match d with | .bl true => f Γ | .bl false => g Γ | _ => .bad
theorem ss_if {c : TT} {fc : Env → RE} (hc : SimT K W c fc) (h1 : SimS K W t f) (h2 : SimS K W u g) : SimS K W (tIfS c t u) (ifS fc f g) := fun H0 om0 Γ σ H om D S p => by
  unfold ifS evalS at p
  refine hc H0 om0 Γ σ H om _ S ?_
  cases e : fc Γ with
  | ok r d =>
    rw [e] at p
    cases d with
    | bl b =>
      intro H1 g1 e1
      cases b with
      | true => exact h1 H0 om0 Γ σ H1 om D (S.step e1 g1) (PostS.back p (mk_ex e1))
      | false => exact h2 H0 om0 Γ σ H1 om D (S.step e1 g1) (PostS.back p (mk_ex e1))
    | _ => exact p.elim
  | exc x =>
    rw [e] at p
    exact fun H' dd g e' a => p σ H' dd (.step S e' g) a
  | bad => rw [e] at p; exact p

/-! ### targets -/
/-- g stores what stands for data as tg does; is: the slots it may change -/
def SimG (K : PySem.W.Frag) (g : TG) (tg : D → Env → Option Env) (is : List Nat) : Prop := ∀ H0 om0 Γ σ H om d v Γ' Q, Sta K H0 om0 Γ σ H om → Rep K (msk om H) d v → tg d Γ = some Γ' →
  (∀ σ', Sta K H0 om0 Γ' σ' H om → (∀ vs : List Nat, (∀ i ∈ is, i ∈ vs) → wipe σ' vs = wipe σ vs) → Q σ' H) → g v σ H Q
def SimGs (K : PySem.W.Frag) (g : TGs) (tg : List D → Env → Option Env) (is : List Nat) : Prop := ∀ H0 om0 Γ σ H om ds vs Γ' Q, Sta K H0 om0 Γ σ H om → RepL K (msk om H) ds vs → tg ds Γ = some Γ' →
  (∀ σ', Sta K H0 om0 Γ' σ' H om → (∀ vs : List Nat, (∀ i ∈ is, i ∈ vs) → wipe σ' vs = wipe σ vs) → Q σ' H) → g vs σ H Q
theorem wipe_set {σ : L2.St} {i : Nat} {x : Option V} : ∀ {vs : List Nat}, i ∈ vs → wipe (σ.set i x) vs = wipe σ vs
  | [], h => by cases h
  | j :: vs, h => by
    unfold wipe
    by_cases hm : i ∈ vs
    · rw [wipe_set hm]
    · have e : i = j := by
        rcases List.mem_cons.mp h with z | z
        · exact z
        · exact absurd z hm
      subst e
      have comm : wipe (σ.set i x) vs = (wipe σ vs).set i x := by
        clear h
        induction vs generalizing σ with
        | nil => rfl
        | cons k vs ih =>
          unfold wipe
          rw [ih (fun z => hm (List.mem_cons_of_mem _ z))]
          have hk : i ≠ k := fun z => hm (by rw [z]; exact List.mem_cons_self)
          rw [List.set_comm _ _ hk]
      rw [comm, List.set_set]
def tName (i : Nat) : D → Env → Option Env := fun d Γ => some (Γ.set i (.sh d))
theorem sg_name {i : Nat} : SimG K (gName i) (tName i) [i] := fun H0 om0 Γ σ H om d v Γ' Q S h e q => by
  cases e
  exact q _ (S.setSh h i) fun vs hi => wipe_set (hi i List.mem_cons_self)
def tsNil : List D → Env → Option Env := fun ds Γ => match ds with | [] => some Γ | _ => none
def tsCons (a : D → Env → Option Env) (b : List D → Env → Option Env) : List D → Env → Option Env := fun ds Γ => match ds with
  | d :: ds => (match a d Γ with | some Γ1 => b ds Γ1 | none => none)
  | [] => none
def tsTup (n : Nat) (b : List D → Env → Option Env) : D → Env → Option Env := fun d Γ => match d with
  | .tup ds => if ds.length = n then b ds Γ else none
  | _ => none
theorem sgs_nil : SimGs K gNil tsNil [] := fun H0 om0 Γ σ H om ds vs Γ' Q S h e q => by
  cases ds with
  | nil =>
    have e' : Γ = Γ' := Option.some.inj e
    subst e'
    exact ⟨repL_nil_inv h, q σ S fun _ _ => rfl⟩
  | cons _ _ => cases e
theorem sgs_cons {g1 : TG} {g2 : TGs} {a : D → Env → Option Env} {b : List D → Env → Option Env} {is js : List Nat} (h1 : SimG K g1 a is) (h2 : SimGs K g2 b js) : SimGs K (gCons g1 g2) (tsCons a b) (is ++ js) := fun H0 om0 Γ σ H om ds vs Γ' Q S h e q => by
  cases ds with
  | nil => cases e
  | cons d ds =>
    obtain ⟨v, r, rfl, r1, r2⟩ := repL_cons_inv h
    have e' : (match a d Γ with | some Γ1 => b ds Γ1 | none => none) = some Γ' := e
    cases ea : a d Γ with
    | none => rw [ea] at e'; cases e'
    | some Γ1 =>
      rw [ea] at e'
      refine ⟨v, r, rfl, h1 H0 om0 Γ σ H om d v Γ1 _ S r1 ea fun σ1 S1 w1 => ?_⟩
      exact h2 H0 om0 Γ1 σ1 H om ds r Γ' Q S1 r2 e' fun σ2 S2 w2 => q σ2 S2 fun vs hv => (w2 vs fun i hi => hv i (List.mem_append_right _ hi)).trans (w1 vs fun i hi => hv i (List.mem_append_left _ hi))
theorem sg_tup {g2 : TGs} {b : List D → Env → Option Env} {is : List Nat} {n : Nat} (h : SimGs K g2 b is) : SimG K (gTup K n g2) (tsTup n b) is := fun H0 om0 Γ σ H om d v Γ' Q S hr e q => by
  cases d with
  | tup ds =>
    simp only [Rep] at hr
    obtain ⟨a, vs, rfl, r1, r2⟩ := hr
    have e' : (if ds.length = n then b ds Γ else none) = some Γ' := e
    by_cases hl : ds.length = n
    · rw [if_pos hl] at e'
      exact ⟨a, vs, rfl, (r1.mono mk_le).sq, by rw [← r2.len]; exact hl, h H0 om0 Γ σ H om ds vs Γ' Q S r2 e' q⟩
    · rw [if_neg hl] at e'
      cases e'
  | _ => cases e
def asgT (tg : D → Env → Option Env) (f : Env → RE) : Env → Out := evalS f fun Γ r d => if r = .bor then .bad else match tg d Γ with | some Γ' => .nx Γ' | none => .bad
theorem ss_asgT {g : TG} {tg : D → Env → Option Env} {is : List Nat} (hg : SimG K g tg is) (h : SimE K W te fe) : SimS K W (tAsg te g) (asgT tg fe) := fun H0 om0 Γ σ H om D S p => by
  refine h.stm S p fun r d v H1 R S1 p1 => ?_
  by_cases hr : r = .bor
  · rw [if_pos hr] at p1
    exact p1.elim
  · rw [if_neg hr] at p1
    cases e : tg d Γ with
    | none => rw [e] at p1; exact p1.elim
    | some Γ' =>
      rw [e] at p1
      exact hg H0 om0 Γ σ H1 om d v Γ' _ S1 (R.shr S hr) e fun σ' S' _ => p1 σ' H1 ⟨om, S', mk_ex R.ex⟩
def parD (i j : Nat) (g : Env → RL) : Env → Out := fun Γ => match g Γ with
  | .ok [(r1, d1), (r2, d2)] => if r1 = .bor ∨ r2 = .bor then .bad else .nx ((Γ.set i (.sh d1)).set j (.sh d2))
  | .exc e => .exc Γ e
  | _ => .bad
theorem OpdL.one {r1 : Rt} {d1 : D} {vs : List V} (h : OpdL K om H [(r1, d1)] vs) : ∃ v, vs = [v] ∧ Opd K om H d1 v ∧ (r1 ≠ .bor → Rep K (msk om H) d1 v) := by
  cases h with
  | cons a1 a2 o =>
    cases o
    exact ⟨_, rfl, a1, a2⟩
theorem OpdL.uncons {r1 : Rt} {d1 : D} {rs : List (Rt × D)} {vs : List V} (h : OpdL K om H ((r1, d1) :: rs) vs) : ∃ v ws, vs = v :: ws ∧ Opd K om H d1 v ∧ (r1 ≠ .bor → Rep K (msk om H) d1 v) ∧ OpdL K om H rs ws := by
  cases h with
  | cons a1 a2 o => exact ⟨_, _, rfl, a1, a2, o⟩
theorem OpdL.two {r1 r2 : Rt} {d1 d2 : D} {vs : List V} (h : OpdL K om H [(r1, d1), (r2, d2)] vs) : ∃ v w, vs = [v, w] ∧ (Opd K om H d1 v ∧ (r1 ≠ .bor → Rep K (msk om H) d1 v)) ∧ Opd K om H d2 w ∧ (r2 ≠ .bor → Rep K (msk om H) d2 w) := by
  obtain ⟨v, ws, rfl, a1, a2, o⟩ := h.uncons
  obtain ⟨w, rfl, b1, b2⟩ := o.one
  exact ⟨v, w, rfl, ⟨a1, a2⟩, b1, b2⟩
theorem ss_par {i j : Nat} {ta : TA} {ga : Env → RL} (h : SimA K W ta ga) : SimS K W (tPar i j ta) (parD i j ga) := fun H0 om0 Γ σ H om D S p => by
  unfold parD at p
  refine h H0 om0 Γ σ H om _ S ?_
  cases e : ga Γ with
  | ok rs =>
    intro vs H1 g1 e1 o1
    rw [e] at p
    match rs, o1, p with
    | [(r1, d1), (r2, d2)], o1, p =>
      have p' : PostS K W H0 om0 om H D (if r1 = .bor ∨ r2 = .bor then .bad else .nx ((Γ.set i (.sh d1)).set j (.sh d2))) := p
      by_cases hb : r1 = .bor ∨ r2 = .bor
      · rw [if_pos hb] at p'
        exact p'.elim
      · rw [if_neg hb] at p'
        obtain ⟨v, w, rfl, ⟨_, a2⟩, _, b2⟩ := o1.two
        have S1 := S.step e1 g1
        exact ⟨v, w, rfl, p' _ H1 ⟨om, (S1.setSh (a2 fun z => hb (.inl z)) i).setSh (b2 fun z => hb (.inr z)) j, mk_ex e1⟩⟩
    | [], _, p => exact p.elim
    | [_], _, p => exact p.elim
    | _ :: _ :: _ :: _, _, p => exact p.elim
  | exc x =>
    rw [e] at p
    exact fun H' dd g e' a => p σ H' dd (.step S e' g) a
  | bad => rw [e] at p; exact p

/-! ### what is walked -/
inductive RI where
  | ok (r : Rt) (ds : List D) | exc (e : Exn) | bad
def YD (K : PySem.W.Frag) (G : Hp) (H : Hp) (d : D) (x : V) (H' : Hp) : Prop := (H' = H ∧ Rep K G d x) ∨ ∃ T xs es, d = .tup es ∧ x = .ref T ∧ H T = none ∧ H' = upd H T (.tup xs) ∧ RepL K G es xs ∧ xs.length ≤ 1000
def WalkD (K : PySem.W.Frag) (J : It) (ds : List D) (GL G : Hp) : Prop := Walk J ds.length (fun H => Ex GL H) fun i H x H' => ∃ d, ds[i]? = some d ∧ YD K G H d x H'
def PostI (K : PySem.W.Frag) (W : WX) (om : Nat → Option Addr) (σ : L2.St) (H : Hp) (R : It → Hp → Prop) : RI → Prop
  | .ok r ds => ∀ J H1, Good H1 → Ex H H1 → WalkD K J ds (if r = .bor then H1 else msk om H1) (msk om H1) → ds.length ≤ sizeLine → R J H1
  | .exc e => ∀ H' dd, Good H' → Ex H H' → ExcAt K H' e dd → W (clsOf K e) dd σ H'
  | .bad => False
def SimI (K : PySem.W.Frag) (W : WX) (t : TI) (f : Env → RI) : Prop := ∀ H0 om0 Γ σ H om R, Sta K H0 om0 Γ σ H om → PostI K W om σ H R (f Γ) → t σ H R
theorem YD.next (y : YD K (msk om H) H1 d v H2) (S : Sta K H0 om0 Γ σ H1 om') (e : Ex (msk om H) (msk om' H1)) : Sta K H0 om0 Γ σ H2 om' ∧ Ex H1 H2 ∧ Rep K (msk om' H2) d v := by
  rcases y with ⟨rfl, y⟩ | ⟨T, xs, es, rfl, rfl, hn, rfl, y, hl⟩
  · exact ⟨S, Ex.refl _, Rep.mono e d y⟩
  · have R := newTup S (small hl) hn (RepL.mono e es y)
    exact ⟨S.step R.ex R.good, R.ex, R.val⟩
theorem YD.next2 (y : YD K H H1 d v H2) (S : Sta K H0 om0 Γ σ H1 om') (e : Ex H (msk om' H1)) : Sta K H0 om0 Γ σ H2 om' ∧ Ex H1 H2 ∧ Rep K (msk om' H2) d v := by
  rcases y with ⟨rfl, y⟩ | ⟨T, xs, es, rfl, rfl, hn, rfl, y, hl⟩
  · exact ⟨S, Ex.refl _, Rep.mono e d y⟩
  · have R := newTup S (small hl) hn (RepL.mono e es y)
    exact ⟨S.step R.ex R.good, R.ex, R.val⟩
def forGo (tg : D → Env → Option Env) (fb : Env → Out) : List D → Env → Out
  | [], Γ => .nx Γ
  | d :: ds, Γ => match tg d Γ with
    | none => .bad
    | some Γ1 => match fb Γ1 with
      | .nx Γ2 => forGo tg fb ds Γ2
      | .cnt Γ2 => forGo tg fb ds Γ2
      | .brk Γ2 => .nx Γ2
      | x => x
def forD (fi : Env → RI) (tg : D → Env → Option Env) (fb : Env → Out) : Env → Out := fun Γ => match fi Γ with
  | .ok r ds => if r = .bor then .bad else forGo tg fb ds Γ
  | .exc e => .exc Γ e
  | .bad => .bad
theorem ss_for {wi : TI} {g : TG} {tb : TS} {fi : Env → RI} {tg : D → Env → Option Env} {is : List Nat} {fb : Env → Out} (hi : SimI K W wi fi) (hg : SimG K g tg is) (hb : SimS K W tb fb) : SimS K W (tFor wi g tb) (forD fi tg fb) := fun H0 om0 Γ σ H om D S p => by
  unfold forD at p
  refine hi H0 om0 Γ σ H om _ S ?_
  cases e : fi Γ with
  | exc x =>
    rw [e] at p
    exact fun H' dd g e' a => p σ H' dd (.step S e' g) a
  | bad => rw [e] at p; exact p
  | ok r ds =>
    rw [e] at p
    have p' : PostS K W H0 om0 om H D (if r = .bor then .bad else forGo tg fb ds Γ) := p
    by_cases hr : r = .bor
    · rw [if_pos hr] at p'
      exact p'.elim
    · rw [if_neg hr] at p'
      intro J H1 g1 e1 wk hlen
      rw [if_neg hr] at wk
      have S1 := S.step e1 g1
      refine for_it wk (fun i σ' H' => ∃ om' Γi, Sta K H0 om0 Γi σ' H' om' ∧ Ex (msk om H1) (msk om' H') ∧ PostS K W H0 om0 om' H' D (forGo tg fb (ds.drop i) Γi)) ⟨om, Γ, S1, Ex.refl _, PostS.back p' (mk_ex e1)⟩ ?_ ?_ ?_
      · rintro i σ' H' _ ⟨om', Γi, S', ex, _⟩
        exact ex.trans mk_le
      · rintro i x σ' H' H2 hi ⟨om', Γi, S', ex, q⟩ ⟨d, hd, y⟩
        obtain ⟨S2, ex2, rp⟩ := y.next S' ex
        have hdr : ds.drop i = d :: ds.drop (i + 1) := by
          rw [List.drop_eq_getElem_cons hi]
          rw [List.getElem?_eq_getElem hi] at hd
          rw [Option.some.inj hd]
        rw [hdr] at q
        unfold forGo at q
        cases et : tg d Γi with
        | none => rw [et] at q; exact q.elim
        | some Γ1 =>
          rw [et] at q
          refine hg H0 om0 Γi σ' H2 om' d x Γ1 _ S2 rp et fun σ3 S3 _ => ?_
          refine hb H0 om0 Γ1 σ3 H2 om' _ S3 ?_
          have q2 := PostS.back (om' := om') (H' := H2) q (mk_ex ex2)
          cases eb : fb Γ1 with
          | nx Γ2 =>
            simp only [eb] at q2
            rintro σ4 H4 ⟨om4, S4, ex4⟩
            exact ⟨om4, Γ2, S4, (ex.trans (mk_ex ex2)).trans ex4, PostS.back q2 ex4⟩
          | cnt Γ2 =>
            simp only [eb] at q2
            rintro σ4 H4 ⟨om4, S4, ex4⟩
            exact ⟨om4, Γ2, S4, (ex.trans (mk_ex ex2)).trans ex4, PostS.back q2 ex4⟩
          | brk Γ2 =>
            simp only [eb] at q2
            exact fun σ4 H4 f4 => q2 σ4 H4 f4
          | ret c d => simp only [eb] at q2; exact q2
          | exc Γ2 x => simp only [eb] at q2; exact q2
          | bad => simp only [eb] at q2; exact q2
      · rintro σ' H' ⟨om', Γi, S', ex, q⟩
        rw [List.drop_length] at q
        exact q σ' H' (.refl S')

/-! ### comprehensions -/
inductive RD where
  | ok (ds : List D) | bad
def wipeD (Γ : Env) : List Nat → Env
  | [] => Γ
  | v :: vs => (wipeD Γ vs).set v .no
def lcGo (vs : List Nat) (tg : D → Env → Option Env) (tt fe : Env → RE) (Γ : Env) : List D → RD
  | [] => .ok []
  | d :: ds => match tg d (wipeD Γ vs) with
    | none => .bad
    | some Γ1 => match tt Γ1 with
      | .ok _ (.bl true) => (match fe Γ1 with
        | .ok r x => if r = .bor then .bad else (match lcGo vs tg tt fe Γ ds with
          | .ok xs => .ok (x :: xs)
          | .bad => .bad)
        | _ => .bad)
      | .ok _ (.bl false) => lcGo vs tg tt fe Γ ds
      | _ => .bad
def lcD (vs : List Nat) (fi : Env → RI) (tg : D → Env → Option Env) (tt fe : Env → RE) : Env → RE := fun Γ => match fi Γ with
  | .ok _ ds => (match lcGo vs tg tt fe Γ ds with
    | .ok xs => .ok .fre (.lst xs)
    | .bad => .bad)
  | .exc e => .exc e
  | .bad => .bad
theorem Sta.wipe (S : Sta K H0 om0 Γ σ H om) : ∀ vs : List Nat, Sta K H0 om0 (wipeD Γ vs) (wipe σ vs) H om
  | [] => S
  | i :: vs => by
    have T := S.wipe vs
    unfold wipeD L2.wipe
    refine ⟨by simpa using T.len, T.good, T.base, T.inj, T.dom, fun j a e => ?_, ?_, fun j => ?_⟩
    · rw [List.length_set]; exact T.hid j a e
    · rw [List.length_set]; exact T.bnd
    · by_cases e : i = j
      · subst e
        by_cases hl : i < (wipeD Γ vs).length
        · rw [List.getElem?_set_self hl]
          trivial
        · rw [List.getElem?_eq_none (by rw [List.length_set]; omega)]
          trivial
      · rw [List.getElem?_set_ne e, List.getElem?_set_ne e]
        exact T.slot j
/-- one more thing held alone, beyond the slots -/
theorem Sta.hide (S : Sta K H0 om0 Γ σ H om) {Dl : Addr} {o : HO} (hn : H Dl = none) (g : Good (upd H Dl o)) (h1 : ∀ xs, o ≠ .tup xs) (h2 : ∀ ob u, o ≠ .frz ob u) :
    ∃ om', Sta K H0 om0 Γ σ (upd H Dl o) om' ∧ Ex (msk om H) (msk om' (upd H Dl o)) ∧ (∀ G, msk om' G = msk om (dl G Dl)) ∧ (∃ j, om' j = some Dl) := by
  obtain ⟨n, n1, n2⟩ := S.bnd
  have ex1 : Ex H (upd H Dl o) := Ex.new hn
  have hm : ∀ G, msk (fun j => if j = n then some Dl else om j) G = msk om (dl G Dl) := fun G => by
    funext b
    by_cases hb : b = Dl
    · subst hb
      rw [mk_own (i := n) (if_pos rfl)]
      unfold msk dl
      split
      · rfl
      · rw [if_pos rfl]
    · by_cases hx : ∃ i, om i = some b
      · obtain ⟨i, hi⟩ := hx
        have hin : i ≠ n := fun z => by rw [z, n2 n (Nat.le_refl _)] at hi; cases hi
        rw [mk_own (i := i) (by rw [if_neg hin]; exact hi), mk_own hi]
      · have hx' : ∀ i, om i ≠ some b := fun i z => hx ⟨i, z⟩
        rw [mk_at hx', mk_at fun i z => ?_]
        · unfold dl
          rw [if_neg hb]
        · have z2 : (if i = n then some Dl else om i) = some b := z
          by_cases hin : i = n
          · rw [if_pos hin] at z2
            exact hb (Option.some.inj z2).symm
          · rw [if_neg hin] at z2
            exact hx' i z2
  have ex : Ex (msk om H) (msk (fun j => if j = n then some Dl else om j) (upd H Dl o)) := by
    rw [hm]
    exact mk_ex (dl_new ex1 hn)
  refine ⟨fun j => if j = n then some Dl else om j, ⟨S.len, g, S.base.trans ex1, fun i j a e1 e2 => ?_, fun i a e => ?_, fun i a e => ?_, ⟨n + 1, by omega, fun i hi => ?_⟩, fun i => ?_⟩, ex, hm, n, if_pos rfl⟩
  · by_cases h1 : i = n
    · by_cases h2 : j = n
      · rw [h1, h2]
      · rw [if_pos h1] at e1
        rw [if_neg h2] at e2
        cases e1
        exact absurd e2 (S.fresh hn _)
    · by_cases h2 : j = n
      · rw [if_neg h1] at e1
        rw [if_pos h2] at e2
        cases e2
        exact absurd e1 (S.fresh hn _)
      · rw [if_neg h1] at e1
        rw [if_neg h2] at e2
        exact S.inj _ _ _ e1 e2
  · by_cases hi : i = n
    · rw [if_pos hi] at e
      cases e
      exact ⟨o, upd_same, h1, h2⟩
    · rw [if_neg hi] at e
      obtain ⟨o', p1, p2⟩ := S.dom i a e
      exact ⟨o', ex1 _ _ p1, p2⟩
  · show (if Γ.length + i = n then some Dl else om (Γ.length + i)) = some a
    have z := S.hid i a e
    rw [if_neg fun q => by rw [q, n2 n (Nat.le_refl _)] at z; cases z]
    exact z
  · show (if i = n then some Dl else om i) = none
    rw [if_neg (by omega)]
    exact n2 i (by omega)
  · have q := S.slot i
    cases hs : Γ[i]? with
    | none => trivial
    | some s =>
      rw [hs] at q
      cases s with
      | no => trivial
      | sh d' =>
        obtain ⟨v', q1, q2⟩ := q
        exact ⟨v', q1, Rep.mono ex d' q2⟩
      | ow d' =>
        obtain ⟨b, q1, q2, q3, q4⟩ := q
        refine ⟨b, ?_, q2, q3, q4.mono ex fun o => ex1 b o⟩
        show (if i = n then some Dl else om i) = some b
        rw [if_neg fun z => by rw [z, n2 n (Nat.le_refl _)] at q1; cases q1]
        exact q1
theorem lcGo_cons {vs : List Nat} {tg : D → Env → Option Env} {tt fe : Env → RE} {Γ Γ1 : Env} {d : D} {ds : List D} (e : tg d (wipeD Γ vs) = some Γ1) : lcGo vs tg tt fe Γ (d :: ds) = (match tt Γ1 with
      | .ok _ (.bl true) => (match fe Γ1 with
        | .ok r x => if r = .bor then .bad else (match lcGo vs tg tt fe Γ ds with
          | .ok xs => .ok (x :: xs)
          | .bad => .bad)
        | _ => .bad)
      | .ok _ (.bl false) => lcGo vs tg tt fe Γ ds
      | _ => .bad) := by
  show (match tg d (wipeD Γ vs) with | none => _ | some Γ1 => _) = _
  rw [e]
/-- no exception leaves a comprehension -/
abbrev WF : WX := fun _ _ _ _ => False
theorem wipe_wipe {σ : L2.St} {vs : List Nat} : ∀ {ws : List Nat}, (∀ i ∈ ws, i ∈ vs) → wipe (wipe σ ws) vs = wipe σ vs
  | [], _ => rfl
  | i :: ws, h => by
    show wipe ((wipe σ ws).set i none) vs = _
    rw [wipe_set (h i List.mem_cons_self), wipe_wipe fun j hj => h j (List.mem_cons_of_mem _ hj)]
theorem se_lc {wi : TI} {g : TG} {tt : TT} {te : TE} {vs is : List Nat} {fi : Env → RI} {tg : D → Env → Option Env} {ft fe : Env → RE} (hi : SimI K W wi fi) (hg : SimG K g tg is) (hv : ∀ i ∈ is, i ∈ vs) (ht : SimT K WF tt ft) (he : SimE K WF te fe) :
    SimE K W (tLc wi g tt te vs) (lcD vs fi tg ft fe) := fun H0 om0 Γ σ H om Q S p => by
  unfold lcD at p
  refine hi H0 om0 Γ σ H om _ S ?_
  cases e : fi Γ with
  | exc x => rw [e] at p; exact p
  | bad => rw [e] at p; exact p
  | ok r ds =>
    simp only [e] at p
    intro J H1 g1 e1 wk hlen Dl hD
    have S1 := S.step e1 g1
    obtain ⟨om', S2, ex2, hm, ⟨jD, hjD⟩⟩ := S1.hide (Dl := Dl) (o := .lst []) hD (g1.lst (Nat.zero_le _)) (fun _ z => nomatch z) (fun _ _ z => nomatch z)
    have eH : Ex H1 (upd H1 Dl (.lst [])) := Ex.new hD
    cases eg : lcGo vs tg ft fe Γ ds with
    | bad => rw [eg] at p; exact p.elim
    | ok out =>
      simp only [eg] at p
      refine lc_it wk (fun i H' => Ex H1 H' ∧ Good H' ∧ ∃ acc dacc rest, H' Dl = some (.lst acc) ∧ acc.length ≤ i ∧ RepL K (msk om' H') dacc acc ∧ lcGo vs tg ft fe Γ (ds.drop i) = .ok rest ∧ out = dacc ++ rest)
        ⟨eH, S2.good, [], [], out, upd_same, Nat.le_refl _, repL_nil, eg, rfl⟩ ?_ ?_ ?_
      · rintro i H' _ ⟨ex, _⟩
        by_cases hr : r = .bor
        · rw [if_pos hr]
          exact ex
        · rw [if_neg hr]
          exact mk_le.trans ex
      · rintro i x H' H2 hi ⟨ex, gd, acc, dacc, rest, hacc, hal, hrep, hgo, hout⟩ ⟨d, hd, y⟩
        -- the state in the block
        have dom' : ∀ j a, om' j = some a → ∃ o, H' a = some o ∧ (∀ xs, o ≠ .tup xs) ∧ ∀ ob u, o ≠ .frz ob u := fun j a z => by
          obtain ⟨o, q1, q2, q3⟩ := S2.dom j a z
          by_cases ha : a = Dl
          · subst ha
            exact ⟨_, hacc, fun _ z => (nomatch z), fun _ _ z => (nomatch z)⟩
          · rw [upd_ne ha] at q1
            exact ⟨o, ex _ _ q1, q2, q3⟩
        have exm : Ex (msk om H1) (msk om' H') := by
          rw [hm]
          exact mk_ex (dl_new ex hD)
        have S3 : Sta K H0 om0 Γ σ H' om' := by
          refine ⟨S2.len, gd, S1.base.trans ex, S2.inj, dom', S2.hid, S2.bnd, fun j => ?_⟩
          have q := S2.slot j
          cases hs : Γ[j]? with
          | none => trivial
          | some s =>
            rw [hs] at q
            cases s with
            | no => trivial
            | sh d' =>
              obtain ⟨v', q1, q2⟩ := q
              refine ⟨v', q1, ?_⟩
              obtain ⟨v2, q3, q4⟩ := S1.sh hs
              have ev : v' = v2 := by
                rw [q1] at q3
                exact Option.some.inj (Option.some.inj q3)
              rw [ev]
              exact Rep.mono exm d' q4
            | ow d' =>
              obtain ⟨b, q1, q2, q3, q4⟩ := q
              obtain ⟨b2, z1, z2, z3, z4⟩ := S1.ow hs
              have eb : b = b2 := by
                rw [q2] at z2
                injection z2 with z2
                injection z2 with z2
                injection z2
              subst eb
              exact ⟨b, q1, q2, q3, z4.mono exm fun o => ex b o⟩
        have S4 := S3.wipe vs
        obtain ⟨S5, ex5, rp⟩ := y.next S4 exm
        have hdr : ds.drop i = d :: ds.drop (i + 1) := by
          rw [List.drop_eq_getElem_cons hi]
          rw [List.getElem?_eq_getElem hi] at hd
          rw [Option.some.inj hd]
        rw [hdr] at hgo
        cases et : tg d (wipeD Γ vs) with
        | none =>
          unfold lcGo at hgo
          rw [et] at hgo
          cases hgo
        | some Γ1 =>
          rw [lcGo_cons et] at hgo
          refine hg H0 om0 _ _ H2 om' d x Γ1 _ S5 rp et fun σ2 S6 w6 => ⟨?_, ?_⟩
          · rw [w6 vs hv, wipe_wipe fun _ h => h]
          refine ht H0 om0 Γ1 σ2 H2 om' _ S6 ?_
          cases eft : ft Γ1 with
          | exc x => rw [eft] at hgo; cases hgo
          | bad => rw [eft] at hgo; cases hgo
          | ok r1 d1 =>
            rw [eft] at hgo
            cases d1 with
            | bl b =>
              intro H3 g3 e3
              cases b with
              | true =>
                rw [if_pos rfl]
                have S7 := S6.step e3 g3
                refine he H0 om0 Γ1 σ2 H3 om' _ S7 ?_
                cases efe : fe Γ1 with
                | exc x => simp only [efe] at hgo; cases hgo
                | bad => simp only [efe] at hgo; cases hgo
                | ok r2 d2 =>
                  simp only [efe] at hgo
                  by_cases hr2 : r2 = .bor
                  · rw [if_pos hr2] at hgo; cases hgo
                  · rw [if_neg hr2] at hgo
                    cases erest : lcGo vs tg ft fe Γ (ds.drop (i + 1)) with
                    | bad => rw [erest] at hgo; cases hgo
                    | ok rest2 =>
                      rw [erest] at hgo
                      have erest' : d2 :: rest2 = rest := by
                        injection hgo
                      intro v4 H4 R4
                      have ex4 : Ex H' H4 := (ex5.trans e3).trans R4.ex
                      have hz : acc.length < sizeLine := Nat.lt_of_le_of_lt hal (Nat.lt_of_lt_of_le hi hlen)
                      have hrp := R4.shr S7 hr2
                      refine ⟨acc, ex4 _ _ hacc, hz, fun a o q => ?_, R4.good.lst (by simp only [List.length_append, List.length_cons, List.length_nil]; omega), acc ++ [v4], dacc ++ [d2], rest2, upd_same, by simp only [List.length_append, List.length_cons, List.length_nil]; omega, ?_, rfl, by rw [hout, ← erest']; simp⟩
                      · rw [upd_ne (ne_of_none q hD)]
                        exact ex4 _ _ (ex _ _ q)
                      · have em : msk om' (upd H4 Dl (.lst (acc ++ [v4]))) = msk om' H4 := by
                          rw [hm, hm]
                          congr 1
                          funext b
                          unfold dl
                          by_cases hb : b = Dl
                          · rw [if_pos hb, if_pos hb]
                          · rw [if_neg hb, if_neg hb, upd_ne hb]
                        rw [em]
                        exact RepL.snoc hrp (RepL.mono (mk_ex ex4) dacc hrep)
              | false =>
                rw [if_neg Bool.false_ne_true]
                have ex4 : Ex H' H3 := ex5.trans e3
                exact ⟨ex.trans ex4, g3, acc, dacc, rest, ex4 _ _ hacc, by omega, RepL.mono (mk_ex ex4) dacc hrep, hgo, hout⟩
            | _ => cases hgo
      · rintro H' ⟨ex, gd, acc, dacc, rest, hacc, hal, hrep, hgo, hout⟩
        rw [List.drop_length] at hgo
        have hr : rest = [] := by
          have : lcGo vs tg ft fe Γ [] = .ok [] := rfl
          rw [this] at hgo
          injection hgo with z
          exact z.symm
        subst hr
        rw [List.append_nil] at hout
        subst hout
        refine p (.ref Dl) H' (RV.back ⟨gd, ex, Dl, rfl, hD, acc, hacc, ?_⟩ e1)
        rw [← hm]
        exact hrep
end
end VL

namespace VL
open PySem PySem.Spec PyProof.Rows L2
section
variable {K : PySem.W.Frag} {W : WX} {H0 : Hp} {om0 om om' : Nat → Option Addr} {Γ Γ' : Env} {σ σ' : L2.St} {H H' H1 H2 : Hp} {d : D} {v : V} {r : Rt} {X : Cx}
/-! ### what stands for what -/
theorem Opd.int {i : Int} (h : Opd K om H (.int i) v) : v = .int i := by have := h.rep; simpa only [Rep] using this
theorem Opd.str {x : Str} (h : Opd K om H (.str x) v) : v = .str x := by have := h.rep; simpa only [Rep] using this
theorem Opd.bl {b : Bool} (h : Opd K om H (.bl b) v) : v = .bl b := by have := h.rep; simpa only [Rep] using this
theorem Opd.non (h : Opd K om H .non v) : v = .non := by have := h.rep; simpa only [Rep] using this
theorem Opd.ty {n : String} (h : Opd K om H (.ty n) v) : v = .ty n := by have := h.rep; simpa only [Rep] using this
theorem Opd.lst {ds : List D} (h : Opd K om H (.lst ds) v) : ∃ a vs, v = .ref a ∧ H a = some (.lst vs) ∧ RepL K (msk om H) ds vs := by
  rcases h with h | ⟨a, rfl, vs, h1, h2⟩
  · simp only [Rep] at h
    obtain ⟨a, vs, h1, h2, h3⟩ := h
    exact ⟨a, vs, h1, mk_le _ _ h2, h3⟩
  · exact ⟨a, vs, rfl, h1, h2⟩
theorem Opd.tupR {ds : List D} (h : Opd K om H (.tup ds) v) : Rep K (msk om H) (.tup ds) v := by
  rcases h with h | ⟨a, rfl, h⟩
  · exact h
  · exact h.elim
theorem Opd.tup {ds : List D} (h : Opd K om H (.tup ds) v) : ∃ a vs, v = .ref a ∧ TqT K H a vs ∧ RepL K (msk om H) ds vs := by
  have h := h.tupR
  simp only [Rep] at h
  obtain ⟨a, vs, h1, h2, h3⟩ := h
  exact ⟨a, vs, h1, h2.mono mk_le, h3⟩
theorem Opd.scr {ns : List Int} (h : Opd K om H (.scr ns) v) : ∃ a, v = .ref a ∧ SqL K H a (ns.map V.int) := by
  have h := h.rep
  simp only [Rep] at h
  obtain ⟨a, h1, ⟨o, h2⟩ | h2⟩ := h
  · exact ⟨a, h1, .inl (.inr ⟨o, h2⟩)⟩
  · exact ⟨a, h1, h2 H⟩
theorem rv_at (S : Sta K H0 om0 Γ σ H om) (h : ∀ G : Hp, Rep K G d v) : RV K H0 om H .shr d v H := ⟨S.good, Ex.refl H, h _⟩
theorem rv_int (S : Sta K H0 om0 Γ σ H om) {i : Int} : RV K H0 om H .shr (.int i) (.int i) H := rv_at S fun _ => by simp only [Rep]
theorem rv_bl (S : Sta K H0 om0 Γ σ H om) {b : Bool} : RV K H0 om H .shr (.bl b) (.bl b) H := rv_at S fun _ => by simp only [Rep]
theorem rv_str (S : Sta K H0 om0 Γ σ H om) {x : Str} : RV K H0 om H .shr (.str x) (.str x) H := rv_at S fun _ => by simp only [Rep]

/-! ### numbers -/
def intD (c : Int → Int → Prop) [∀ i j, Decidable (c i j)] (g : Int → Int → D) : D → D → RE := fun a b => match a, b with
  | .int i, .int j => if c i j then .ok .shr (g i j) else .bad
  | _, _ => .bad
theorem os_int {c : Int → Int → Prop} [∀ i j, Decidable (c i j)] {g : Int → Int → D} {g' : Int → Int → V} (hg : ∀ i j (G : Hp), Rep K G (g i j) (g' i j)) : OpSim K (rI c g') (intD c g) := fun H0 om0 Γ σ H om a b va vb Q S oa ob p => by
  unfold intD at p
  cases a with
  | int i =>
    cases b with
    | int j =>
      by_cases hc : c i j
      · simp only [if_pos hc] at p
        exact ⟨i, j, oa.int, ob.int, hc, p _ H (rv_at S (hg i j))⟩
      · simp only [if_neg hc] at p
    | _ => exact p.elim
  | _ => exact p.elim
instance (i j : Int) : Decidable (CMul i j) := by unfold CMul; infer_instance
instance (i j : Int) : Decidable (CDiv i j) := by unfold CDiv; infer_instance
instance (i j : Int) : Decidable (CDivN i j) := by unfold CDivN; infer_instance
instance (i j : Int) : Decidable (CPow i j) := by unfold CPow; infer_instance
def subD : D → D → RE := intD (fun _ _ => True) fun i j => .int (i - j)
def mulD : D → D → RE := intD CMul fun i j => .int (i * j)
def fdivD : D → D → RE := intD CDiv fun i j => .int (i / j)
def modD : D → D → RE := intD (fun _ j => 0 < j) fun i j => .int (i % j)
def powD : D → D → RE := intD CPow fun i j => .int (i ^ j.toNat)
def ltD : D → D → RE := intD (fun _ _ => True) fun i j => .bl (decide (i < j))
def leD : D → D → RE := intD (fun _ _ => True) fun i j => .bl (decide (i ≤ j))
def gtD : D → D → RE := intD (fun _ _ => True) fun i j => .bl (decide (j < i))
def geD : D → D → RE := intD (fun _ _ => True) fun i j => .bl (decide (j ≤ i))
theorem OpR.c {f : Value → Value → Sem Value} {g : Int → Int → V} (h : OpR X f (rI0 g)) : OpR X f (rI (fun _ _ => True) g) := fun pins s σ H x y v u Q I rx ry q => by
  obtain ⟨i, j, h1, h2, _, q⟩ := q
  exact h pins s σ H x y v u Q I rx ry ⟨i, j, h1, h2, q⟩
theorem os_sub : OpSim K (rI (fun _ _ => True) fun i j => .int (i - j)) subD := os_int fun _ _ _ => by simp only [Rep]
theorem os_mul : OpSim K (rI CMul fun i j => .int (i * j)) mulD := os_int fun _ _ _ => by simp only [Rep]
theorem os_fdiv : OpSim K (rI CDiv fun i j => .int (i / j)) fdivD := os_int fun _ _ _ => by simp only [Rep]
theorem os_mod : OpSim K (rI (fun _ j => 0 < j) fun i j => .int (i % j)) modD := os_int fun _ _ _ => by simp only [Rep]
theorem os_pow : OpSim K (rI CPow fun i j => .int (i ^ j.toNat)) powD := os_int fun _ _ _ => by simp only [Rep]
theorem os_lt : OpSim K (rI (fun _ _ => True) fun i j => .bl (decide (i < j))) ltD := os_int fun _ _ _ => by simp only [Rep]
theorem os_le : OpSim K (rI (fun _ _ => True) fun i j => .bl (decide (i ≤ j))) leD := os_int fun _ _ _ => by simp only [Rep]
theorem os_gt : OpSim K (rI (fun _ _ => True) fun i j => .bl (decide (j < i))) gtD := os_int fun _ _ _ => by simp only [Rep]
theorem os_ge : OpSim K (rI (fun _ _ => True) fun i j => .bl (decide (j ≤ i))) geD := os_int fun _ _ _ => by simp only [Rep]
def negD : D → RE := fun a => match a with | .int i => .ok .shr (.int (-i)) | _ => .bad
theorem us_neg : UnSim K (rU fun i => .int (-i)) negD := fun H0 om0 Γ σ H om a va Q S oa p => by
  unfold negD at p
  cases a with
  | int i => exact ⟨i, oa.int, p _ H (rv_int S)⟩
  | _ => exact p.elim

/-! ### + and * -/
def rStrAdd : R2 := fun x y H Q => ∃ i j, x = .str i ∧ y = .str j ∧ i.length + j.length ≤ sizeLine ∧ Q (.str (i ++ j)) H
def rAddX (K : PySem.W.Frag) : R2 := fun x y H Q => (rI0 (fun i j => .int (i + j))) x y H Q ∨ rStrAdd x y H Q ∨ rCat x y H Q ∨ rCatA K x y H Q
theorem op_addX : OpR X (binaryOp .Add) (rAddX X.K) := OpR.or op_add (OpR.or op_add_str (OpR.or op_cat op_catA))
def addD : D → D → RE := fun a b => match a, b with
  | .int i, .int j => .ok .shr (.int (i + j))
  | .str x, .str y => if x.length + y.length ≤ sizeLine then .ok .shr (.str (x ++ y)) else .bad
  | .lst x, .lst y => if x.length + y.length ≤ sizeLine then .ok .fre (.lst (x ++ y)) else .bad
  | .tup x, .tup y => if x.length + y.length ≤ sizeLine then .ok .shr (.tup (x ++ y)) else .bad
  | _, _ => .bad
theorem os_add : OpSim K (rAddX K) addD := fun H0 om0 Γ σ H om a b va vb Q S oa ob p => by
  unfold addD at p
  cases a with
  | int i =>
    cases b with
    | int j => exact .inl ⟨i, j, oa.int, ob.int, p _ H (rv_int S)⟩
    | _ => exact p.elim
  | str x =>
    cases b with
    | str y =>
      by_cases hc : x.length + y.length ≤ sizeLine
      · simp only [if_pos hc] at p
        exact .inr (.inl ⟨x, y, oa.str, ob.str, hc, p _ H (rv_str S)⟩)
      · simp only [if_neg hc] at p
    | _ => exact p.elim
  | lst x =>
    cases b with
    | lst y =>
      by_cases hc : x.length + y.length ≤ sizeLine
      · simp only [if_pos hc] at p
        obtain ⟨a, vs, e1, h1, r1⟩ := oa.lst
        obtain ⟨b, ws, e2, h2, r2⟩ := ob.lst
        have hl : vs.length + ws.length ≤ sizeLine := by rw [← r1.len, ← r2.len]; exact hc
        exact .inr (.inr (.inl ⟨a, b, vs, ws, e1, e2, h1, h2, hl, fun q hq => p _ _ (newLst S (by rw [List.length_append]; exact hl) hq (r1.append r2))⟩))
      · simp only [if_neg hc] at p
    | _ => exact p.elim
  | tup x =>
    cases b with
    | tup y =>
      by_cases hc : x.length + y.length ≤ sizeLine
      · simp only [if_pos hc] at p
        obtain ⟨a, vs, e1, h1, r1⟩ := oa.tup
        obtain ⟨b, ws, e2, h2, r2⟩ := ob.tup
        have hl : vs.length + ws.length ≤ sizeLine := by rw [← r1.len, ← r2.len]; exact hc
        refine .inr (.inr (.inr ⟨a, b, vs, ws, e1, e2, h1.sq, h2.sq, hl, fun z => ?_, fun _ z => ?_, fun _ _ q hq => p _ _ (newTup S (by rw [List.length_append]; exact hl) hq (r1.append r2))⟩))
        · have hx : x = [] := by
            have := r1.len
            rw [z] at this
            exact List.eq_nil_of_length_eq_zero this
          subst hx
          rw [← e2]
          exact p _ H ⟨S.good, Ex.refl H, ob.tupR⟩
        · have hy : y = [] := by
            have := r2.len
            rw [z] at this
            exact List.eq_nil_of_length_eq_zero this
          subst hy
          rw [List.append_nil] at p
          rw [← e1]
          exact p _ H ⟨S.good, Ex.refl H, oa.tupR⟩
      · simp only [if_neg hc] at p
    | _ => exact p.elim
  | _ => exact p.elim

/-! ### == -/
mutual
def D.py : D → PyData
  | .bl b => .bool b
  | .int i => .int i
  | .str x => .str x
  | .tup ds => .tuple (pyL ds)
  | .lst ds => .list (pyL ds)
  | _ => .none
def pyL : List D → List PyData
  | [] => []
  | d :: ds => d.py :: pyL ds
end
mutual
/-- data that == reads: flat things and sequences of them, at most n deep -/
def D.pk : Nat → D → Bool
  | _, .non => true
  | _, .bl _ => true
  | _, .int _ => true
  | _, .str x => PyData.strOk x
  | n + 1, .tup ds => pkL n ds
  | n + 1, .lst ds => pkL n ds
  | _, _ => false
def pkL : Nat → List D → Bool
  | _, [] => true
  | n, d :: ds => D.pk n d && pkL n ds
end
theorem pkL_all {n : Nat} : ∀ ds : List D, pkL n ds = ds.all (D.pk n)
  | [] => by simp only [pkL, List.all_nil]
  | d :: ds => by simp only [pkL, List.all_cons, pkL_all ds]
mutual
theorem pk_lay : ∀ (n : Nat) (d : D), d.pk n = true → d.py.canLay0 = true ∧ d.py.depth ≤ n
  | _, .non, _ => by simp only [D.py, PyData.canLay0, PyData.depth]; exact ⟨trivial, Nat.zero_le _⟩
  | _, .bl _, _ => by simp only [D.py, PyData.canLay0, PyData.depth]; exact ⟨trivial, Nat.zero_le _⟩
  | _, .int _, _ => by simp only [D.py, PyData.canLay0, PyData.depth]; exact ⟨trivial, Nat.zero_le _⟩
  | _, .str x, h => by simp only [D.pk] at h; simp only [D.py, PyData.canLay0, PyData.depth]; exact ⟨h, Nat.zero_le _⟩
  | n + 1, .tup ds, h => by
    simp only [D.pk] at h
    obtain ⟨h1, h2⟩ := pkL_lay n ds h
    simp only [D.py, PyData.canLay0, PyData.depth]
    exact ⟨h1, by omega⟩
  | n + 1, .lst ds, h => by
    simp only [D.pk] at h
    obtain ⟨h1, h2⟩ := pkL_lay n ds h
    simp only [D.py, PyData.canLay0, PyData.depth]
    exact ⟨h1, by omega⟩
  | 0, .tup _, h => by simp [D.pk] at h
  | 0, .lst _, h => by simp [D.pk] at h
  | _, .dK _ _, h => by simp [D.pk] at h
  | _, .dT _ _, h => by simp [D.pk] at h
  | _, .scr _, h => by simp [D.pk] at h
  | _, .ty _, h => by simp [D.pk] at h
  | _, .adr _, h => by simp [D.pk] at h
theorem pkL_lay : ∀ (n : Nat) (ds : List D), pkL n ds = true → PyData.canLayAll0 (pyL ds) = true ∧ PyData.depthAll (pyL ds) ≤ n
  | _, [], _ => by simp only [pyL, PyData.canLayAll0, PyData.depthAll]; exact ⟨trivial, Nat.zero_le _⟩
  | n, d :: ds, h => by
    simp only [pkL, Bool.and_eq_true] at h
    obtain ⟨h1, h2⟩ := pk_lay n d h.1
    obtain ⟨h3, h4⟩ := pkL_lay n ds h.2
    simp only [pyL, PyData.canLayAll0, PyData.depthAll, Bool.and_eq_true]
    exact ⟨⟨h1, h3⟩, by omega⟩
end
mutual
theorem Rep.dp {G : Hp} (e : Ex G H) : ∀ (n : Nat) (d : D) {v : V}, d.pk n = true → Rep K G d v → Dp K H v d.py
  | _, .non, _, _, h => by simp only [Rep] at h; subst h; simp only [D.py]; exact .non
  | _, .bl b, _, _, h => by simp only [Rep] at h; subst h; simp only [D.py]; exact .bl b
  | _, .int i, _, _, h => by simp only [Rep] at h; subst h; simp only [D.py]; exact .int i
  | _, .str x, _, _, h => by simp only [Rep] at h; subst h; simp only [D.py]; exact .str x
  | n + 1, .tup ds, _, p, h => by
    simp only [Rep] at h
    simp only [D.pk] at p
    obtain ⟨a, vs, rfl, h1, h2⟩ := h
    simp only [D.py]
    exact .tup (h1.mono e).sq (RepL.dp e n ds p h2)
  | n + 1, .lst ds, _, p, h => by
    simp only [Rep] at h
    simp only [D.pk] at p
    obtain ⟨a, vs, rfl, h1, h2⟩ := h
    simp only [D.py]
    exact .lst (.inl (.inl (e _ _ h1))) (RepL.dp e n ds p h2)
  | 0, .tup _, _, h, _ => by simp [D.pk] at h
  | 0, .lst _, _, h, _ => by simp [D.pk] at h
  | _, .dK _ _, _, h, _ => by simp [D.pk] at h
  | _, .dT _ _, _, h, _ => by simp [D.pk] at h
  | _, .scr _, _, h, _ => by simp [D.pk] at h
  | _, .ty _, _, h, _ => by simp [D.pk] at h
  | _, .adr _, _, h, _ => by simp [D.pk] at h
theorem RepL.dp {G : Hp} (e : Ex G H) : ∀ (n : Nat) (ds : List D) {vs : List V}, pkL n ds = true → RepL K G ds vs → DpAll K H vs (pyL ds)
  | _, [], _, _, h => by rw [repL_nil_inv h]; simp only [pyL]; exact .nil
  | n, d :: ds, _, p, h => by
    simp only [pkL, Bool.and_eq_true] at p
    obtain ⟨v, r, rfl, h2, h3⟩ := repL_cons_inv h
    simp only [pyL]
    exact .cons (Rep.dp e n d p.1 h2) (RepL.dp e n ds p.2 h3)
end
theorem shaped_of {n : Nat} {d : D} (h : d.pk n = true) (hn : n ≤ 64) : SeqAt.shaped d.py = true := by
  obtain ⟨h1, h2⟩ := pk_lay n d h
  unfold SeqAt.shaped
  rw [h1, Bool.true_and]
  exact decide_eq_true (by omega)
def eqD : D → D → RE := fun a b => if a.pk 20 = true ∧ b.pk 20 = true then .ok .shr (.bl (PyData.eqv a.py b.py)) else .bad
def neD : D → D → RE := fun a b => if a.pk 20 = true ∧ b.pk 20 = true then .ok .shr (.bl (!PyData.eqv a.py b.py)) else .bad
theorem os_eq : OpSim K (rEqD K) eqD := fun H0 om0 Γ σ H om a b va vb Q S oa ob p => by
  unfold eqD at p
  by_cases hc : a.pk 20 = true ∧ b.pk 20 = true
  · simp only [if_pos hc] at p
    exact ⟨a.py, b.py, Rep.dp (Ex.refl H) 20 a hc.1 oa.rep, Rep.dp (Ex.refl H) 20 b hc.2 ob.rep, shaped_of hc.1 (by decide), shaped_of hc.2 (by decide), p _ H (rv_bl S)⟩
  · simp only [if_neg hc] at p
theorem os_ne : OpSim K (rNeD K) neD := fun H0 om0 Γ σ H om a b va vb Q S oa ob p => by
  unfold neD at p
  by_cases hc : a.pk 20 = true ∧ b.pk 20 = true
  · simp only [if_pos hc] at p
    exact ⟨a.py, b.py, Rep.dp (Ex.refl H) 20 a hc.1 oa.rep, Rep.dp (Ex.refl H) 20 b hc.2 ob.rep, shaped_of hc.1 (by decide), shaped_of hc.2 (by decide), p _ H (rv_bl S)⟩
  · simp only [if_neg hc] at p

/-! ### in -/
def D.flat : D → Bool
  | .non => true
  | .bl _ => true
  | .int _ => true
  | .str _ => true
  | _ => false
def D.eqf : D → D → Bool
  | .non, .non => true
  | .bl a, .bl b => a == b
  | .bl a, .int b => (if a then 1 else 0) == b
  | .int a, .bl b => a == (if b then 1 else 0)
  | .int a, .int b => a == b
  | .str a, .str b => a == b
  | _, _ => false
theorem Rep.flatV {G : Hp} (h : Rep K G d v) (f : d.flat = true) : L2.flatV v = true := by
  cases d with
  | non => simp only [Rep] at h; subst h; rfl
  | bl b => simp only [Rep] at h; subst h; rfl
  | int i => simp only [Rep] at h; subst h; rfl
  | str x => simp only [Rep] at h; subst h; rfl
  | _ => cases f
theorem flat_cases {P : D → Prop} (d : D) (f : d.flat = true) (h1 : P .non) (h2 : ∀ b, P (.bl b)) (h3 : ∀ i, P (.int i)) (h4 : ∀ x, P (.str x)) : P d := by
  cases d with
  | non => exact h1
  | bl b => exact h2 b
  | int i => exact h3 i
  | str x => exact h4 x
  | _ => cases f
theorem Rep.eqV {G G' : Hp} {d' : D} {v' : V} (h : Rep K G d v) (h' : Rep K G' d' v') (f : d.flat = true) (f' : d'.flat = true) : L2.eqV v v' = d.eqf d' := by
  revert h h'
  refine flat_cases (P := fun d => Rep K G d v → Rep K G' d' v' → L2.eqV v v' = d.eqf d') d f ?_ ?_ ?_ ?_ <;>
    (intros; refine flat_cases (P := fun d' => Rep K G' d' v' → L2.eqV v v' = D.eqf _ d') d' f' ?_ ?_ ?_ ?_ (by assumption) <;> (intros; simp only [Rep] at *; subst_vars; rfl))
theorem RepL.flat {G : Hp} : ∀ {ds : List D} {vs : List V}, RepL K G ds vs → ds.all D.flat = true → vs.all L2.flatV = true
  | [], _, h, _ => by rw [repL_nil_inv h]; rfl
  | d :: ds, _, h, f => by
    obtain ⟨v, r, rfl, h2, h3⟩ := repL_cons_inv h
    simp only [List.all_cons, Bool.and_eq_true] at f ⊢
    exact ⟨h2.flatV f.1, RepL.flat h3 f.2⟩
theorem RepL.inV {G G' : Hp} (h' : Rep K G' d v) (f' : d.flat = true) : ∀ {ds : List D} {vs : List V}, RepL K G ds vs → ds.all D.flat = true → L2.inV v vs = ds.any (fun y => y.eqf d)
  | [], _, h, _ => by rw [repL_nil_inv h]; rfl
  | e :: ds, _, h, f => by
    obtain ⟨w, r, rfl, h2, h3⟩ := repL_cons_inv h
    simp only [List.all_cons, Bool.and_eq_true] at f
    have ih := RepL.inV h' f' h3 f.2
    unfold L2.inV at ih ⊢
    rw [List.any_cons, List.any_cons, ih, Rep.eqV h2 h' f.1 f']
def inD (neg : Bool) : D → D → RE := fun a b => match b with
  | .lst ds => if a.flat = true ∧ ds.all D.flat = true then .ok .shr (.bl (if neg then !ds.any (fun y => y.eqf a) else ds.any (fun y => y.eqf a))) else .bad
  | .tup ds => if a.flat = true ∧ ds.all D.flat = true then .ok .shr (.bl (if neg then !ds.any (fun y => y.eqf a) else ds.any (fun y => y.eqf a))) else .bad
  | _ => .bad
theorem os_in {neg : Bool} : OpSim K (rIn K neg) (inD neg) := fun H0 om0 Γ σ H om a b va vb Q S oa ob p => by
  unfold inD at p
  cases b with
  | lst ds =>
    by_cases hc : a.flat = true ∧ ds.all D.flat = true
    · simp only [if_pos hc] at p
      obtain ⟨q, vs, e, h1, r1⟩ := ob.lst
      refine ⟨q, vs, e, .inl (.inl (.inl h1)), oa.rep.flatV hc.1, r1.flat hc.2, ?_⟩
      rw [RepL.inV oa.rep hc.1 r1 hc.2]
      exact p _ H (rv_bl S)
    · simp only [if_neg hc] at p
  | tup ds =>
    by_cases hc : a.flat = true ∧ ds.all D.flat = true
    · simp only [if_pos hc] at p
      obtain ⟨q, vs, e, h1, r1⟩ := ob.tup
      refine ⟨q, vs, e, .inr h1.sq, oa.rep.flatV hc.1, r1.flat hc.2, ?_⟩
      rw [RepL.inV oa.rep hc.1 r1 hc.2]
      exact p _ H (rv_bl S)
    · simp only [if_neg hc] at p
  | _ => exact p.elim

/-! ### is None -/
def isND (neg : Bool) : D → D → RE := fun a b => match b with
  | .non => (match a with
    | .non => .ok .shr (.bl (!neg))
    | _ => .ok .shr (.bl neg))
  | _ => .bad
def rIsNX (neg : Bool) : R2 := fun x y H Q => y = .non ∧ Q (.bl (if neg then !decide (x = .non) else decide (x = .non))) H
theorem op_isNX : OpR X (compareOp .Is) (rIsNX false) := op_isN
theorem op_notNX : OpR X (compareOp .IsNot) (rIsNX true) := op_notN
theorem Rep.non_iff {G : Hp} (h : Rep K G d v) (n : d ≠ .non) : v ≠ .non := by
  intro e
  subst e
  cases d with
  | non => exact n rfl
  | bl b => simp only [Rep] at h; cases h
  | int i => simp only [Rep] at h; cases h
  | str x => simp only [Rep] at h; cases h
  | ty x => simp only [Rep] at h; cases h
  | adr x => simp only [Rep] at h; cases h
  | tup ds => simp only [Rep] at h; obtain ⟨_, _, z, _⟩ := h; cases z
  | lst ds => simp only [Rep] at h; obtain ⟨_, _, z, _⟩ := h; cases z
  | dK ks ds => simp only [Rep] at h; obtain ⟨_, _, z, _⟩ := h; cases z
  | dT ks ds => simp only [Rep] at h; obtain ⟨_, _, z, _⟩ := h; cases z
  | scr ns => simp only [Rep] at h; obtain ⟨_, z, _⟩ := h; cases z
theorem os_isN {neg : Bool} : OpSim K (rIsNX neg) (isND neg) := fun H0 om0 Γ σ H om a b va vb Q S oa ob p => by
  unfold isND at p
  cases b with
  | non =>
    refine ⟨ob.non, ?_⟩
    by_cases hn : a = .non
    · subst hn
      rw [oa.non, decide_eq_true rfl]
      have := p (.bl (!neg)) H (rv_bl S)
      cases neg <;> exact this
    · have hv := oa.rep.non_iff hn
      rw [decide_eq_false hv]
      have : Q (.bl neg) H := by
        cases a <;> first | exact absurd rfl hn | exact p (.bl neg) H (rv_bl S)
      cases neg <;> exact this
  | _ => exact p.elim

/-! ### items -/
def ixD : D → D → RE := fun a b => match b with
  | .int i => (match a with
    | .lst ds => (match atI ds i with | some d => .ok .shr d | none => .bad)
    | .tup ds => (match atI ds i with | some d => .ok .shr d | none => .bad)
    | .scr ns => (match atI ns i with | some n => .ok .shr (.int n) | none => .bad)
    | .str x => if x.length ≤ sizeLine then (match atI x.cps.toList i with | some c => .ok .shr (.str ⟨#[c]⟩) | none => .bad) else .bad
    | _ => .bad)
  | _ => .bad
theorem atI_len {α β : Type} {xs : List α} {ys : List β} {i : Int} {x : α} (hl : xs.length = ys.length) (h : atI xs i = some x) : ∃ (j : Nat) (y : β), xs[j]? = some x ∧ ys[j]? = some y ∧ atI ys i = some y := by
  unfold atI at h ⊢
  rw [← hl]
  cases e : ixN xs.length i with
  | none => rw [e] at h; cases h
  | some j =>
    rw [e] at h
    have h' : xs[j]? = some x := h
    have hj : j < xs.length := (List.getElem?_eq_some_iff.mp h').1
    refine ⟨j, ys[j]'(by omega), h', by simp [hl ▸ hj], ?_⟩
    show ys[j]? = _
    simp [hl ▸ hj]
theorem RepL.at {G : Hp} {ds : List D} {vs : List V} {i : Int} (h : RepL K G ds vs) (e : atI ds i = some d) : ∃ v, atI vs i = some v ∧ Rep K G d v := by
  obtain ⟨j, v, h1, h2, h3⟩ := atI_len h.len e
  obtain ⟨w, h4, h5⟩ := h.get h1
  rw [h2] at h4
  cases h4
  exact ⟨v, h3, h5⟩
theorem os_ix : OpSim K (rIx K) ixD := fun H0 om0 Γ σ H om a b va vb Q S oa ob p => by
  unfold ixD at p
  cases b with
  | int i =>
    cases a with
    | lst ds =>
      cases e : atI ds i with
      | none => simp only [e] at p
      | some d =>
        simp only [e] at p
        obtain ⟨q, vs, e1, h1, r1⟩ := oa.lst
        obtain ⟨w, h3, h4⟩ := r1.at e
        exact .inl ⟨q, vs, i, w, e1, ob.int, .inl (.inl h1), h3, p w H ⟨S.good, Ex.refl H, h4⟩⟩
    | tup ds =>
      cases e : atI ds i with
      | none => simp only [e] at p
      | some d =>
        simp only [e] at p
        obtain ⟨q, vs, e1, h1, r1⟩ := oa.tup
        obtain ⟨w, h3, h4⟩ := r1.at e
        exact .inr (.inl ⟨q, vs, i, w, e1, ob.int, h1.sq, h3, p w H ⟨S.good, Ex.refl H, h4⟩⟩)
    | scr ns =>
      cases e : atI ns i with
      | none => simp only [e] at p
      | some n =>
        simp only [e] at p
        obtain ⟨q, e1, h1⟩ := oa.scr
        have h3 : atI (ns.map V.int) i = some (.int n) := by
          obtain ⟨j, w, z1, z2, z3⟩ := atI_len (ys := ns.map V.int) (by simp) e
          rw [List.getElem?_map, z1] at z2
          cases z2
          exact z3
        exact .inl ⟨q, ns.map V.int, i, .int n, e1, ob.int, h1, h3, p _ H (rv_int S)⟩
    | str x =>
      by_cases hc : x.length ≤ sizeLine
      · simp only [if_pos hc] at p
        cases e : atI x.cps.toList i with
        | none => simp only [e] at p
        | some c =>
          simp only [e] at p
          exact .inr (.inr ⟨x, i, c, oa.str, ob.int, hc, e, p _ H (rv_str S)⟩)
      · simp only [if_neg hc] at p
    | _ => exact p.elim
  | _ => exact p.elim

/-! ### slices -/
inductive RO where
  | ok (o : Option Int) | exc (e : Exn) | bad
def PostO (K : PySem.W.Frag) (W : WX) (σ : L2.St) (H : Hp) (Q : Option Int → Hp → Prop) : RO → Prop
  | .ok o => ∀ H', Good H' → Ex H H' → Q o H'
  | .exc e => ∀ H' dd, Good H' → Ex H H' → ExcAt K H' e dd → W (clsOf K e) dd σ H'
  | .bad => False
def SimO (K : PySem.W.Frag) (W : WX) (t : TO) (f : Env → RO) : Prop := ∀ H0 om0 Γ σ H om Q, Sta K H0 om0 Γ σ H om → PostO K W σ H Q (f Γ) → t σ H Q
def noPart : Env → RO := fun _ => .ok none
def partD (f : Env → RE) : Env → RO := fun Γ => match f Γ with
  | .ok _ (.int i) => .ok (some i)
  | .exc e => .exc e
  | _ => .bad
theorem so_none : SimO K W tNoPart noPart := fun H0 om0 Γ σ H om Q S p => p H S.good (Ex.refl H)
theorem so_some {te : TE} {f : Env → RE} (h : SimE K W te f) : SimO K W (tPart te) (partD f) := fun H0 om0 Γ σ H om Q S p => by
  unfold partD at p
  refine h H0 om0 Γ σ H om _ S ?_
  cases e : f Γ with
  | ok r d =>
    rw [e] at p
    cases d with
    | int i => exact fun v H' R => ⟨i, R.opd.int, p H' R.good R.ex⟩
    | _ => exact p.elim
  | exc x => rw [e] at p; exact p
  | bad => rw [e] at p; exact p
def cutD {α : Type} (xs : List α) (lo hi : Option Int) : List α := (xs.drop (HT.sIx xs.length 0 lo)).take (HT.sIx xs.length xs.length hi - HT.sIx xs.length 0 lo)
theorem RepL.cut {G : Hp} {ds : List D} {vs : List V} (h : RepL K G ds vs) (lo hi : Option Int) : RepL K G (cutD ds lo hi) (cutV vs lo hi) := by
  unfold cutD cutV
  rw [h.len]
  exact RepL.take _ (RepL.drop _ h)
def rSlX (K : PySem.W.Frag) : V → Option Int → Option Int → Hp → VK → Prop := fun x l h H Q => rSlL K x l h H Q ∨ rSlA K x l h H Q ∨ rSlS x l h H Q
theorem sl_X : SlR X (rSlX X.K) := SlR.or sl_list (SlR.or sl_tupA sl_str)
def cutX (d : D) (lo hi : Option Int) : RE := match d with
  | .lst ds => .ok .fre (.lst (cutD ds lo hi))
  | .tup ds => .ok .shr (.tup (cutD ds lo hi))
  | .str x => if x.length ≤ sizeLine then .ok .shr (.str (cutS x lo hi)) else .bad
  | _ => .bad
def slD (f : Env → RE) (l h : Env → RO) : Env → RE := fun Γ => bindE (f Γ) fun _ d => match l Γ with
  | .ok lo => (match h Γ with
    | .ok hi => cutX d lo hi
    | .exc e => .exc e
    | .bad => .bad)
  | .exc e => .exc e
  | .bad => .bad
theorem cutX_noexc {d : D} {lo hi : Option Int} {e : Exn} : cutX d lo hi ≠ .exc e := by
  unfold cutX
  cases d <;> simp
  split <;> simp
theorem PostO.back {Q : Option Int → Hp → Prop} {x : RO} (h : PostO K W σ H Q x) (e : Ex H H1) : PostO K W σ H1 Q x := by
  cases x with
  | ok o => exact fun H' g e' => h H' g (e.trans e')
  | exc x => exact fun H' dd g e' a => h H' dd g (e.trans e') a
  | bad => exact h
theorem cut_sl (S : Sta K H0 om0 Γ σ H om) (o : Opd K om H d v) {lo hi : Option Int} {Q : VK} (p : PostE K W H0 om σ H Q (cutX d lo hi)) : rSlX K v lo hi H Q := by
  unfold cutX at p
  cases d with
  | lst ds =>
    obtain ⟨a, vs, e1, h1, r1⟩ := o.lst
    exact .inl ⟨a, vs, e1, .inl (.inl h1), fun q hq => p _ _ (newLst S (Nat.le_trans (cutV_length vs lo hi) (S.good.l h1)) hq (r1.cut lo hi))⟩
  | tup ds =>
    obtain ⟨a, vs, e1, h1, r1⟩ := o.tup
    refine .inr (.inl ⟨a, vs, e1, h1.sq, fun z => ?_, fun _ q hq => p _ _ (newTup S (Nat.le_trans (cutV_length vs lo hi) (S.good.t h1)) hq (r1.cut lo hi))⟩)
    have hl := r1.len
    have hz : cutD ds lo hi = ds := by
      unfold cutD
      rw [hl, z.1, z.2]
      simp [← hl]
    have p2 : PostE K W H0 om σ H Q (RE.ok Rt.shr (D.tup (cutD ds lo hi))) := p
    rw [hz] at p2
    rw [← e1]
    exact p2 _ H ⟨S.good, Ex.refl H, o.tupR⟩
  | str x =>
    by_cases hc : x.length ≤ sizeLine
    · simp only [if_pos hc] at p
      exact .inr (.inr ⟨x, o.str, hc, p _ H (rv_str S)⟩)
    · simp only [if_neg hc] at p
      exact p.elim
  | _ => exact p.elim
theorem se_sl {te : TE} {tl th : TO} {f : Env → RE} {l h : Env → RO} (h1 : SimE K W te f) (h2 : SimO K W tl l) (h3 : SimO K W th h) : SimE K W (tSl (rSlX K) te tl th) (slD f l h) := fun H0 om0 Γ σ H om Q S p => by
  refine h1.bind S p fun r d v H1 _ R1 S1 p1 => ?_
  have p1 := p1.back R1.ex
  refine h2 H0 om0 Γ σ H1 om _ S1 ?_
  cases e2 : l Γ with
  | exc x => simp only [e2] at p1; exact p1
  | bad => simp only [e2] at p1; exact p1
  | ok lo =>
    simp only [e2] at p1
    intro H2 g2 ex2
    have S2 := S1.step ex2 g2
    refine h3 H0 om0 Γ σ H2 om _ S2 ?_
    cases e3 : h Γ with
    | exc x => simp only [e3] at p1; exact p1.back ex2
    | bad => simp only [e3] at p1; exact p1
    | ok hi =>
      simp only [e3] at p1
      intro H3 g3 ex3
      exact cut_sl (S2.step ex3 g3) ((R1.opd.step ex2).step ex3) (p1.back (ex2.trans ex3))

/-! ### built-ins by name -/
def call1 (g : D → RE) : List (Rt × D) → RE := fun rs => match rs with
  | [(_, d)] => g d
  | _ => .bad
def call2 (g : D → D → RE) : List (Rt × D) → RE := fun rs => match rs with
  | [(_, d), (_, e)] => g d e
  | _ => .bad
def CS1 (K : PySem.W.Frag) (r : List V → Hp → VK → Prop) (g : D → RE) : Prop := ∀ H0 om0 Γ σ H om d v Q, Sta K H0 om0 Γ σ H om → Opd K om H d v → (match g d with | .ok s d => ∀ v H', RV K H0 om H s d v H' → Q v H' | _ => False) → r [v] H Q
def CS2 (K : PySem.W.Frag) (r : List V → Hp → VK → Prop) (g : D → D → RE) : Prop := ∀ H0 om0 Γ σ H om d e v w Q, Sta K H0 om0 Γ σ H om → Opd K om H d v → Opd K om H e w → (match g d e with | .ok s d => ∀ v H', RV K H0 om H s d v H' → Q v H' | _ => False) → r [v, w] H Q
theorem cs1 {r : List V → Hp → VK → Prop} {g : D → RE} (h : CS1 K r g) : CallSim K r (call1 g) := fun H0 om0 Γ σ H om rs vs Q S o p => by
  match rs, o, p with
  | [(r1, d)], o, p =>
    obtain ⟨v, rfl, a1, _⟩ := o.one
    exact h H0 om0 Γ σ H om d v Q S a1 p
  | [], _, p => exact p.elim
  | _ :: _ :: _, _, p => exact p.elim
theorem cs2 {r : List V → Hp → VK → Prop} {g : D → D → RE} (h : CS2 K r g) : CallSim K r (call2 g) := fun H0 om0 Γ σ H om rs vs Q S o p => by
  match rs, o, p with
  | [(r1, d), (r2, e)], o, p =>
    obtain ⟨v, w, rfl, a1, a2⟩ := o.two
    exact h H0 om0 Γ σ H om d e v w Q S a1.1 a2.1 p
  | [], _, p => exact p.elim
  | [_], _, p => exact p.elim
  | _ :: _ :: _ :: _, _, p => exact p.elim
def lenD : D → RE := fun d => match d with
  | .lst ds => .ok .shr (.int ds.length)
  | .tup ds => .ok .shr (.int ds.length)
  | .scr ns => .ok .shr (.int ns.length)
  | .str x => if x.length ≤ sizeLine then .ok .shr (.int x.length) else .bad
  | _ => .bad
theorem cs_len : CallSim K (fun xs H Q => ∃ x n, xs = [x] ∧ LenV K x H n ∧ Q (.int n) H) (call1 lenD) := cs1 fun H0 om0 Γ σ H om d v Q S o p => by
  unfold lenD at p
  cases d with
  | lst ds =>
    obtain ⟨a, vs, rfl, h1, r1⟩ := o.lst
    refine ⟨_, vs.length, rfl, .inl ⟨vs, .inl (.inl h1), rfl⟩, ?_⟩
    rw [← r1.len]
    exact p _ H (rv_int S)
  | tup ds =>
    obtain ⟨a, vs, rfl, h1, r1⟩ := o.tup
    refine ⟨_, vs.length, rfl, .inr ⟨vs, h1.sq, rfl⟩, ?_⟩
    rw [← r1.len]
    exact p _ H (rv_int S)
  | scr ns =>
    obtain ⟨a, rfl, h1⟩ := o.scr
    refine ⟨_, (ns.map V.int).length, rfl, .inl ⟨_, h1, rfl⟩, ?_⟩
    rw [List.length_map]
    exact p _ H (rv_int S)
  | str x =>
    by_cases hc : x.length ≤ sizeLine
    · simp only [if_pos hc] at p
      rw [o.str]
      exact ⟨_, x.length, rfl, ⟨hc, rfl⟩, p _ H (rv_int S)⟩
    · simp only [if_neg hc] at p
  | _ => exact p.elim
def tupOf : D → RE := fun d => match d with
  | .lst ds => .ok .shr (.tup ds)
  | .tup ds => .ok .shr (.tup ds)
  | _ => .bad
theorem cs_tuple : CallSim K (fun xs H Q => ∃ p ys, xs = [.ref p] ∧ ((SqL K H p ys ∧ ∀ l, H l = none → Q (.ref l) (upd H l (.tup ys))) ∨ (SqT K H p ys ∧ Q (.ref p) H))) (call1 tupOf) := cs1 fun H0 om0 Γ σ H om d v Q S o p => by
  unfold tupOf at p
  cases d with
  | lst ds =>
    obtain ⟨a, vs, rfl, h1, r1⟩ := o.lst
    have h1' : SqL K H a vs := .inl (.inl h1)
    exact ⟨a, vs, rfl, .inl ⟨h1', fun l hl => p _ _ (newTup S (S.good.l h1) hl r1)⟩⟩
  | tup ds =>
    obtain ⟨a, vs, rfl, h1, r1⟩ := o.tup
    exact ⟨a, vs, rfl, .inr ⟨h1.sq, p _ H ⟨S.good, Ex.refl H, o.tupR⟩⟩⟩
  | _ => exact p.elim
def lstOf : D → RE := fun d => match d with
  | .lst ds => .ok .fre (.lst ds)
  | .tup ds => .ok .fre (.lst ds)
  | _ => .bad
theorem cs_list : CallSim K (fun xs H Q => ∃ p ys, xs = [.ref p] ∧ (SqL K H p ys ∨ SqT K H p ys) ∧ ∀ l, H l = none → Q (.ref l) (upd H l (.lst ys))) (call1 lstOf) := cs1 fun H0 om0 Γ σ H om d v Q S o p => by
  unfold lstOf at p
  cases d with
  | lst ds =>
    obtain ⟨a, vs, rfl, h1, r1⟩ := o.lst
    have h1' : SqL K H a vs := .inl (.inl h1)
    exact ⟨a, vs, rfl, .inl h1', fun l hl => p _ _ (newLst S (S.good.l h1) hl r1)⟩
  | tup ds =>
    obtain ⟨a, vs, rfl, h1, r1⟩ := o.tup
    exact ⟨a, vs, rfl, .inr h1.sq, fun l hl => p _ _ (newLst S (S.good.t h1) hl r1)⟩
  | _ => exact p.elim
def intOf : D → RE := fun d => match d with
  | .int i => .ok .shr (.int i)
  | .bl b => .ok .shr (.int (if b then 1 else 0))
  | _ => .bad
theorem cs_int : CallSim K (fun xs H Q => (∃ i, xs = [.int i] ∧ Q (.int i) H) ∨ ∃ k, xs = [.bl k] ∧ Q (.int (if k then 1 else 0)) H) (call1 intOf) := cs1 fun H0 om0 Γ σ H om d v Q S o p => by
  unfold intOf at p
  cases d with
  | int i => rw [o.int]; exact .inl ⟨i, rfl, p _ H (rv_int S)⟩
  | bl b => rw [o.bl]; exact .inr ⟨b, rfl, p _ H (rv_int S)⟩
  | _ => exact p.elim
def intsOf : List D → Option (List Int)
  | [] => some []
  | .int i :: ds => (intsOf ds).map (i :: ·)
  | _ :: _ => none
theorem intsOf_rep {G : Hp} : ∀ {ds : List D} {vs : List V} {ns : List Int}, intsOf ds = some ns → RepL K G ds vs → vs = ns.map V.int
  | [], _, _, e, h => by cases e; rw [repL_nil_inv h]; rfl
  | d :: ds, _, ns, e, h => by
    obtain ⟨v, r, rfl, h2, h3⟩ := repL_cons_inv h
    cases d with
    | int i =>
      simp only [intsOf] at e
      cases e2 : intsOf ds with
      | none => rw [e2] at e; cases e
      | some ms =>
        rw [e2] at e
        cases e
        simp only [Rep] at h2
        subst h2
        rw [intsOf_rep e2 h3]
        rfl
    | _ => cases e
def sumD : D → RE := fun d => match d with
  | .lst ds => (match intsOf ds with | some ns => .ok .shr (.int ns.sum) | none => .bad)
  | _ => .bad
theorem cs_sum : CallSim K (rSum K) (call1 sumD) := cs1 fun H0 om0 Γ σ H om d v Q S o p => by
  unfold sumD at p
  cases d with
  | lst ds =>
    cases e : intsOf ds with
    | none => simp only [e] at p
    | some ns =>
      simp only [e] at p
      obtain ⟨a, vs, rfl, h1, r1⟩ := o.lst
      refine ⟨a, ns, rfl, ?_, p _ H (rv_int S)⟩
      rw [← intsOf_rep e r1]
      exact .inl (.inl h1)
  | _ => exact p.elim
def blsOf : List D → Option (List Bool)
  | [] => some []
  | .bl i :: ds => (blsOf ds).map (i :: ·)
  | _ :: _ => none
theorem blsOf_rep {G : Hp} : ∀ {ds : List D} {vs : List V} {ns : List Bool}, blsOf ds = some ns → RepL K G ds vs → vs = ns.map V.bl
  | [], _, _, e, h => by cases e; rw [repL_nil_inv h]; rfl
  | d :: ds, _, ns, e, h => by
    obtain ⟨v, r, rfl, h2, h3⟩ := repL_cons_inv h
    cases d with
    | bl i =>
      simp only [blsOf] at e
      cases e2 : blsOf ds with
      | none => rw [e2] at e; cases e
      | some ms =>
        rw [e2] at e
        cases e
        simp only [Rep] at h2
        subst h2
        rw [blsOf_rep e2 h3]
        rfl
    | _ => cases e
def allD : D → RE := fun d => match d with
  | .lst ds => (match blsOf ds with | some ns => .ok .shr (.bl (ns.all id)) | none => .bad)
  | _ => .bad
def anyD : D → RE := fun d => match d with
  | .lst ds => (match blsOf ds with | some ns => .ok .shr (.bl (ns.any id)) | none => .bad)
  | _ => .bad
theorem cs_all : CallSim K (rAll K) (call1 allD) := cs1 fun H0 om0 Γ σ H om d v Q S o p => by
  unfold allD at p
  cases d with
  | lst ds =>
    cases e : blsOf ds with
    | none => simp only [e] at p
    | some ns =>
      simp only [e] at p
      obtain ⟨a, vs, rfl, h1, r1⟩ := o.lst
      refine ⟨a, ns, rfl, ?_, p _ H (rv_bl S)⟩
      rw [← blsOf_rep e r1]
      exact .inl (.inl h1)
  | _ => exact p.elim
theorem cs_any : CallSim K (rAny K) (call1 anyD) := cs1 fun H0 om0 Γ σ H om d v Q S o p => by
  unfold anyD at p
  cases d with
  | lst ds =>
    cases e : blsOf ds with
    | none => simp only [e] at p
    | some ns =>
      simp only [e] at p
      obtain ⟨a, vs, rfl, h1, r1⟩ := o.lst
      refine ⟨a, ns, rfl, ?_, p _ H (rv_bl S)⟩
      rw [← blsOf_rep e r1]
      exact .inl (.inl h1)
  | _ => exact p.elim
def max2D : D → D → RE := fun a b => match a, b with
  | .int i, .int j => .ok .shr (.int (if j > i then j else i))
  | _, _ => .bad
def min2D : D → D → RE := fun a b => match a, b with
  | .int i, .int j => .ok .shr (.int (if j < i then j else i))
  | _, _ => .bad
theorem cs_max2 : CallSim K (fun xs H Q => ∃ i j, xs = [.int i, .int j] ∧ Q (.int (if j > i then j else i)) H) (call2 max2D) := cs2 fun H0 om0 Γ σ H om d e v w Q S o o2 p => by
  unfold max2D at p
  cases d with
  | int i =>
    cases e with
    | int j => rw [o.int, o2.int]; exact ⟨i, j, rfl, p _ H (rv_int S)⟩
    | _ => exact p.elim
  | _ => exact p.elim
theorem cs_min2 : CallSim K (fun xs H Q => ∃ i j, xs = [.int i, .int j] ∧ Q (.int (if j < i then j else i)) H) (call2 min2D) := cs2 fun H0 om0 Γ σ H om d e v w Q S o o2 p => by
  unfold min2D at p
  cases d with
  | int i =>
    cases e with
    | int j => rw [o.int, o2.int]; exact ⟨i, j, rfl, p _ H (rv_int S)⟩
    | _ => exact p.elim
  | _ => exact p.elim
/-- the built-in type's name -/
def D.tyN : D → Option String
  | .non => some "NoneType"
  | .bl _ => some "bool"
  | .int _ => some "int"
  | .str _ => some "str"
  | .lst _ => some "list"
  | .tup _ => some "tuple"
  | _ => none
theorem Opd.tyX {n : String} (h : Opd K om H d v) (e : d.tyN = some n) : TyX K H v (.type n) := by
  cases d with
  | non => cases e; rw [h.non]; exact .base .non
  | bl b => cases e; rw [h.bl]; exact .base (.bl b)
  | int i => cases e; rw [h.int]; exact .base (.int i)
  | str x => cases e; rw [h.str]; exact .base (.str x)
  | lst ds => cases e; obtain ⟨a, vs, rfl, h1, _⟩ := h.lst; exact .base (.lst h1)
  | tup ds =>
    cases e
    obtain ⟨a, vs, rfl, h1, _⟩ := h.tup
    rcases h1 with h1 | ⟨o, its, n, h1, h2, _⟩
    · exact .base (.tup h1)
    · exact .kTuple h1 h2
  | _ => cases e
def isiTab : List (String × String × Bool) := [("bool", "int", true), ("int", "int", true), ("str", "int", false), ("list", "int", false), ("tuple", "int", false), ("NoneType", "int", false),
  ("bool", "bool", true), ("int", "bool", false), ("str", "bool", false), ("list", "bool", false), ("tuple", "bool", false), ("NoneType", "bool", false),
  ("bool", "str", false), ("int", "str", false), ("str", "str", true), ("list", "str", false), ("tuple", "str", false), ("NoneType", "str", false),
  ("bool", "tuple", false), ("int", "tuple", false), ("str", "tuple", false), ("list", "tuple", false), ("tuple", "tuple", true), ("NoneType", "tuple", false),
  ("bool", "list", false), ("int", "list", false), ("str", "list", false), ("list", "list", true), ("tuple", "list", false), ("NoneType", "list", false)]
def isiB (n m : String) : Option Bool := (isiTab.find? fun q => q.1 == n && q.2.1 == m).map (·.2.2)
def isiD : D → D → RE := fun a b => match b with
  | .ty m => (match a.tyN with
    | some n => (match isiB n m with | some b => .ok .shr (.bl b) | none => .bad)
    | none => .bad)
  | _ => .bad
theorem isiB_ok {n m : String} {b : Bool} (h : isiB n m = some b) : PySem.W.kitOne K (.type n) (.type m) = some b := by
  unfold isiB at h
  obtain ⟨q, hq, rfl⟩ := Option.map_eq_some_iff.mp h
  have hm := List.mem_of_find?_eq_some hq
  have hp := List.find?_some hq
  simp only [Bool.and_eq_true, beq_iff_eq] at hp
  obtain ⟨rfl, rfl⟩ := hp
  have all : ∀ q ∈ isiTab, ∀ K : PySem.W.Frag, PySem.W.kitOne K (.type q.1) (.type q.2.1) = some q.2.2 := by
    intro q hq K
    simp only [isiTab, List.mem_cons, List.not_mem_nil, or_false] at hq
    rcases hq with rfl | rfl | rfl | rfl | rfl | rfl | rfl | rfl | rfl | rfl | rfl | rfl | rfl | rfl | rfl | rfl | rfl | rfl | rfl | rfl | rfl | rfl | rfl | rfl | rfl | rfl | rfl | rfl | rfl | rfl <;> exact kit_ty (by decide +kernel)
  exact all q hm K
theorem cs_isi : CallSim K (rIsi K) (call2 isiD) := cs2 fun H0 om0 Γ σ H om d e v w Q S o o2 p => by
  unfold isiD at p
  cases e with
  | ty m =>
    cases en : d.tyN with
    | none => simp only [en] at p
    | some n =>
      simp only [en] at p
      cases eb : isiB n m with
      | none => simp only [eb] at p
      | some b =>
        simp only [eb] at p
        rw [o2.ty]
        exact ⟨v, .ty m, .type n, .type m, b, rfl, .ty m, o.tyX en, isiB_ok eb, p _ H (rv_bl S)⟩
  | _ => exact p.elim
end
end VL

namespace VL
open PySem PySem.Spec PyProof.Rows L2
section
variable {K : PySem.W.Frag} {W : WX} {H0 : Hp} {om0 om om' : Nat → Option Addr} {Γ Γ' : Env} {σ σ' : L2.St} {H H' H1 H2 : Hp} {d : D} {v : V} {r : Rt} {X : Cx}
/-! ### texts -/
def strsOf : List D → Option (List Str)
  | [] => some []
  | .str i :: ds => (strsOf ds).map (i :: ·)
  | _ :: _ => none
theorem strsOf_rep {G : Hp} : ∀ {ds : List D} {vs : List V} {ns : List Str}, strsOf ds = some ns → RepL K G ds vs → vs = ns.map V.str
  | [], _, _, e, h => by cases e; rw [repL_nil_inv h]; rfl
  | d :: ds, _, ns, e, h => by
    obtain ⟨v, r, rfl, h2, h3⟩ := repL_cons_inv h
    cases d with
    | str i =>
      simp only [strsOf] at e
      cases e2 : strsOf ds with
      | none => rw [e2] at e; cases e
      | some ms =>
        rw [e2] at e
        cases e
        simp only [Rep] at h2
        subst h2
        rw [strsOf_rep e2 h3]
        rfl
    | _ => cases e
def joinWith (a : Str) (ds : List D) : RE := match strsOf ds with
  | some ys => if (ys.map (·.length)).sum + ys.length * a.length ≤ 16777216 then .ok .shr (.str (Txt.join a ys)) else .bad
  | none => .bad
def joinD : D → D → RE := fun s x => match s with
  | .str a => (match x with
    | .lst ds => joinWith a ds
    | .tup ds => joinWith a ds
    | _ => .bad)
  | _ => .bad
/-- a text's method with one argument, by values -/
def MS1 (K : PySem.W.Frag) (r : V → List V → Hp → VK → Prop) (g : D → D → RE) : Prop := ∀ H0 om0 Γ σ H om d e v w Q, Sta K H0 om0 Γ σ H om → Opd K om H d v → Opd K om H e w → (match g d e with | .ok s d => ∀ v H', RV K H0 om H s d v H' → Q v H' | _ => False) → r v [w] H Q
def strD : D → RE := fun d => match d with | .str x => .ok .shr (.str x) | _ => .bad
def m1D (g : D → D → RE) (f1 f2 : Env → RE) : Env → RE := fun Γ => match f1 Γ with
  | .ok _ (.str x) => (match f2 Γ with
    | .ok _ e => (match g (.str x) e with | .ok s d => .ok s d | _ => .bad)
    | .exc e => .exc e
    | .bad => .bad)
  | .exc e => .exc e
  | _ => .bad
theorem se_m1 {r : V → List V → Hp → VK → Prop} {g : D → D → RE} {ta tb : TE} {f1 f2 : Env → RE} (hr : MS1 K r g) (h1 : SimE K W ta f1) (h2 : SimE K W tb f2) : SimE K W (tM1 r ta tb) (m1D g f1 f2) := fun H0 om0 Γ σ H om Q S p => by
  unfold m1D at p
  refine h1 H0 om0 Γ σ H om _ S ?_
  cases e1 : f1 Γ with
  | exc x => rw [e1] at p; exact p
  | bad => rw [e1] at p; exact p
  | ok r1 d1 =>
    rw [e1] at p
    cases d1 with
    | str x =>
      intro v H1 R1
      refine ⟨⟨x, R1.opd.str⟩, ?_⟩
      have S1 := S.step R1.ex R1.good
      have p' : PostE K W H0 om σ H Q (match f2 Γ with | .ok _ e => (match g (.str x) e with | .ok s d => .ok s d | _ => .bad) | .exc e => .exc e | .bad => .bad) := p
      refine h2 H0 om0 Γ σ H1 om _ S1 ?_
      cases e2 : f2 Γ with
      | exc x => rw [e2] at p'; exact PostE.back (x := .exc x) p' R1.ex
      | bad => rw [e2] at p'; exact p'
      | ok r2 d2 =>
        rw [e2] at p'
        intro w H2 R2
        refine hr H0 om0 Γ σ H2 om (.str x) d2 v w Q (S1.step R2.ex R2.good) (R1.opd.step R2.ex) R2.opd ?_
        have p3 : PostE K W H0 om σ H Q (match g (.str x) d2 with | .ok s d => .ok s d | _ => .bad) := p'
        cases e3 : g (.str x) d2 with
        | ok s d =>
          rw [e3] at p3
          exact fun v H' R => p3 v H' (R.back (R1.ex.trans R2.ex))
        | exc x => rw [e3] at p3; exact p3
        | bad => rw [e3] at p3; exact p3
    | _ => exact p.elim
theorem ms_join : MS1 K (fun x xs H Q => ∃ a p, ∃ ys : List Str, x = .str a ∧ xs = [.ref p] ∧ (SqL K H p (ys.map V.str) ∨ SqT K H p (ys.map V.str)) ∧
      (ys.map (·.length)).sum + ys.length * a.length ≤ 16777216 ∧ Q (.str (Txt.join a ys)) H) joinD := fun H0 om0 Γ σ H om d e v w Q S o o2 p => by
  unfold joinD at p
  cases d with
  | str a =>
    cases e with
    | lst ds =>
      simp only [joinWith] at p
      cases es : strsOf ds with
      | none => simp only [es] at p
      | some ys =>
        simp only [es] at p
        by_cases hc : (ys.map (·.length)).sum + ys.length * a.length ≤ 16777216
        · simp only [if_pos hc] at p
          obtain ⟨q, vs, rfl, h1, r1⟩ := o2.lst
          refine ⟨a, q, ys, o.str, rfl, .inl ?_, hc, p _ H (rv_str S)⟩
          rw [← strsOf_rep es r1]
          exact .inl (.inl h1)
        · simp only [if_neg hc] at p
    | tup ds =>
      simp only [joinWith] at p
      cases es : strsOf ds with
      | none => simp only [es] at p
      | some ys =>
        simp only [es] at p
        by_cases hc : (ys.map (·.length)).sum + ys.length * a.length ≤ 16777216
        · simp only [if_pos hc] at p
          obtain ⟨q, vs, rfl, h1, r1⟩ := o2.tup
          refine ⟨a, q, ys, o.str, rfl, .inr ?_, hc, p _ H (rv_str S)⟩
          rw [← strsOf_rep es r1]
          exact h1.sq
        · simp only [if_neg hc] at p
    | _ => exact p.elim
  | _ => exact p.elim
def strOf : D → RE := fun d => match d with
  | .int i => if i.natAbs.log2 < 1920 then .ok .shr (.str (toString i)) else .bad
  | _ => .bad
theorem cs_strI : CallSim K (fun xs H Q => ∃ i, xs = [.int i] ∧ i.natAbs.log2 < 1920 ∧ Q (.str (toString i)) H) (call1 strOf) := cs1 fun H0 om0 Γ σ H om d v Q S o p => by
  unfold strOf at p
  cases d with
  | int i =>
    by_cases hc : i.natAbs.log2 < 1920
    · simp only [if_pos hc] at p
      rw [o.int]
      exact ⟨i, rfl, hc, p _ H (rv_str S)⟩
    · simp only [if_neg hc] at p
  | _ => exact p.elim

/-! ### what is walked -/
theorem PI.or {tg e : Expr} {w1 w2 : TI} (h1 : PI X tg e w1) (h2 : PI X tg e w2) : PI X tg e (fun σ H R => w1 σ H R ∨ w2 σ H R) := ⟨fun pins s σ H R I h => by
  rcases h with h | h
  · exact h1.run pins s σ H R I h
  · exact h2.run pins s σ H R I h⟩
def iAny (K : PySem.W.Frag) (te : TE) : TI := fun σ H R => iList K te σ H R ∨ iTup K te σ H R ∨ iStr te σ H R
theorem pi_any {tg e : Expr} {te : TE} (h : PE X e te) : PI X tg e (iAny X.K te) := PI.or (pi_list h) (PI.or (pi_tup h) (pi_str h))
def chars (x : Str) : List D := x.cps.toList.map fun c => .str ⟨#[c]⟩
def iterD (f : Env → RE) : Env → RI := fun Γ => match f Γ with
  | .ok r (.lst ds) => .ok r ds
  | .ok _ (.tup ds) => .ok .shr ds
  | .ok _ (.str x) => if x.length ≤ sizeLine then .ok .shr (chars x) else .bad
  | .exc e => .exc e
  | _ => .bad
theorem WalkD.of {J : It} {ds : List D} {xs : List V} {GL G : Hp} (hr : RepL K G ds xs) (w : Walk J xs.length (fun H => Ex GL H) (YAt xs)) : WalkD K J ds GL G := by
  unfold WalkD
  rw [hr.len]
  refine ⟨w.goes, w.stops, fun i H x H' hi hG y => ?_⟩
  obtain ⟨e, hx⟩ := w.yields i H x H' hi hG y
  have hd : i < ds.length := by rw [hr.len]; exact hi
  obtain ⟨v', h1, h2⟩ := hr.get (List.getElem?_eq_getElem hd)
  rw [h1] at hx
  cases hx
  exact ⟨_, List.getElem?_eq_getElem hd, .inl ⟨e, h2⟩⟩
theorem si_any {te : TE} {f : Env → RE} (h : SimE K W te f) : SimI K W (iAny K te) (iterD f) := fun H0 om0 Γ σ H om R S p => by
  unfold iterD at p
  cases e : f Γ with
  | bad => rw [e] at p; exact p.elim
  | exc x =>
    rw [e] at p
    exact .inl (h H0 om0 Γ σ H om _ S (by rw [e]; exact p))
  | ok r d =>
    rw [e] at p
    cases d with
    | lst ds =>
      refine .inl (h H0 om0 Γ σ H om _ S ?_)
      rw [e]
      intro v H1 R1
      obtain ⟨a, vs, rfl, h1, r1⟩ := R1.opd.lst
      refine ⟨a, rfl, ⟨vs, .inl (.inl h1)⟩, p _ H1 R1.good R1.ex (WalkD.of r1 (walk_list.mono (fun H' ex => ?_) fun _ _ _ _ _ _ y => y)) (by rw [r1.len]; exact R1.good.l h1)⟩
      by_cases hr : r = .bor
      · rw [if_pos hr] at ex
        exact .inl (.inl (ex _ _ h1))
      · rw [if_neg hr] at ex
        have q := R1.shr S hr
        simp only [Rep] at q
        obtain ⟨a', vs', z1, z2, z3⟩ := q
        injection z1 with z1
        subst z1
        have z4 := mk_le _ _ z2
        rw [h1] at z4
        cases z4
        exact .inl (.inl (ex _ _ z2))
    | tup ds =>
      refine .inr (.inl (h H0 om0 Γ σ H om _ S ?_))
      rw [e]
      intro v H1 R1
      have q := R1.opd.tupR
      simp only [Rep] at q
      obtain ⟨a, vs, rfl, h1, r1⟩ := q
      refine ⟨a, rfl, ⟨vs, (h1.mono mk_le).sq⟩, p _ H1 R1.good R1.ex (WalkD.of r1 (walk_tup.mono (fun H' ex => ?_) fun _ _ _ _ _ _ y => y)) (by rw [r1.len]; exact R1.good.t (h1.mono mk_le))⟩
      rw [if_neg (by decide)] at ex
      exact (h1.mono ex).sq
    | str x =>
      have p' : PostI K W om σ H R (if x.length ≤ sizeLine then .ok .shr (chars x) else .bad) := p
      by_cases hc : x.length ≤ sizeLine
      · rw [if_pos hc] at p'
        refine .inr (.inr (h H0 om0 Γ σ H om _ S ?_))
        rw [e]
        intro v H1 R1
        refine ⟨x, R1.opd.str, p' _ H1 R1.good R1.ex ?_ (by unfold chars; rw [List.length_map]; exact hc)⟩
        unfold WalkD
        have hl : (chars x).length = x.cps.size := by unfold chars; simp
        rw [hl]
        refine walk_str.mono (fun _ _ => trivial) fun i H x' H' hi _ y => ?_
        obtain ⟨e1, c, hc', hv⟩ := y
        refine ⟨.str ⟨#[c]⟩, ?_, .inl ⟨e1, by rw [hv]; simp only [Rep]⟩⟩
        unfold chars
        rw [List.getElem?_map, Array.getElem?_toList, hc']
        rfl
      · rw [if_neg hc] at p'
        exact p'.elim
    | _ => exact p.elim
def rngL (lo : Int) (n : Nat) : List D := (List.range n).map fun i => .int (lo + (i : Nat))
/-- one value, two values, given to what makes an iterator -/
def callI1 (k : Rt → D → RI) (g : Env → RL) : Env → RI := fun Γ => match g Γ with
  | .ok rs => (match rs with
    | [(r, a)] => k r a
    | _ => .bad)
  | .exc e => .exc e
  | .bad => .bad
def callI2 (k : Rt → D → Rt → D → RI) (g : Env → RL) : Env → RI := fun Γ => match g Γ with
  | .ok rs => (match rs with
    | [(r, a), (s, b)] => k r a s b
    | _ => .bad)
  | .exc e => .exc e
  | .bad => .bad
theorem si_call1 {wi : TI} {ta : TA} {k : Rt → D → RI} {g : Env → RL} {q : L2.St → Hp → (It → Hp → Prop) → List V → Prop} (h : SimA K W ta g) (hw : ∀ σ H R, ta σ H (fun vs H1 => q σ H1 R vs) → wi σ H R)
    (hk : ∀ H0 om0 Γ σ H om R r a v, Sta K H0 om0 Γ σ H om → Opd K om H a v → (r ≠ .bor → Rep K (msk om H) a v) → PostI K W om σ H R (k r a) → (∀ e, k r a ≠ .exc e) → q σ H R [v]) (hx : ∀ r a e, k r a ≠ .exc e) : SimI K W wi (callI1 k g) := fun H0 om0 Γ σ H om R S p => by
  unfold callI1 at p
  refine hw _ _ _ (h H0 om0 Γ σ H om _ S ?_)
  cases e : g Γ with
  | bad => rw [e] at p; exact p.elim
  | exc x => rw [e] at p; exact p
  | ok rs =>
    intro vs H1 g1 e1 o1
    rw [e] at p
    match rs, o1, p with
    | [(r, a)], o1, p =>
      obtain ⟨v, rfl, a1, a2⟩ := o1.one
      refine hk H0 om0 Γ σ H1 om R r a v (S.step e1 g1) a1 a2 ?_ (hx r a)
      have p' : PostI K W om σ H R (k r a) := p
      cases ek : k r a with
      | ok r' ds => rw [ek] at p'; exact fun J H2 g2 e2 => p' J H2 g2 (e1.trans e2)
      | exc x => exact absurd ek (hx r a x)
      | bad => rw [ek] at p'; exact p'
    | [], _, p => exact p.elim
    | _ :: _ :: _, _, p => exact p.elim
theorem si_call2 {wi : TI} {ta : TA} {k : Rt → D → Rt → D → RI} {g : Env → RL} {q : L2.St → Hp → (It → Hp → Prop) → List V → Prop} (h : SimA K W ta g) (hw : ∀ σ H R, ta σ H (fun vs H1 => q σ H1 R vs) → wi σ H R)
    (hk : ∀ H0 om0 Γ σ H om R r a s b v w, Sta K H0 om0 Γ σ H om → Opd K om H a v → (r ≠ .bor → Rep K (msk om H) a v) → Opd K om H b w → (s ≠ .bor → Rep K (msk om H) b w) → PostI K W om σ H R (k r a s b) → q σ H R [v, w]) (hx : ∀ r a s b e, k r a s b ≠ .exc e) : SimI K W wi (callI2 k g) := fun H0 om0 Γ σ H om R S p => by
  unfold callI2 at p
  refine hw _ _ _ (h H0 om0 Γ σ H om _ S ?_)
  cases e : g Γ with
  | bad => rw [e] at p; exact p.elim
  | exc x => rw [e] at p; exact p
  | ok rs =>
    intro vs H1 g1 e1 o1
    rw [e] at p
    match rs, o1, p with
    | [(r, a), (s, b)], o1, p =>
      obtain ⟨v, w, rfl, ⟨a1, a2⟩, b1, b2⟩ := o1.two
      refine hk H0 om0 Γ σ H1 om R r a s b v w (S.step e1 g1) a1 a2 b1 b2 ?_
      have p' : PostI K W om σ H R (k r a s b) := p
      cases ek : k r a s b with
      | ok r' ds => rw [ek] at p'; exact fun J H2 g2 e2 => p' J H2 g2 (e1.trans e2)
      | exc x => exact absurd ek (hx r a s b x)
      | bad => rw [ek] at p'; exact p'
    | [], _, p => exact p.elim
    | [_], _, p => exact p.elim
    | _ :: _ :: _ :: _, _, p => exact p.elim
theorem walk_rng {lo : Int} {n : Nat} {GL G : Hp} : WalkD K (Itr lo n) (rngL lo n) GL G := by
  unfold WalkD
  have hl : (rngL lo n).length = n := by unfold rngL; simp
  rw [hl]
  refine walk_range.mono (fun _ _ => trivial) fun i H x H' hi _ y => ?_
  obtain ⟨e1, hv⟩ := y
  refine ⟨.int (lo + (i : Nat)), ?_, .inl ⟨e1, by rw [hv]; simp only [Rep]⟩⟩
  unfold rngL
  rw [List.getElem?_map, List.getElem?_range hi]
  rfl
theorem rngL_len {lo : Int} {n : Nat} : (rngL lo n).length = n := by unfold rngL; simp
def rng1V : D → RI := fun a => match a with
  | .int j => if j ≤ 1000000 ∧ -1000000 ≤ j then .ok .shr (rngL 0 j.toNat) else .bad
  | _ => .bad
def rng1D : (Env → RL) → Env → RI := callI1 fun _ a => rng1V a
theorem si_rng1 {ta : TA} {g : Env → RL} (h : SimA K W ta g) : SimI K W (iRng1 ta) (rng1D g) := si_call1 (q := fun σ H1 R vs => ∃ j : Int, vs = [.int j] ∧ -(2 ^ 62) ≤ j ∧ j < 2 ^ 62 ∧ R (Itr 0 j.toNat) H1) h (fun _ _ _ z => z)
  (fun H0 om0 Γ σ H om R r a v S a1 _ p _ => by
    unfold rng1V at p
    cases a with
    | int j =>
      by_cases hc : j ≤ 1000000 ∧ -1000000 ≤ j
      · simp only [if_pos hc] at p
        rw [a1.int]
        exact ⟨j, rfl, by omega, by omega, p _ H S.good (Ex.refl H) walk_rng (by rw [rngL_len, sizeLine_eq]; omega)⟩
      · simp only [if_neg hc] at p
        exact p.elim
    | _ => exact p.elim)
  (fun r a e => by
    unfold rng1V
    cases a <;> simp
    split <;> simp)
def rng2V : D → D → RI := fun a b => match a, b with
  | .int i, .int j => if (j ≤ 1000000 ∧ -1000000 ≤ j) ∧ i ≤ 1000000 ∧ -1000000 ≤ i then .ok .shr (rngL i (j - i).toNat) else .bad
  | _, _ => .bad
def rng2D : (Env → RL) → Env → RI := callI2 fun _ a _ b => rng2V a b
theorem si_rng2 {ta : TA} {g : Env → RL} (h : SimA K W ta g) : SimI K W (iRng2 ta) (rng2D g) := si_call2 (q := fun σ H1 R vs => ∃ i j : Int, vs = [.int i, .int j] ∧ (-(2 ^ 62) ≤ i ∧ i < 2 ^ 62 ∧ -(2 ^ 62) ≤ j ∧ j < 2 ^ 62) ∧ R (Itr i (j - i).toNat) H1) h (fun _ _ _ z => z)
  (fun H0 om0 Γ σ H om R r a s b v w S a1 _ b1 _ p => by
    unfold rng2V at p
    cases a with
    | int i =>
      cases b with
      | int j =>
        by_cases hc : (j ≤ 1000000 ∧ -1000000 ≤ j) ∧ i ≤ 1000000 ∧ -1000000 ≤ i
        · simp only [if_pos hc] at p
          rw [a1.int, b1.int]
          exact ⟨i, j, rfl, ⟨by omega, by omega, by omega, by omega⟩, p _ H S.good (Ex.refl H) walk_rng (by rw [rngL_len, sizeLine_eq]; omega)⟩
        · simp only [if_neg hc] at p
          exact p.elim
      | _ => exact p.elim
    | _ => exact p.elim)
  (fun r a s b e => by
    unfold rng2V
    cases a <;> cases b <;> simp
    split <;> simp)
/-- pairs of places and items -/
def enumL : Nat → List D → List D
  | _, [] => []
  | n, d :: ds => .tup [.int (n : Nat), d] :: enumL (n + 1) ds
theorem enumL_len : ∀ (n : Nat) (ds : List D), (enumL n ds).length = ds.length
  | _, [] => rfl
  | n, d :: ds => by simp [enumL, enumL_len (n + 1) ds]
theorem enumL_get : ∀ (n : Nat) (ds : List D) (i : Nat), (enumL n ds)[i]? = ds[i]?.map fun d => .tup [.int ((n + i : Nat)), d]
  | _, [], _ => by simp [enumL]
  | n, d :: ds, 0 => by simp [enumL]
  | n, d :: ds, i + 1 => by
    simp only [enumL, List.getElem?_cons_succ]
    rw [enumL_get (n + 1) ds i]
    congr 1
    funext x
    have : n + 1 + i = n + (i + 1) := by omega
    rw [this]
def enumV : Rt → D → RI := fun r a => match a with
  | .lst ds => .ok r (enumL 0 ds)
  | _ => .bad
def enumD : (Env → RL) → Env → RI := callI1 enumV
theorem lstRoot {ds : List D} {a : Addr} {vs : List V} (h1 : H1 a = some (.lst vs)) (q : Rep K (msk om H1) (.lst ds) (.ref a)) : msk om H1 a = some (.lst vs) := by
  simp only [Rep] at q
  obtain ⟨a', vs', z1, z2, z3⟩ := q
  injection z1 with z1
  subst z1
  have z4 := mk_le _ _ z2
  rw [h1] at z4
  cases z4
  exact z2
theorem si_enum {ta : TA} {g : Env → RL} (h : SimA K W ta g) : SimI K W (iEnum K ta) (enumD g) := si_call1 (q := fun σ H1 R vs => ∃ a xs, vs = [.ref a] ∧ SqL K H1 a xs ∧ R (Ite K a) H1) h (fun _ _ _ z => z)
  (fun H0 om0 Γ σ H om R r a v S a1 a2 p _ => by
    unfold enumV at p
    cases a with
    | lst ds =>
      obtain ⟨q, vs, rfl, h1, r1⟩ := a1.lst
      refine ⟨q, vs, rfl, .inl (.inl h1), p _ H S.good (Ex.refl H) ?_ (by rw [enumL_len, r1.len]; exact S.good.l h1)⟩
      unfold WalkD
      rw [enumL_len, r1.len]
      refine walk_enum.mono (fun H' ex => ?_) fun i H2 x H3 hi ex y => ?_
      · by_cases hr : r = .bor
        · rw [if_pos hr] at ex
          exact .inl (.inl (ex _ _ h1))
        · rw [if_neg hr] at ex
          exact .inl (.inl (ex _ _ (lstRoot h1 (a2 hr))))
      · obtain ⟨T, x1, y1, q1, q2, q3, q4, q5⟩ := y
        have hd : i < ds.length := by rw [r1.len]; exact hi
        obtain ⟨v', h3, h4⟩ := r1.get (List.getElem?_eq_getElem hd)
        have q5' : vs[i]? = some y1 := q5
        rw [h3] at q5'
        cases q5'
        cases q4
        refine ⟨.tup [.int (i : Nat), ds[i]], ?_, .inr ⟨T, _, _, rfl, q1, q2, q3, ?_, by show 2 ≤ 1000; decide⟩⟩
        · rw [enumL_get, List.getElem?_eq_getElem hd]
          simp
        · exact repL_cons (by simp only [Rep]) (repL_cons h4 repL_nil)
    | _ => exact p.elim)
  (fun r a e => by
    unfold enumV
    cases a <;> simp)
def zipL (xs ys : List D) : List D := List.zipWith (fun a b => .tup [a, b]) xs ys
/-- zip of two lists, of two tuples -/
def zipV : Rt → D → Rt → D → RI := fun r a s b => match a, b with
  | .lst xs, .lst ys => .ok (if r = .bor ∨ s = .bor then .bor else .shr) (zipL xs ys)
  | .tup xs, .tup ys => .ok .shr (zipL xs ys)
  | _, _ => .bad
def zipD : (Env → RL) → Env → RI := callI2 zipV
theorem zipL_len (xs ys : List D) : (zipL xs ys).length = min xs.length ys.length := by unfold zipL; simp
theorem walk_zipT {a b : Addr} {xs ys : List V} {n : Nat} (hn : n = min xs.length ys.length) : Walk (RZ.ItzT K a b) n (fun H => SqT K H a xs ∧ SqT K H b ys) (YPair (fun i => xs[i]?) (fun i => ys[i]?)) := by
  subst hn
  refine ⟨fun i _ hi q => ?_, fun _ q => ⟨xs, ys, q.1, q.2, by omega⟩, fun i H v H' _ q y => ?_⟩
  · have h1 : i < xs.length := by omega
    have h2 : i < ys.length := by omega
    exact ⟨xs, ys, xs[i], ys[i], q.1, q.2, by simp [h1], by simp [h2]⟩
  · obtain ⟨T, x, z, h1, h2, h3, h4, h5⟩ := y
    exact ⟨T, x, z, h1, h2, h3, h4 xs q.1, h5 ys q.2⟩
theorem zipY {G : Hp} {xs ys : List V} {ds es : List D} (r1 : RepL K G ds xs) (r2 : RepL K G es ys) {i : Nat} {x : V} (hi : i < min xs.length ys.length) (y : YPair (fun i => xs[i]?) (fun i => ys[i]?) i H x H') : ∃ d, (zipL ds es)[i]? = some d ∧ YD K G H d x H' := by
  obtain ⟨T, x1, y1, q1, q2, q3, q4, q5⟩ := y
  have hd : i < ds.length := by rw [r1.len]; omega
  have he : i < es.length := by rw [r2.len]; omega
  obtain ⟨v', h3, h4⟩ := r1.get (List.getElem?_eq_getElem hd)
  obtain ⟨w', h5, h6⟩ := r2.get (List.getElem?_eq_getElem he)
  have q4' : xs[i]? = some x1 := q4
  have q5' : ys[i]? = some y1 := q5
  rw [h3] at q4'
  rw [h5] at q5'
  cases q4'
  cases q5'
  refine ⟨.tup [ds[i], es[i]], ?_, .inr ⟨T, _, _, rfl, q1, q2, q3, repL_cons h4 (repL_cons h6 repL_nil), by show 2 ≤ 1000; decide⟩⟩
  unfold zipL
  rw [List.getElem?_zipWith, List.getElem?_eq_getElem hd, List.getElem?_eq_getElem he]
theorem si_zip {ta : TA} {g : Env → RL} (h : SimA K W ta g) : SimI K W (RZ.iZipA K ta) (zipD g) := si_call2 (q := fun σ H1 R vs => ∃ a b xs ys, vs = [.ref a, .ref b] ∧ ((SqL K H1 a xs ∧ SqL K H1 b ys ∧ R (Itz K a b) H1) ∨ (SqT K H1 a xs ∧ SqT K H1 b ys ∧ R (RZ.ItzT K a b) H1))) h (fun _ _ _ z => z)
  (fun H0 om0 Γ σ H om R r a s b v w S a1 a2 b1 b2 p => by
    unfold zipV at p
    cases a with
    | lst xs =>
      cases b with
      | lst ys =>
        obtain ⟨q, vs, rfl, h1, r1⟩ := a1.lst
        obtain ⟨q', ws, rfl, h2, r2⟩ := b1.lst
        refine ⟨q, q', vs, ws, rfl, .inl ⟨.inl (.inl h1), .inl (.inl h2), p _ H S.good (Ex.refl H) ?_ (by rw [zipL_len, r1.len]; exact Nat.le_trans (Nat.min_le_left _ _) (S.good.l h1))⟩⟩
        unfold WalkD
        rw [zipL_len]
        refine (walk_zip (xs := vs) (ys := ws) (by rw [r1.len, r2.len])).mono (fun H' ex => ?_) fun i H2 x H3 hi ex y => zipY r1 r2 (by rw [r1.len, r2.len] at hi; exact hi) y
        by_cases hr : r = .bor ∨ s = .bor
        · rw [if_pos (by rw [if_pos hr])] at ex
          exact ⟨.inl (.inl (ex _ _ h1)), .inl (.inl (ex _ _ h2))⟩
        · rw [if_neg (by rw [if_neg hr]; decide)] at ex
          exact ⟨.inl (.inl (ex _ _ (lstRoot h1 (a2 fun z => hr (.inl z))))), .inl (.inl (ex _ _ (lstRoot h2 (b2 fun z => hr (.inr z)))))⟩
      | _ => exact p.elim
    | tup xs =>
      cases b with
      | tup ys =>
        have z1 := a1.tupR
        have z2 := b1.tupR
        simp only [Rep] at z1 z2
        obtain ⟨q, vs, rfl, h1, r1⟩ := z1
        obtain ⟨q', ws, rfl, h2, r2⟩ := z2
        refine ⟨q, q', vs, ws, rfl, .inr ⟨(h1.mono mk_le).sq, (h2.mono mk_le).sq, p _ H S.good (Ex.refl H) ?_ (by rw [zipL_len, r1.len]; exact Nat.le_trans (Nat.min_le_left _ _) (S.good.t (h1.mono mk_le)))⟩⟩
        unfold WalkD
        rw [zipL_len]
        refine (walk_zipT (xs := vs) (ys := ws) (by rw [r1.len, r2.len])).mono (fun H' ex => ?_) fun i H2 x H3 hi ex y => zipY r1 r2 (by rw [r1.len, r2.len] at hi; exact hi) y
        rw [if_neg (by decide)] at ex
        exact ⟨(h1.mono ex).sq, (h2.mono ex).sq⟩
      | _ => exact p.elim
    | _ => exact p.elim)
  (fun r a s b e => by
    unfold zipV
    cases a <;> cases b <;> simp)

/-! ### what one slot alone holds, changed -/
/-- slot i alone holds a list: it becomes what k says -/
def ownL (Γ : Env) (i : Nat) : Option (List D) := match Γ[i]? with
  | some (.ow (.lst ds)) => some ds
  | _ => none
theorem ownL_eq {i : Nat} {ds : List D} (h : ownL Γ i = some ds) : Γ[i]? = some (.ow (.lst ds)) := by
  unfold ownL at h
  split at h
  · cases h; assumption
  · cases h
def appD (i : Nat) (f : Env → RE) : Env → Out := fun Γ => match ownL Γ i with
  | some ds => evalS f (fun Γ r d => if r ≠ .bor ∧ ds.length < sizeLine then .nx (Γ.set i (.ow (.lst (ds ++ [d])))) else .bad) Γ
  | none => .bad
theorem ss_app {i : Nat} {te : TE} {f : Env → RE} (h : SimE K W te f) : SimS K W (tDrop (tBM K "list" rAppend (tVar i) (tCons te tNil))) (appD i f) := fun H0 om0 Γ σ H om D S p => by
  unfold appD at p
  cases e : ownL Γ i with
  | none => rw [e] at p; exact p.elim
  | some ds =>
    simp only [e] at p
    have eo := ownL_eq e
    obtain ⟨a, a1, a2, a3, vs, a4, a5⟩ := S.ow eo
    refine ⟨.ref a, a2, .inl ⟨rfl, vs, .inl (.inl a4)⟩, ?_⟩
    refine h.stm S p fun r d v H1 R S1 p1 => ?_
    by_cases hc : r ≠ .bor ∧ ds.length < sizeLine
    · rw [if_pos hc] at p1
      obtain ⟨b, b1, b2, b3, ws, b4, b5⟩ := S1.ow eo
      rw [a1] at b1
      cases b1
      have e4 := R.ex _ _ a4
      rw [b4] at e4
      cases e4
      have hl : vs.length < sizeLine := by rw [← b5.len]; exact hc.2
      refine ⟨a, vs, v, rfl, rfl, b4, hl, ?_⟩
      obtain ⟨S2, ex⟩ := S1.put (o := .lst (vs ++ [v])) (d' := .lst (ds ++ [d])) eo a1 (S1.good.lst (by rw [List.length_append, List.length_singleton]; omega)) (fun _ z => nomatch z) (fun _ _ z => nomatch z) ⟨_, upd_same, b5.snoc (R.shr S hc.1)⟩
      exact p1 _ _ ⟨om, S2, (mk_ex R.ex).trans ex⟩
    · rw [if_neg hc] at p1
      exact p1.elim
def extD (i : Nat) (f : Env → RE) : Env → Out := fun Γ => match ownL Γ i with
  | some ds => evalS f (fun Γ _ d => match d with | .lst es => if ds.length + es.length ≤ sizeLine then .nx (Γ.set i (.ow (.lst (ds ++ es)))) else .bad | _ => .bad) Γ
  | none => .bad
theorem ss_ext {i : Nat} {te : TE} {f : Env → RE} (h : SimE K W te f) : SimS K W (tDrop (tBM K "list" rExtend (tVar i) (tCons te tNil))) (extD i f) := fun H0 om0 Γ σ H om D S p => by
  unfold extD at p
  cases e : ownL Γ i with
  | none => rw [e] at p; exact p.elim
  | some ds =>
    simp only [e] at p
    have eo := ownL_eq e
    obtain ⟨a, a1, a2, a3, vs, a4, a5⟩ := S.ow eo
    refine ⟨.ref a, a2, .inl ⟨rfl, vs, .inl (.inl a4)⟩, ?_⟩
    refine h.stm S p fun r d v H1 R S1 p1 => ?_
    cases d with
    | lst es =>
      have p2 : PostS K W H0 om0 om H D (if ds.length + es.length ≤ sizeLine then .nx (Γ.set i (.ow (.lst (ds ++ es)))) else .bad) := p1
      by_cases hc : ds.length + es.length ≤ sizeLine
      · rw [if_pos hc] at p2
        obtain ⟨b, b1, b2, b3, ws, b4, b5⟩ := S1.ow eo
        rw [a1] at b1
        cases b1
        have e4 := R.ex _ _ a4
        rw [b4] at e4
        cases e4
        obtain ⟨c, zs, rfl, c1, c2⟩ := R.opd.lst
        have hl : vs.length + zs.length ≤ sizeLine := by rw [← b5.len, ← c2.len]; exact hc
        refine ⟨a, c, vs, zs, rfl, rfl, b4, c1, hl, ?_⟩
        obtain ⟨S2, ex⟩ := S1.put (o := .lst (vs ++ zs)) (d' := .lst (ds ++ es)) eo a1 (S1.good.lst (by rw [List.length_append]; omega)) (fun _ z => nomatch z) (fun _ _ z => nomatch z) ⟨_, upd_same, b5.append c2⟩
        exact p2 _ _ ⟨om, S2, (mk_ex R.ex).trans ex⟩
      · rw [if_neg hc] at p2
        exact p2.elim
    | _ => exact p1.elim
def clearD (i : Nat) : Env → Out := fun Γ => match ownL Γ i with
  | some _ => .nx (Γ.set i (.ow (.lst [])))
  | none => .bad
theorem ss_clear {i : Nat} : SimS K W (tDrop (tBM0 K "list" rClear (tVar i))) (clearD i) := fun H0 om0 Γ σ H om D S p => by
  unfold clearD at p
  cases e : ownL Γ i with
  | none => rw [e] at p; exact p.elim
  | some ds =>
    simp only [e] at p
    have eo := ownL_eq e
    obtain ⟨a, a1, a2, a3, vs, a4, a5⟩ := S.ow eo
    refine ⟨.ref a, a2, .inl ⟨rfl, vs, .inl (.inl a4)⟩, a, vs, rfl, rfl, a4, ?_⟩
    obtain ⟨S2, ex⟩ := S.put (o := .lst []) (d' := .lst []) eo a1 (S.good.lst (Nat.zero_le _)) (fun _ z => nomatch z) (fun _ _ z => nomatch z) ⟨_, upd_same, repL_nil⟩
    exact p _ _ ⟨om, S2, ex⟩
def revD (i : Nat) : Env → Out := fun Γ => match ownL Γ i with
  | some ds => .nx (Γ.set i (.ow (.lst ds.reverse)))
  | none => .bad
theorem ss_rev {i : Nat} : SimS K W (tDrop (tBM0 K "list" rReverse (tVar i))) (revD i) := fun H0 om0 Γ σ H om D S p => by
  unfold revD at p
  cases e : ownL Γ i with
  | none => rw [e] at p; exact p.elim
  | some ds =>
    simp only [e] at p
    have eo := ownL_eq e
    obtain ⟨a, a1, a2, a3, vs, a4, a5⟩ := S.ow eo
    refine ⟨.ref a, a2, .inl ⟨rfl, vs, .inl (.inl a4)⟩, a, vs, rfl, rfl, a4, ?_⟩
    obtain ⟨S2, ex⟩ := S.put (o := .lst vs.reverse) (d' := .lst ds.reverse) eo a1 (S.good.lst (by rw [List.length_reverse]; exact S.good.l a4)) (fun _ z => nomatch z) (fun _ _ z => nomatch z) ⟨_, upd_same, a5.reverse⟩
    exact p _ _ ⟨om, S2, ex⟩
/-- slot j := slot i's list.pop(e) -/
def popD (j i : Nat) (f : Env → RE) : Env → Out := fun Γ => match ownL Γ i with
  | some ds => evalS f (fun Γ _ d => match d with
    | .int n => if 0 ≤ n ∧ n < 2 ^ 62 then (match ds[n.toNat]? with
      | some x => .nx ((Γ.set i (.ow (.lst (ds.eraseIdx n.toNat)))).set j (.sh x))
      | none => .bad) else .bad
    | _ => .bad) Γ
  | none => .bad
theorem seqIndex_nat {n : Int} {k : Nat} (h0 : 0 ≤ n) (h : n.toNat < k) : PySem.seqIndex? n k = some n.toNat := by
  have : ixN k n = some n.toNat := by
    unfold ixN
    rw [if_pos h0, if_pos (by omega)]
  exact (ixN_seq this).1
theorem ss_pop {i j : Nat} {te : TE} {f : Env → RE} (h : SimE K W te f) : SimS K W (tAsg (tBM K "list" rPopAt (tVar i) (tCons te tNil)) (gName j)) (popD j i f) := fun H0 om0 Γ σ H om D S p => by
  unfold popD at p
  cases e : ownL Γ i with
  | none => rw [e] at p; exact p.elim
  | some ds =>
    simp only [e] at p
    have eo := ownL_eq e
    obtain ⟨a, a1, a2, a3, vs, a4, a5⟩ := S.ow eo
    refine ⟨.ref a, a2, .inl ⟨rfl, vs, .inl (.inl a4)⟩, ?_⟩
    refine h.stm S p fun r d v H1 R S1 p1 => ?_
    cases d with
    | int n =>
      have p2 : PostS K W H0 om0 om H D (if 0 ≤ n ∧ n < 2 ^ 62 then (match ds[n.toNat]? with
        | some x => .nx ((Γ.set i (.ow (.lst (ds.eraseIdx n.toNat)))).set j (.sh x))
        | none => .bad) else .bad) := p1
      by_cases hc : 0 ≤ n ∧ n < 2 ^ 62
      · rw [if_pos hc] at p2
        cases ex : ds[n.toNat]? with
        | none => rw [ex] at p2; exact p2.elim
        | some x =>
          rw [ex] at p2
          obtain ⟨b, b1, b2, b3, ws, b4, b5⟩ := S1.ow eo
          rw [a1] at b1
          cases b1
          have e4 := R.ex _ _ a4
          rw [b4] at e4
          cases e4
          obtain ⟨y, y1, y2⟩ := b5.get ex
          have hl : n.toNat < vs.length := (List.getElem?_eq_some_iff.mp y1).1
          rw [R.opd.int]
          refine ⟨a, vs, n, n.toNat, y, rfl, rfl, b4, by omega, by omega, seqIndex_nat hc.1 hl, y1, ?_⟩
          obtain ⟨S2, ex2⟩ := S1.put (o := .lst (vs.eraseIdx n.toNat)) (d' := .lst (ds.eraseIdx n.toNat)) eo a1 (S1.good.lst (Nat.le_trans (List.length_eraseIdx_le _ _) (S1.good.l b4))) (fun _ z => nomatch z) (fun _ _ z => nomatch z) ⟨_, upd_same, b5.erase _⟩
          exact p2 _ _ ⟨om, S2.setSh (Rep.mono ex2 _ y2) j, (mk_ex R.ex).trans ex2⟩
      · rw [if_neg hc] at p2
        exact p2.elim
    | _ => exact p1.elim
/-- slot i's list[e] = f -/
def setD (i : Nat) (f fi : Env → RE) : Env → Out := fun Γ => match ownL Γ i with
  | some ds => evalS f (fun Γ r d => evalS fi (fun Γ _ n => match n with
    | .int n => if r ≠ .bor then (match ixN ds.length n with
      | some k => .nx (Γ.set i (.ow (.lst (ds.set k d))))
      | none => .bad) else .bad
    | _ => .bad) Γ) Γ
  | none => .bad
theorem ss_set {i : Nat} {te ti : TE} {f fi : Env → RE} (h : SimE K W te f) (h2 : SimE K W ti fi) : SimS K W (tAsg te (gSub (tVar i) ti rSetL)) (setD i f fi) := fun H0 om0 Γ σ H om D S p => by
  unfold setD at p
  cases e : ownL Γ i with
  | none => rw [e] at p; exact p.elim
  | some ds =>
    simp only [e] at p
    have eo := ownL_eq e
    obtain ⟨a, a1, a2, a3, vs, a4, a5⟩ := S.ow eo
    refine h.stm S p fun r d v H1 R S1 p1 => ?_
    refine ⟨.ref a, a2, ?_⟩
    refine h2.stm S1 (PostS.back p1 (mk_ex R.ex)) fun r2 n w H2 R2 S2 p2 => ?_
    cases n with
    | int n =>
      have p3 : PostS K W H0 om0 om H1 D (if r ≠ .bor then (match ixN ds.length n with
        | some k => .nx (Γ.set i (.ow (.lst (ds.set k d))))
        | none => .bad) else .bad) := p2
      by_cases hc : r ≠ .bor
      · rw [if_pos hc] at p3
        cases ex : ixN ds.length n with
        | none => rw [ex] at p3; exact p3.elim
        | some k =>
          rw [ex] at p3
          obtain ⟨b, b1, b2, b3, ws, b4, b5⟩ := S2.ow eo
          rw [a1] at b1
          cases b1
          have e4 := (R.ex.trans R2.ex) _ _ a4
          rw [b4] at e4
          cases e4
          rw [R2.opd.int]
          refine ⟨a, vs, n, k, rfl, rfl, b4, by rw [← b5.len]; exact ex, ?_⟩
          obtain ⟨S3, ex2⟩ := S2.put (o := .lst (vs.set k v)) (d' := .lst (ds.set k d)) eo a1 (S2.good.lst (by rw [List.length_set]; exact S2.good.l b4)) (fun _ z => nomatch z) (fun _ _ z => nomatch z) ⟨_, upd_same, b5.set (Rep.mono (mk_ex R2.ex) _ (R.shr S hc)) _⟩
          exact p3 _ _ ⟨om, S3, (mk_ex R2.ex).trans ex2⟩
      · rw [if_neg hc] at p3
        exact p3.elim
    | _ => exact p2.elim
/-! ### while -/
def whileGo (fc : Env → RE) (fb : Env → Out) : Nat → Env → Out
  | 0, _ => .bad
  | n + 1, Γ => evalS fc (fun Γ _ d => match d with
    | .bl true => (match fb Γ with
      | .nx Γ2 => whileGo fc fb n Γ2
      | .cnt Γ2 => whileGo fc fb n Γ2
      | .brk Γ2 => .nx Γ2
      | x => x)
    | .bl false => .nx Γ
    | _ => .bad) Γ
theorem ss_while {n : Nat} {c : TT} {tb : TS} {fc : Env → RE} {fb : Env → Out} (hc : SimT K W c fc) (hb : SimS K W tb fb) : SimS K W (tWhile c tb) (whileGo fc fb n) := fun H0 om0 Γ σ H om D S p => by
  refine ⟨fun m σ' H' => ∃ om' Γi, Sta K H0 om0 Γi σ' H' om' ∧ Ex (msk om H) (msk om' H') ∧ PostS K W H0 om0 om' H' D (whileGo fc fb m Γi), ⟨n, om, Γ, S, Ex.refl _, p⟩, ?_⟩
  rintro m σ' H' ⟨om', Γi, S', ex, q⟩
  cases m with
  | zero => exact q.elim
  | succ m =>
    unfold whileGo evalS at q
    refine hc H0 om0 Γi σ' H' om' _ S' ?_
    cases e : fc Γi with
    | exc x =>
      rw [e] at q
      exact fun H2 dd g e' a => q σ' H2 dd (.step S' e' g) a
    | bad => rw [e] at q; exact q
    | ok r d =>
      rw [e] at q
      cases d with
      | bl b =>
        intro H2 g2 e2
        have S2 := S'.step e2 g2
        have q2 := PostS.back (om' := om') (H' := H2) q (mk_ex e2)
        cases b with
        | false =>
          show D.nx σ' H2
          exact q2 σ' H2 (.refl S2)
        | true =>
          refine ⟨fun σ3 H3 => ∃ om3 Γ3, Sta K H0 om0 Γ3 σ3 H3 om3 ∧ Ex (msk om H) (msk om3 H3) ∧ PostS K W H0 om0 om3 H3 D (whileGo fc fb m Γ3), fun σ3 H3 z => ⟨m, Nat.lt_succ_self m, z⟩, ?_⟩
          refine hb H0 om0 Γi σ' H2 om' _ S2 ?_
          cases eb : fb Γi with
          | nx Γ2 =>
            simp only [eb] at q2
            rintro σ4 H4 ⟨om4, S4, ex4⟩
            exact ⟨om4, Γ2, S4, (ex.trans (mk_ex e2)).trans ex4, PostS.back q2 ex4⟩
          | cnt Γ2 =>
            simp only [eb] at q2
            rintro σ4 H4 ⟨om4, S4, ex4⟩
            exact ⟨om4, Γ2, S4, (ex.trans (mk_ex e2)).trans ex4, PostS.back q2 ex4⟩
          | brk Γ2 => simp only [eb] at q2; exact fun σ4 H4 f4 => q2 σ4 H4 f4
          | ret c d => simp only [eb] at q2; exact q2
          | exc Γ2 x => simp only [eb] at q2; exact q2
          | bad => simp only [eb] at q2; exact q2
      | _ => exact q.elim
end

/-! ### a def -/
def start0 (n : Nat) (ds : List D) : Env := ds.map .sh ++ List.replicate (n - ds.length) .no
def denOf (n : Nat) (g : Env → Out) (ds : List D) : FR := match g (start0 n ds) with
  | .nx _ => .ok false .non
  | .ret c d => .ok c d
  | .exc _ e => .exc e
  | _ => .bad
theorem sta0 {K : PySem.W.Frag} {om0 : Nat → Option Addr} {H : Hp} {N : List Str} {ds : List D} {vs : List V} (en : Entry K om0 H) (hr : RepL K (msk om0 H) ds vs) (hl : vs.length ≤ N.length) :
    ∃ om, Sta K H om0 (start0 N.length ds) (L2.start N vs) H om ∧ msk om H = msk om0 H := by
  have hlen : (start0 N.length ds).length = N.length := by
    unfold start0
    rw [List.length_append, List.length_map, List.length_replicate, hr.len]
    omega
  have eqm : msk (fun j => if j < N.length then none else om0 (j - N.length)) H = msk om0 H := by
    funext a
    by_cases h : ∃ i, om0 i = some a
    · obtain ⟨i, hi⟩ := h
      rw [mk_own hi, mk_own (i := N.length + i) (by
        rw [if_neg (by omega)]
        rw [show N.length + i - N.length = i by omega]
        exact hi)]
    · have h' : ∀ i, om0 i ≠ some a := fun i z => h ⟨i, z⟩
      rw [mk_at h', mk_at fun i z => ?_]
      have z2 : (if i < N.length then none else om0 (i - N.length)) = some a := z
      by_cases hi : i < N.length
      · rw [if_pos hi] at z2; cases z2
      · rw [if_neg hi] at z2; exact h' _ z2
  refine ⟨fun j => if j < N.length then none else om0 (j - N.length), ⟨?_, en.good, Ex.refl H, fun i j a e1 e2 => ?_, fun i a e => ?_, fun i a e => ?_, ?_, fun j => ?_⟩, eqm⟩
  · rw [hlen]
    unfold L2.start
    rw [List.length_append, List.length_map, List.length_replicate]
    omega
  · by_cases h1 : i < N.length
    · rw [if_pos h1] at e1; cases e1
    · by_cases h2 : j < N.length
      · rw [if_pos h2] at e2; cases e2
      · rw [if_neg h1] at e1
        rw [if_neg h2] at e2
        have := en.inj _ _ _ e1 e2
        omega
  · by_cases h1 : i < N.length
    · rw [if_pos h1] at e; cases e
    · rw [if_neg h1] at e
      exact en.dom _ _ e
  · rw [hlen]
    show (if N.length + i < N.length then none else om0 (N.length + i - N.length)) = some a
    rw [if_neg (by omega), show N.length + i - N.length = i by omega]
    exact e
  · obtain ⟨n, hn⟩ := en.bnd
    refine ⟨N.length + n, by omega, fun i hi => ?_⟩
    show (if i < N.length then none else om0 (i - N.length)) = none
    rw [if_neg (by omega)]
    exact hn _ (by omega)
  · rw [eqm.symm] at hr
    unfold start0
    by_cases hj : j < ds.length
    · rw [List.getElem?_append_left (by rw [List.length_map]; exact hj), List.getElem?_map, List.getElem?_eq_getElem hj]
      obtain ⟨v, h1, h2⟩ := hr.get (List.getElem?_eq_getElem hj)
      refine ⟨v, ?_, h2⟩
      unfold L2.start
      have hv : j < vs.length := by rw [← hr.len]; exact hj
      rw [List.getElem?_append_left (by rw [List.length_map]; exact hv), List.getElem?_map, h1]
      rfl
    · rw [List.getElem?_append_right (by rw [List.length_map]; omega)]
      cases e : (List.replicate (N.length - ds.length) Slot.no)[j - (ds.map Slot.sh).length]? with
      | none => trivial
      | some s =>
        have := (List.mem_replicate.mp (List.mem_of_getElem? e)).2
        subst this
        trivial
/-- a def of the text that keeps the promise of its function on data -/
structure HasF (P : Program) (w : World) (K : PySem.W.Frag) (mg : Str → Option Value) (base : Heap) (k : Nat) (x : Str) (ps : List Str) (den : List D → FR) : Prop where
  ex : ∃ f fd, mg x = some (.ref f) ∧ PySem.W.keepIn K (.ref f) = true ∧ Binds K fd ps [] ∧ FnOk P w K mg base (L2N.CX P w) k f fd ps (spD K ps.length den)
section
variable {P : Program} {w : World} {K : PySem.W.Frag} {mg : Str → Option Value} {base : Heap}
theorem fn_has {CX : CXT} {x qual : Str} {params : Arguments} {body : List Stmt} {scope : Scope} {f : Addr} {fd : FuncData} {N ps : List Str} {k : Nat} (F : FunD K x qual params body scope [] [] f fd) (S : FnScope N ps scope) {g : Env → Out} {den : List D → FR} (hden : ∀ ds, den ds = denOf N.length g ds)
    (hbody : ∀ (cdv : Value) (A : Around) (outer : List PySem.Env) (s : Shared) (H : Hp) (E : XK), Room k (A.deeper (envOfC qual scope s.heap.objs.size f cdv)) → ∃ t, PSs (cxOf CX P w K mg base N qual scope f cdv A outer s H E) body t ∧ SimS K (fun cls d _ H => E cls d H) t g) :
    FnOk P w K mg base CX (k + 1) f fd ps (spD K ps.length den) := by
  refine F.ok S (fun vs H Q E h => spD_len h) fun cdv A outer s H vs Q E hr h => ?_
  have hlv := spD_len h
  obtain ⟨om0, ds, hl, rr, en, post⟩ := h
  obtain ⟨t, ht, sim⟩ := hbody cdv A outer s H E hr
  have hN : ps.length ≤ N.length := by
    have := congrArg List.length S.pre
    rw [List.length_take] at this
    omega
  obtain ⟨om, st, em⟩ := sta0 (N := N) en rr (by rw [hlv]; exact hN)
  refine ⟨t, ht, sim H om0 (start0 N.length ds) (L2.start N vs) H om _ st ?_⟩
  rw [hden] at post
  unfold denOf at post
  cases e : g (start0 N.length ds) with
  | nx Γ' =>
    rw [e] at post
    rintro σ' H' ⟨om', S', _⟩
    refine post .non H' S'.good S'.base ?_
    unfold Ret
    rw [if_neg (by decide)]
    simp only [Rep]
  | ret c d => rw [e] at post; exact post
  | exc Γ' x =>
    rw [e] at post
    rintro σ' H' dd ⟨om', S', _⟩ a
    exact post H' dd S'.good S'.base a
  | brk Γ' => rw [e] at post; exact post.elim
  | cnt Γ' => rw [e] at post; exact post.elim
  | bad => rw [e] at post; exact post.elim
theorem has_of {x x2 qual : Str} {params : Arguments} {body : List Stmt} {scope : Scope} {f : Addr} {fd : FuncData} {N ps : List Str} {k : Nat} (hm : mg x = some (.ref f)) (F : FunD K x2 qual params body scope [] [] f fd) (S : FnScope N ps scope)
    (hb : ∀ (kV doc pm : Value) (an : Option Addr) (cdv ct : Value) (us : List Value), us.length = ps.length → bindArgs (PySem.W.fnOf x2 qual params body scope .none kV doc pm an cdv ct) ⟨us, []⟩ = pure (ps.zip us)) {g : Env → Out} {den : List D → FR} (hden : ∀ ds, den ds = denOf N.length g ds)
    (hbody : ∀ (cdv : Value) (A : Around) (outer : List PySem.Env) (s : Shared) (H : Hp) (E : XK), Room k (A.deeper (envOfC qual scope s.heap.objs.size f cdv)) → ∃ t, PSs (cxOf (L2N.CX P w) P w K mg base N qual scope f cdv A outer s H E) body t ∧ SimS K (fun cls d _ H => E cls d H) t g) :
    HasF P w K mg base (k + 1) x ps den := ⟨f, fd, hm, F.kp, FunD.bindsN F hb, fn_has F S hden hbody⟩
theorem pe_has {X : Cx} {k : Nat} {x : Str} {ps : List Str} {den : List D → FR} {W : WX} {e : Expr} {es : List Expr} {t : TA} {p pos : Pos} {A : Around} (F : HasF P w K mg base k x ps den) (hr : Room k A) (hg : Gl X x) (tk : L2N.Takes X W) (ha : PA X (e :: es) t)
    (e1 : X.prog = P := by rfl) (e2 : X.w = w := by rfl) (e3 : X.K = K := by rfl) (e4 : X.mg = mg := by rfl) (e5 : X.base = base := by rfl) (e6 : X.A = A := by rfl)
    (hdb : (x == ("__debug__" : Str)) = false := by decide) (he : starEach (e :: es) X.env = (false, eval e X.env) :: starEach es X.env := by rfl) (hpl : (backTo pos (starEach es X.env)).any (·.1) = false := by rfl) :
    PE X (.Call (.Name x p) (e :: es) [] pos) (tCallS (spD K ps.length den) (WE W) t) := by
  subst e1 e2 e3 e4 e5 e6
  obtain ⟨f, fd, h1, h2, h3, h4⟩ := F.ex
  exact pe_callS h4 hr hg h1 h2 h3 (fun σ => L2N.passAt tk σ) ha hdb he hpl
theorem se_has {W : WX} {n : Nat} {den : List D → FR} {ta : TA} {g : Env → RL} (h : SimA K W ta g) : SimE K W (tCallS (spD K n den) (WE W) ta) (callD n den g) := se_call (fun _ _ _ _ => rfl) h
/-- in a def's body: what it lets out -/
theorem tkN {X : Cx} (hs : X.stack = X.env :: X.outer) (hf : X.env.frame = some X.env.locals) (hex : X.ex = []) {E : XK} {E₁ : Value → Shared → Prop}
    (hx : X.xe = fun e s' => wpAny (model X.prog X.w) X.A (leaving X.env e) (fun _ s'' => L2N.CX X.prog X.w X.outer X.H_0 X.s_0 E e s'') E₁ s') : L2N.Takes X (fun cls d _ H => E cls d H) := L2N.takes_of hs hf hex hx
/-- where nothing may be let out -/
theorem tkF {X : Cx} : L2N.Takes X WF := fun _ _ x => by
  obtain ⟨_, _, _, _, _, _, _, _, _, _, _, _, _, _, _, _, z⟩ := x
  exact z.elim
end
/-- a law's end, the kinds of errors by the world -/
theorem walk_ofW {l : PySem.W.OpenLaw} {n k : Nat} {q : Program} {loose : List Str} {XP : (Str → Option Value) → Heap → Prop} {YP : World → Heap → Prop} {d : DefRec} {x : Str} {den : List D → FR}
    (hn : l.most = some n) (hn2 : n ≤ sizeLine) (hdf : d.params.defaults = []) (hr : Room k callerA)
    (F : ∀ (w : World) (mg : Str → Option Value) (fa : Addr) (h : Heap), YP w h → h.Ns mainGlobals mg → mg d.name = some (.ref fa) →
      ∃ (K : PySem.W.Frag) (fd : FuncData), K.In h ∧ (∀ (s : Shared) (u : Value), BindsTo s fd ⟨[u], []⟩ [(x, u)]) ∧
        ∀ base : Heap, K.In base → base.Ns mainGlobals mg → FnOk l.prog w K mg base (L2N.CX l.prog w) k fa fd [x] (spD K 1 den))
    (hlaw : ∀ ns : List Int, ns.length ≤ n → ∃ c, den [.scr ns] = .ok c (.bl true)) :
    PySem.W.WalkO q loose XP YP l.row.toRowW d [] (fun f vs => PySem.call f vs) := by
  refine Att.attach_call hn hdf fun w s₀ s₁ mg mb fa o pm cd doc a vs ns G Y ho hd hcd hmg hobj hints hlen hg => ?_
  obtain ⟨K, fd, KX, hb, hF⟩ := F w mg fa _ Y G.T.g hmg
  refine law_call KX G.T.g G.T.b G.T.builtins G.T.nolimit hg hobj hints (Nat.le_trans hlen hn2) hr hF hb (fun H hO hS => ?_) fun H e s' hc => ?_
  · obtain ⟨c, hc⟩ := hlaw ns hlen
    have gd : Good H := fun b xs z => by
      rcases hO b with h | ⟨o, xs', h⟩
      · rw [h] at z; rcases z with z | z <;> cases z
      · rw [h] at z; rcases z with z | z <;> cases z
    refine ⟨om_0, [.scr ns], rfl, ?_, entry0 gd, ?_⟩
    · refine repL_cons ?_ repL_nil
      simp only [Rep]
      refine ⟨a, rfl, ?_⟩
      rcases hS with (h | ⟨o, h⟩) | h
      · rcases hO a with h' | ⟨o, xs', h'⟩
        · rw [h'] at h; cases h
        · rw [h'] at h; cases h
      · refine .inl ⟨o, ?_⟩
        rw [mk_at fun i z => om_0_ne z]
        exact h
      · exact .inr fun H' => .inr h
    · rw [hc]
      intro v H' _ _ r
      unfold Ret at r
      by_cases hcc : c = true
      · rw [if_pos hcc] at r
        obtain ⟨_, _, _, r⟩ := r
        cases r
      · rw [if_neg hcc] at r
        simpa only [Rep] using r
  · obtain ⟨_, _, _, _, _, _, _, _, _, _, _, _, z⟩ := hc
    exact z.elim
end VL

namespace VL
open PySem PySem.Spec PyProof.Rows L2
section
variable {K : PySem.W.Frag} {W : WX} {H0 : Hp} {om0 om om' : Nat → Option Addr} {Γ Γ' : Env} {σ σ' : L2.St} {H H' H1 H2 : Hp} {d : D} {v : V} {r : Rt} {X : Cx}
/-! ### chains -/
def chainD (g g' : D → D → RE) (f1 f2 f3 : Env → RE) : Env → RE := fun Γ => bindE (f1 Γ) fun _ a => bindE (f2 Γ) fun _ b => match g a b with
  | .ok _ (.bl true) => bindE (f3 Γ) fun _ c => (match g' b c with | .ok s d => .ok s d | _ => .bad)
  | .ok _ (.bl false) => .ok .shr (.bl false)
  | _ => .bad
theorem se_chain {r r' : R2} {g g' : D → D → RE} {ta tb tc : TE} {f1 f2 f3 : Env → RE} (hr : OpSim K r g) (hr' : OpSim K r' g') (h1 : SimE K W ta f1) (h2 : SimE K W tb f2) (h3 : SimE K W tc f3) : SimE K W (tChain r r' ta tb tc) (chainD g g' f1 f2 f3) := fun H0 om0 Γ σ H om Q S p => by
  refine h1.bind S p fun _ a va H1 _ R1 S1 p1 => ?_
  refine h2.bind S1 (p1.back R1.ex) fun _ b vb H2 _ R2 S2 p2 => ?_
  have p2 := p2.back R2.ex
  refine hr H0 om0 Γ σ H2 om a b va vb _ S2 (R1.opd.step R2.ex) R2.opd ?_
  cases e : g a b with
  | ok s d =>
    simp only [e] at p2
    cases d with
    | bl k =>
      intro v H3 R3
      refine ⟨k, R3.opd.bl, ?_⟩
      cases k with
      | false =>
        rw [if_neg Bool.false_ne_true]
        exact blE R3.good (p2.back R3.ex)
      | true =>
        rw [if_pos rfl]
        have S3 := S2.step R3.ex R3.good
        refine h3.bind S3 (p2.back R3.ex) fun _ c vc H4 _ R4 S4 p4 => ?_
        have p4 := p4.back R4.ex
        refine hr' H0 om0 Γ σ H4 om b c vb vc Q S4 ((R2.opd.step R3.ex).step R4.ex) R4.opd ?_
        cases e2 : g' b c with
        | ok s d => simp only [e2] at p4; exact fun v H' R => p4 v H' R
        | exc x => simp only [e2] at p4; exact p4
        | bad => simp only [e2] at p4; exact p4
    | _ => exact p2.elim
  | exc x => simp only [e] at p2; exact p2
  | bad => simp only [e] at p2; exact p2

/-! ### a try that runs through -/
def thruD (f : Env → Out) : Env → Out := fun Γ => match f Γ with
  | .exc _ _ => .bad
  | x => x
theorem ss_thru {t : TS} {f : Env → Out} (h : SimS K WF t f) : SimS K W t (thruD f) := fun H0 om0 Γ σ H om D S p => by
  unfold thruD at p
  refine h H0 om0 Γ σ H om D S ?_
  cases e : f Γ with
  | exc Γ' x => rw [e] at p; exact p.elim
  | nx Γ' => rw [e] at p; exact p
  | brk Γ' => rw [e] at p; exact p
  | cnt Γ' => rw [e] at p; exact p
  | ret c d => rw [e] at p; exact p
  | bad => rw [e] at p; exact p
/-! ### the module's names -/
theorem pe_gint {x : Str} {i : Int} {pos : Pos} (hg : Gl X x) (hm : ∃ t, X.mg x = some (.int i t)) (hd : (x == ("__debug__" : Str)) = false := by decide) : PE X (.Name x pos) (tC (.int i)) := by
  obtain ⟨t, h⟩ := hm
  exact pe_glob hg h ⟨_, rfl⟩ hd
theorem pe_gstr {x : Str} {z : Str} {pos : Pos} (hg : Gl X x) (hm : ∃ t, X.mg x = some (.str z t)) (hd : (x == ("__debug__" : Str)) = false := by decide) : PE X (.Name x pos) (tC (.str z)) := by
  obtain ⟨t, h⟩ := hm
  exact pe_glob hg h ⟨_, rfl⟩ hd
theorem pe_gref {x : Str} {a : Addr} {pos : Pos} (hg : Gl X x) (hm : X.mg x = some (.ref a)) (hd : (x == ("__debug__" : Str)) = false := by decide) : PE X (.Name x pos) (tC (.ref a)) := pe_glob hg hm rfl hd
/-- a type's name, as a value -/
theorem pe_tyN {x : Str} {n : String} {pos : Pos} (hg : Gl X x) (hm : X.mg x = none) (hv : bootBuiltins x = some (.type n)) (hn : x ≠ "__name__" := by decide) (hd : (x == ("__debug__" : Str)) = false := by decide) : PE X (.Name x pos) (tC (.ty n)) := pe_bltn hg hm hv rfl hn hd
def DvD : He.Dv → Option D
  | .non => some .non
  | .bl b => some (.bl b)
  | .int i => some (.int i)
  | .str x => some (.str x)
  | _ => none
def dvsD : List He.Dv → Option (List D)
  | [] => some []
  | v :: vs => match DvD v, dvsD vs with
    | some d, some ds => some (d :: ds)
    | _, _ => none
theorem dvsD_rep {G : Hp} : ∀ {vs : List He.Dv} {ds : List D}, dvsD vs = some ds → RepL K G ds (vs.map (He.Dv.v K))
  | [], _, e => by cases e; exact repL_nil
  | v :: vs, _, e => by
    simp only [dvsD] at e
    cases e1 : DvD v with
    | none => rw [e1] at e; simp at e
    | some d =>
      cases e2 : dvsD vs with
      | none => rw [e1, e2] at e; simp at e
      | some ds =>
        rw [e1, e2] at e
        simp only [Option.some.injEq] at e
        subst e
        refine repL_cons ?_ (dvsD_rep e2)
        cases v <;> simp only [DvD, reduceCtorEq, Option.some.injEq] at e1 <;> (subst e1; simp only [Rep, He.Dv.v])
theorem se_gtup {x : Str} {vs : List He.Dv} {ds : List D} (h : He.tupB K x vs = true) (e : dvsD vs = some ds) : SimE K W (tC (.ref (He.ga K x))) (cD (.tup ds)) := se_c fun G => by
  simp only [Rep]
  refine ⟨He.ga K x, _, rfl, ?_, dvsD_rep e⟩
  rcases He.tupB_ok h (fun _ => none) with (z | ⟨o, z⟩) | z
  · cases z
  · cases z
  · exact .inr z

/-! ### the built-ins' names -/
theorem bt_len : bootBuiltins "len" = some (.builtin "len") := by decide +kernel
theorem bt_list : bootBuiltins "list" = some (.type "list") := by decide +kernel
theorem bt_tuple : bootBuiltins "tuple" = some (.type "tuple") := by decide +kernel
theorem bt_int : bootBuiltins "int" = some (.type "int") := by decide +kernel
theorem bt_str : bootBuiltins "str" = some (.type "str") := by decide +kernel
theorem bt_bool : bootBuiltins "bool" = some (.type "bool") := by decide +kernel
theorem bt_dict : bootBuiltins "dict" = some (.type "dict") := by decide +kernel
theorem bt_all : bootBuiltins "all" = some (.builtin "all") := by decide +kernel
theorem bt_any : bootBuiltins "any" = some (.builtin "any") := by decide +kernel
theorem bt_sum : bootBuiltins "sum" = some (.builtin "sum") := by decide +kernel
theorem bt_max : bootBuiltins "max" = some (.builtin "max") := by decide +kernel
theorem bt_min : bootBuiltins "min" = some (.builtin "min") := by decide +kernel
theorem bt_sorted : bootBuiltins "sorted" = some (.builtin "sorted") := by decide +kernel
theorem bt_isi : bootBuiltins "isinstance" = some (.builtin "isinstance") := by decide +kernel
theorem bt_ve : bootBuiltins "ValueError" = some (.type "ValueError") := by decide +kernel
end

/-! ### what the top leaves: the defs by name, and one more Bool -/
abbrev AlV : Type := He.AlD × Bool
def obsV (fa : List He.Fa) (fn : List He.DefD) (ex : PySem.W.Frag → Bool) (K : PySem.W.Frag) : AlV := (He.obsD fa fn K, ex K)
def valV (fn : List He.DefD) : AlV := (He.valD fn, true)
def obsVG (n : Nat) (fa : List He.Fa) (fn : List He.DefD) (ex : PySem.W.Frag → Bool) (g : Addr → Option Obj) : AlV := obsV fa fn ex (He.frG g (He.asD g n))
def SaysV (fa : List He.Fa) (fn : List He.DefD) (ex : PySem.W.Frag → Bool) (K : PySem.W.Frag) : Prop := obsV fa fn ex K = valV fn
def hookV (n : Nat) (fa : List He.Fa) (fn : List He.DefD) (ex : PySem.W.Frag → Bool) : PySem.W.Hook where
  α := AlV
  obs := fun s => obsVG n fa fn ex s.heap.get?
  val := fun _ => valV fn
  says := fun _ h => ∃ K : PySem.W.Frag, K.In h ∧ SaysV fa fn ex K
  of := fun _ _ e => ⟨_, He.frG_in, e⟩
  keeps := fun _ _ _ ⟨K, hK, c⟩ k => ⟨K, PySem.W.Frag.In.keeps hK k, c⟩
theorem obsVG_eq {n : Nat} {fa : List He.Fa} {fn : List He.DefD} {ex : PySem.W.Frag → Bool} {g : Addr → Option Obj} {s : Shared} (h : ∀ a, g a = s.heap.get? a) : obsVG n fa fn ex g = (hookV n fa fn ex).obs s := by
  have e : g = s.heap.get? := funext h
  rw [e] <;> rfl
/-- what the defs' proofs lean on -/
structure Cfx (fa : List He.Fa) (fn : List He.DefD) (ex : PySem.W.Frag → Bool) (K : PySem.W.Frag) (mg : Str → Option Value) : Prop where
  says : SaysV fa fn ex K
  heap : ∃ h : Heap, K.In h ∧ h.Ns mainGlobals mg
section
variable {fa : List He.Fa} {fn : List He.DefD} {ex : PySem.W.Frag → Bool} {K : PySem.W.Frag} {mg : Str → Option Value}
theorem Cfx.d (C : Cfx fa fn ex K mg) : He.SaysD fa fn K := congrArg (fun z : AlV => z.1) C.says
theorem Cfx.x (C : Cfx fa fn ex K mg) : ex K = true := congrArg (fun z : AlV => z.2) C.says
theorem Cfx.fr (C : Cfx fa fn ex K mg) (i : Nat) {x : Str} (h : fa[i]? = some (.free x) := by rfl) : mg x = none := let ⟨_, X, G⟩ := C.heap; He.free_ok X G (C.d.fact i h)
theorem Cfx.gl (C : Cfx fa fn ex K mg) (i : Nat) {x : Str} (h : fa[i]? = some (.glo x) := by rfl) : mg x = some (.ref (He.ga K x)) := let ⟨_, X, G⟩ := C.heap; He.glo_ok X G (C.d.fact i h)
theorem Cfx.gi (C : Cfx fa fn ex K mg) (i : Nat) {x : Str} {n : Int} (h : fa[i]? = some (.int x n) := by rfl) : ∃ t, mg x = some (.int n t) := let ⟨_, X, G⟩ := C.heap; He.int_ok X G (C.d.fact i h)
theorem Cfx.gs (C : Cfx fa fn ex K mg) (i : Nat) {x z : Str} (h : fa[i]? = some (.str x z) := by rfl) : ∃ t, mg x = some (.str z t) := let ⟨_, X, G⟩ := C.heap; He.str_ok X G (C.d.fact i h)
theorem Cfx.fn_ (C : Cfx fa fn ex K mg) (i : Nat) {d : He.DefD} (h : fn[i]? = some d := by rfl) : ∃ fd, FunD K d.name d.qual d.params d.body d.scope (d.dvs K) (d.kws K) (He.fAd K d.at_) fd := C.d.def_ i h
end
end VL

namespace VL
open PySem PySem.Spec PyProof.Rows L2
/-! ### a law's body: the heap at its entry holds no lists; what is shared may be changed -/
def NoL (H : Hp) : Prop := ∀ a o, H a = some o → ∃ ob u, o = .frz ob u
def PostL (K : PySem.W.Frag) (W : WX) (H0 : Hp) (om0 : Nat → Option Addr) (D : Ends) : Out → Prop
  | .nx Γ' => ∀ σ' H' om', Sta K H0 om0 Γ' σ' H' om' → D.nx σ' H'
  | .ret c d => ∀ v H', Good H' → Ex H0 H' → Ret K om0 H0 c d v H' → D.rt v H'
  | .exc Γ' e => ∀ σ' H' om' dd, Sta K H0 om0 Γ' σ' H' om' → ExcAt K H' e dd → W (clsOf K e) dd σ' H'
  | _ => False
def SimL (K : PySem.W.Frag) (W : WX) (t : TS) (f : Env → Out) : Prop := ∀ H0 om0 Γ σ H om D, NoL H0 → Sta K H0 om0 Γ σ H om → PostL K W H0 om0 D (f Γ) → t D σ H
section
variable {K : PySem.W.Frag} {W : WX} {H0 : Hp} {om0 om om' : Nat → Option Addr} {Γ Γ' : Env} {σ σ' : L2.St} {H H' H1 H2 : Hp} {d : D} {v : V} {r : Rt} {D1 : Ends} {t u : TS} {f g : Env → Out} {te : TE} {fe : Env → RE}
theorem PostL.s {x : Out} (p : PostL K W H0 om0 D1 x) : PostS K W H0 om0 om H D1 x := by
  cases x with
  | nx Γ => rintro σ' H' ⟨om', S, _⟩; exact p σ' H' om' S
  | brk Γ => exact p.elim
  | cnt Γ => exact p.elim
  | ret c d => exact p
  | exc Γ e => rintro σ' H' dd ⟨om', S, _⟩ a; exact p σ' H' om' dd S a
  | bad => exact p
theorem sl_of (h : SimS K W t f) : SimL K W t f := fun H0 om0 Γ σ H om D _ S p => h H0 om0 Γ σ H om D S p.s
theorem sl_seq (h1 : SimL K W t f) (h2 : SimL K W u g) : SimL K W (tSeq t u) (seqD f g) := fun H0 om0 Γ σ H om D N S p => by
  unfold seqD at p
  refine h1 H0 om0 Γ σ H om _ N S ?_
  cases e : f Γ with
  | nx Γ' =>
    rw [e] at p
    exact fun σ' H' om' S' => h2 H0 om0 Γ' σ' H' om' D N S' p
  | brk Γ' => rw [e] at p; exact p.elim
  | cnt Γ' => rw [e] at p; exact p.elim
  | ret c d => rw [e] at p; exact p
  | exc Γ' x => rw [e] at p; exact p
  | bad => rw [e] at p; exact p.elim
theorem sl_if {c : TT} {fc : Env → RE} (hc : SimT K W c fc) (h1 : SimL K W t f) (h2 : SimL K W u g) : SimL K W (tIfS c t u) (ifS fc f g) := fun H0 om0 Γ σ H om D N S p => by
  unfold ifS evalS at p
  refine hc H0 om0 Γ σ H om _ S ?_
  cases e : fc Γ with
  | ok r d =>
    rw [e] at p
    cases d with
    | bl b =>
      intro H1 g1 e1
      cases b with
      | true => exact h1 H0 om0 Γ σ H1 om D N (S.step e1 g1) p
      | false => exact h2 H0 om0 Γ σ H1 om D N (S.step e1 g1) p
    | _ => exact p.elim
  | exc x =>
    rw [e] at p
    exact fun H' dd g e' a => p σ H' om dd (S.step e' g) a
  | bad => rw [e] at p; exact p.elim

/-! ### shared lists cleared -/
def pois : Slot → Slot
  | .sh d => if d.imm = true then .sh d else .no
  | .ow d => if kidsImm d = true then .ow d else .no
  | .no => .no
def poisE (Γ : Env) : Env := Γ.map pois
/-- Γ tells only of what stays when shared lists change -/
def Tame (Γ : Env) : Prop := ∀ i : Nat, (∀ d : D, Γ[i]? = some (Slot.sh d) → d.imm = true) ∧ ∀ d : D, Γ[i]? = some (Slot.ow d) → kidsImm d = true
theorem SlotOk.pois {s : Slot} {x : Option (Option V)} {o : Option Addr} (h : SlotOk K H0 om H (some s) x o) : SlotOk K H0 om H (some (pois s)) x o := by
  cases s with
  | no => trivial
  | sh d =>
    show SlotOk K H0 om H (some (if d.imm = true then .sh d else .no)) x o
    by_cases hd : d.imm = true
    · rw [if_pos hd]; exact h
    · rw [if_neg hd]; trivial
  | ow d =>
    show SlotOk K H0 om H (some (if kidsImm d = true then .ow d else .no)) x o
    by_cases hd : kidsImm d = true
    · rw [if_pos hd]; exact h
    · rw [if_neg hd]; trivial
theorem Sta.pois (S : Sta K H0 om0 Γ σ H om) : Sta K H0 om0 (poisE Γ) σ H om := by
  have hl : (poisE Γ).length = Γ.length := by unfold poisE; rw [List.length_map]
  refine ⟨by rw [hl]; exact S.len, S.good, S.base, S.inj, S.dom, by rw [hl]; exact S.hid, by rw [hl]; exact S.bnd, fun i => ?_⟩
  have q := S.slot i
  unfold poisE
  rw [List.getElem?_map]
  cases e : Γ[i]? with
  | none => trivial
  | some s =>
    rw [e] at q
    exact q.pois
theorem Sta.blank (S : Sta K H0 om0 Γ σ H om) (i : Nat) (x : Option V) : Sta K H0 om0 (Γ.set i .no) (σ.set i x) H om := by
  refine ⟨by rw [List.length_set, List.length_set]; exact S.len, S.good, S.base, S.inj, S.dom, by rw [List.length_set]; exact S.hid, by rw [List.length_set]; exact S.bnd, fun j => ?_⟩
  by_cases e : i = j
  · subst e
    by_cases hl : i < Γ.length
    · rw [List.getElem?_set_self hl]
      trivial
    · rw [List.getElem?_eq_none (by rw [List.length_set]; omega)]
      trivial
  · rw [List.getElem?_set_ne e, List.getElem?_set_ne e]
    exact S.slot j
theorem pois_sh : ∀ {s : Slot} {d : D}, pois s = .sh d → d.imm = true
  | .no, d, h => by cases h
  | .sh d', d, h => by
    have h' : (if d'.imm = true then Slot.sh d' else .no) = .sh d := h
    by_cases z : d'.imm = true
    · rw [if_pos z] at h'; cases h'; exact z
    · rw [if_neg z] at h'; cases h'
  | .ow d', d, h => by
    have h' : (if kidsImm d' = true then Slot.ow d' else .no) = .sh d := h
    by_cases z : kidsImm d' = true
    · rw [if_pos z] at h'; cases h'
    · rw [if_neg z] at h'; cases h'
theorem pois_ow : ∀ {s : Slot} {d : D}, pois s = .ow d → kidsImm d = true
  | .no, d, h => by cases h
  | .sh d', d, h => by
    have h' : (if d'.imm = true then Slot.sh d' else .no) = .ow d := h
    by_cases z : d'.imm = true
    · rw [if_pos z] at h'; cases h'
    · rw [if_neg z] at h'; cases h'
  | .ow d', d, h => by
    have h' : (if kidsImm d' = true then Slot.ow d' else .no) = .ow d := h
    by_cases z : kidsImm d' = true
    · rw [if_pos z] at h'; cases h'; exact z
    · rw [if_neg z] at h'; cases h'
theorem tame_pois : Tame (poisE Γ) := fun i => by
  unfold poisE
  rw [List.getElem?_map]
  cases e : Γ[i]? with
  | none => exact ⟨fun _ h => (nomatch h), fun _ h => (nomatch h)⟩
  | some s => exact ⟨fun d h => pois_sh (Option.some.inj h), fun d h => pois_ow (Option.some.inj h)⟩
theorem Tame.blank (T : Tame Γ) (i : Nat) : Tame (Γ.set i .no) := fun j => by
  by_cases e : i = j
  · subst e
    by_cases hl : i < Γ.length
    · rw [List.getElem?_set_self hl]
      exact ⟨fun _ h => (nomatch h), fun _ h => (nomatch h)⟩
    · rw [List.getElem?_eq_none (by rw [List.length_set]; omega)]
      exact ⟨fun _ h => (nomatch h), fun _ h => (nomatch h)⟩
  · rw [List.getElem?_set_ne e]
    exact T j
theorem Sta.clr (S : Sta K H0 om0 Γ σ H om) (T : Tame Γ) (N : NoL H0) {a : Addr} {xs : List V} (h : H a = some (.lst xs)) (hu : ∀ i, om i ≠ some a) : Sta K H0 om0 Γ σ (upd H a (.lst [])) om := by
  have still : Still (msk om H) (msk om (upd H a (.lst []))) := by
    refine ⟨fun b o u q => ?_, fun b ys q => ?_⟩
    · rw [mk_at (mk_not q), upd_ne (fun z => by subst z; rw [mk_le _ _ q] at h; cases h)]
      exact mk_le _ _ q
    · rw [mk_at (mk_not q), upd_ne (fun z => by subst z; rw [mk_le _ _ q] at h; cases h)]
      exact mk_le _ _ q
  refine ⟨S.len, S.good.lst (Nat.zero_le _), fun b o q => ?_, S.inj, fun i b e => ?_, S.hid, S.bnd, fun i => ?_⟩
  · obtain ⟨ob, u, rfl⟩ := N b o q
    have q' := S.base b _ q
    rw [upd_ne (fun z => by subst z; rw [q'] at h; cases h)]
    exact q'
  · obtain ⟨o, z1, z2⟩ := S.dom i b e
    exact ⟨o, by rw [upd_ne (fun z => hu i (by rw [← z]; exact e))]; exact z1, z2⟩
  · have q := S.slot i
    cases e : Γ[i]? with
    | none => trivial
    | some s =>
      rw [e] at q
      cases s with
      | no => trivial
      | sh d =>
        obtain ⟨v, q1, q2⟩ := q
        exact ⟨v, q1, Rep.imm still d ((T i).1 d e) q2⟩
      | ow d =>
        obtain ⟨b, q1, q2, q3, q4⟩ := q
        refine ⟨b, q1, q2, q3, ?_⟩
        refine Obj1.kids (q4.mono (Ex.refl _) fun o z => ?_) ((T i).2 d e) still
        rw [upd_ne (fun z => hu i (by rw [← z]; exact q1))]
        exact z
def okItem : D → Bool
  | .tup [_, .lst _] => true
  | _ => false
/-- for i, j in x: j.clear() -/
def clrForD (x i j : Nat) : Env → Out := fun Γ => match Γ[x]? with
  | some (.ow (.lst ds)) => if ds.all okItem = true ∧ i < Γ.length ∧ j < Γ.length ∧ i ≠ j then .nx (((poisE Γ).set i .no).set j .no) else .bad
  | _ => .bad
theorem sl_clrFor {x i j : Nat} : SimL K W (tFor (iAny K (tVar x)) (gTup K 2 (gCons (gName i) (gCons (gName j) gNil))) (tDrop (tBM0 K "list" rClear (tVar j)))) (clrForD x i j) := fun H0 om0 Γ σ H om D N S p => by
  unfold clrForD at p
  cases e : Γ[x]? with
  | none => rw [e] at p; exact p.elim
  | some s =>
    rw [e] at p
    match s, e, p with
    | .ow (.lst ds), e, p =>
      have p' : PostL K W H0 om0 D (if ds.all okItem = true ∧ i < Γ.length ∧ j < Γ.length ∧ i ≠ j then .nx (((poisE Γ).set i .no).set j .no) else .bad) := p
      by_cases hc : ds.all okItem = true ∧ i < Γ.length ∧ j < Γ.length ∧ i ≠ j
      case neg => rw [if_neg hc] at p'; exact p'.elim
      rw [if_pos hc] at p'
      obtain ⟨hall, hi, hj, hij⟩ := hc
      obtain ⟨a, a1, a2, a3, vs, a4, a5⟩ := S.ow e
      refine .inl ⟨.ref a, a2, a, rfl, ⟨vs, .inl (.inl a4)⟩, ?_⟩
      have Tm : Tame (((poisE Γ).set i .no).set j .no) := (tame_pois.blank i).blank j
      refine for_it (walk_list (xs := vs)) (fun n σ' H' => Sta K H0 om0 (((poisE Γ).set i .no).set j .no) σ' H' om ∧ H' a = some (.lst vs) ∧ (∀ b xs, msk om H b = some (.lst xs) → ∃ ys, H' b = some (.lst ys)) ∧ Still (msk om H) H') ⟨?_, a4, fun b xs z => ⟨xs, mk_le _ _ z⟩, fun b o u z => mk_le _ _ z, fun b xs z => mk_le _ _ z⟩ ?_ ?_ ?_
      · have S1 := (S.pois.blank i (σ.getD i none)).blank j (σ.getD j none)
        have e1 : σ.set i (σ.getD i none) = σ := by
          apply List.ext_getElem?
          intro n
          by_cases z : i = n
          · subst z
            by_cases hl : i < σ.length
            · rw [List.getElem?_set_self hl]; simp [List.getD, hl]
            · rw [List.getElem?_eq_none (by rw [List.length_set]; omega), List.getElem?_eq_none (by omega)]
          · rw [List.getElem?_set_ne z]
        have e2 : σ.set j (σ.getD j none) = σ := by
          apply List.ext_getElem?
          intro n
          by_cases z : j = n
          · subst z
            by_cases hl : j < σ.length
            · rw [List.getElem?_set_self hl]; simp [List.getD, hl]
            · rw [List.getElem?_eq_none (by rw [List.length_set]; omega), List.getElem?_eq_none (by omega)]
          · rw [List.getElem?_set_ne z]
        rw [e1, e2] at S1
        exact S1
      · rintro n σ' H' _ ⟨_, z, _⟩
        exact .inl (.inl z)
      · rintro n v σ' H' H2 hn ⟨S', za, zl, zs⟩ ⟨rfl, hv⟩
        have hd : n < ds.length := by rw [a5.len]; exact hn
        obtain ⟨v', r1, r2⟩ := a5.get (List.getElem?_eq_getElem hd)
        rw [r1] at hv
        cases hv
        have ok : okItem ds[n] = true := List.all_eq_true.mp hall _ (List.getElem_mem hd)
        match ds[n], ok, r2 with
        | .tup [d1, .lst es], _, r2 =>
          simp only [Rep] at r2
          obtain ⟨T, xs, rfl, t1, t2⟩ := r2
          obtain ⟨v1, r3, rfl, q1, q2⟩ := repL_cons_inv t2
          obtain ⟨v2, r4, rfl, q3, q4⟩ := repL_cons_inv q2
          rw [repL_nil_inv q4] at t1
          simp only [Rep] at q3
          obtain ⟨b, ws, rfl, b1, b2⟩ := q3
          obtain ⟨ys, b3⟩ := zl b ws b1
          have hbu := mk_not b1
          have t3 : SqT K H2 T [v1, .ref b] := by
            rcases t1 with t1 | t1
            · exact .inl (.inl (zs.2 _ _ t1))
            · exact .inr t1
          have S3 := (S'.blank i (some v1)).blank j (some (.ref b))
          have eΓ : (((((poisE Γ).set i .no).set j .no).set i .no).set j .no) = (((poisE Γ).set i .no).set j .no) := by
            rw [List.set_comm _ _ (Ne.symm hij), List.set_set, List.set_set]
          rw [eΓ] at S3
          have hlen : j < (σ'.set i (some v1)).length := by
            rw [List.length_set, S'.len, List.length_set, List.length_set]
            unfold poisE
            rw [List.length_map]
            exact hj
          refine ⟨T, [v1, .ref b], rfl, t3, rfl, v1, [.ref b], rfl, .ref b, [], rfl, rfl, ?_⟩
          refine ⟨.ref b, List.getElem?_set_self hlen, .inl ⟨rfl, ys, .inl (.inl b3)⟩, b, ys, rfl, rfl, b3, ?_⟩
          refine ⟨S3.clr Tm N b3 hbu, ?_, fun c xs z => ?_, fun c o u z => ?_, fun c xs z => ?_⟩
          · rw [upd_ne (fun z => hbu x (by rw [a1, z]))]
            exact za
          · by_cases hcb : c = b
            · subst hcb
              exact ⟨[], upd_same⟩
            · rw [upd_ne hcb]
              exact zl c xs z
          · rw [upd_ne (fun w => by subst w; have := zs.1 _ _ _ z; rw [b3] at this; cases this)]
            exact zs.1 _ _ _ z
          · rw [upd_ne (fun w => by subst w; have := zs.2 _ _ z; rw [b3] at this; cases this)]
            exact zs.2 _ _ z
      · rintro σ' H' ⟨S', _⟩
        exact p' σ' H' om S'
    | .no, e, p => exact p.elim
    | .sh _, e, p => exact p.elim
    | .ow .non, e, p => exact p.elim
    | .ow (.bl _), e, p => exact p.elim
    | .ow (.int _), e, p => exact p.elim
    | .ow (.str _), e, p => exact p.elim
    | .ow (.ty _), e, p => exact p.elim
    | .ow (.adr _), e, p => exact p.elim
    | .ow (.tup _), e, p => exact p.elim
    | .ow (.dK _ _), e, p => exact p.elim
    | .ow (.dT _ _), e, p => exact p.elim
    | .ow (.scr _), e, p => exact p.elim
end

/-! ### the law's def -/
def spL (K : PySem.W.Frag) (den : List D → FR) : Sp := fun vs H Q E => ∃ ds, ds.length = 1 ∧ RepL K (msk om_0 H) ds vs ∧ NoL H ∧ ∃ c b, den ds = .ok c (.bl b) ∧ ∀ H', Q (.bl b) H'
section
variable {P : Program} {w : World} {K : PySem.W.Frag} {mg : Str → Option Value} {base : Heap}
theorem fn_law {x qual : Str} {params : Arguments} {body : List Stmt} {scope : Scope} {f : Addr} {fd : FuncData} {N : List Str} {p : Str} {k : Nat} (F : FunD K x qual params body scope [] [] f fd) (S : FnScope N [p] scope) {g : Env → Out} {den : List D → FR} (hden : ∀ ds, den ds = denOf N.length g ds)
    (hbody : ∀ (cdv : Value) (A : Around) (outer : List PySem.Env) (s : Shared) (H : Hp) (E : XK), Room k (A.deeper (envOfC qual scope s.heap.objs.size f cdv)) → ∃ t, PSs (cxOf (L2N.CX P w) P w K mg base N qual scope f cdv A outer s H E) body t ∧ SimL K (fun cls d _ H => E cls d H) t g) :
    FnOk P w K mg base (L2N.CX P w) (k + 1) f fd [p] (spL K den) := by
  refine F.ok S (fun vs H Q E h => ?_) fun cdv A outer s H vs Q E hr h => ?_
  · obtain ⟨ds, hl, rr, _⟩ := h
    rw [← rr.len, hl]; rfl
  have hlv : vs.length = 1 := by
    obtain ⟨ds, hl, rr, _⟩ := h
    rw [← rr.len, hl]
  obtain ⟨ds, hl, rr, nl, c, b, hd, post⟩ := h
  obtain ⟨t, ht, sim⟩ := hbody cdv A outer s H E hr
  have hN : 1 ≤ N.length := by
    have := congrArg List.length S.pre
    rw [List.length_take] at this
    simp only [List.length_cons, List.length_nil] at this
    omega
  have gd : Good H := fun b xs z => by
    rcases z with z | z
    · obtain ⟨_, _, q⟩ := nl _ _ z; cases q
    · obtain ⟨_, _, q⟩ := nl _ _ z; cases q
  obtain ⟨om, st, em⟩ := sta0 (N := N) (entry0 gd) rr (by rw [hlv]; exact hN)
  refine ⟨t, ht, sim H om_0 (start0 N.length ds) (L2.start N vs) H om _ nl st ?_⟩
  rw [hden] at hd
  unfold denOf at hd
  cases e : g (start0 N.length ds) with
  | nx Γ' => rw [e] at hd; injection hd with h1 h2; cases h2
  | ret c' d' =>
    rw [e] at hd
    injection hd with h1 h2
    subst h1 h2
    intro v H' g' e' R
    unfold Ret at R
    by_cases hc : c' = true
    · rw [if_pos hc] at R
      obtain ⟨_, _, _, R⟩ := R
      exact R.elim
    · rw [if_neg hc] at R
      simp only [Rep] at R
      subst R
      exact post H'
  | exc Γ' x => rw [e] at hd; cases hd
  | brk Γ' => rw [e] at hd; cases hd
  | cnt Γ' => rw [e] at hd; cases hd
  | bad => rw [e] at hd; cases hd
end
/-- a law's end, the kinds of errors by the world -/
theorem walk_ofL {l : PySem.W.OpenLaw} {n k : Nat} {q : Program} {loose : List Str} {XP : (Str → Option Value) → Heap → Prop} {YP : World → Heap → Prop} {d : DefRec} {x : Str} {den : List D → FR}
    (hn : l.most = some n) (hn2 : n ≤ sizeLine) (hdf : d.params.defaults = []) (hr : Room k callerA)
    (F : ∀ (w : World) (mg : Str → Option Value) (fa : Addr) (h : Heap), YP w h → h.Ns mainGlobals mg → mg d.name = some (.ref fa) →
      ∃ (K : PySem.W.Frag) (fd : FuncData), K.In h ∧ (∀ (s : Shared) (u : Value), BindsTo s fd ⟨[u], []⟩ [(x, u)]) ∧
        ∀ base : Heap, K.In base → base.Ns mainGlobals mg → FnOk l.prog w K mg base (L2N.CX l.prog w) k fa fd [x] (spL K den))
    (hlaw : ∀ ns : List Int, ns.length ≤ n → ∃ c, den [.scr ns] = .ok c (.bl true)) :
    PySem.W.WalkO q loose XP YP l.row.toRowW d [] (fun f vs => PySem.call f vs) := by
  refine Att.attach_call hn hdf fun w s₀ s₁ mg mb fa o pm cd doc a vs ns G Y ho hd hcd hmg hobj hints hlen hg => ?_
  obtain ⟨K, fd, KX, hb, hF⟩ := F w mg fa _ Y G.T.g hmg
  refine law_call KX G.T.g G.T.b G.T.builtins G.T.nolimit hg hobj hints (Nat.le_trans hlen hn2) hr hF hb (fun H hO hS => ?_) fun H e s' hc => ?_
  · obtain ⟨c, hc⟩ := hlaw ns hlen
    refine ⟨[.scr ns], rfl, ?_, fun b o z => ?_, c, true, hc, fun _ => rfl⟩
    · refine repL_cons ?_ repL_nil
      simp only [Rep]
      refine ⟨a, rfl, ?_⟩
      rcases hS with (h | ⟨o, h⟩) | h
      · rcases hO a with h' | ⟨o, xs', h'⟩
        · rw [h'] at h; cases h
        · rw [h'] at h; cases h
      · refine .inl ⟨o, ?_⟩
        rw [mk_at fun i z => om_0_ne z]
        exact h
      · exact .inr fun H' => .inr h
    · rcases hO b with h | ⟨o', xs', h⟩
      · rw [h] at z; cases z
      · rw [h] at z; cases z; exact ⟨_, _, rfl⟩
  · obtain ⟨_, _, _, _, _, _, _, _, _, _, _, _, z⟩ := hc
    exact z.elim
end VL

noncomputable section
namespace VL
open PySem L2
/-! ### plain laws of the functions on data -/
def outF : Out → FR
  | .nx _ => .ok false .non
  | .ret c d => .ok c d
  | .exc _ e => .exc e
  | _ => .bad
theorem denOf_eq {n : Nat} {g : Env → Out} {ds : List D} {Γ : Env} (h : start0 n ds = Γ) : denOf n g ds = outF (g Γ) := by subst h; rfl
theorem forGo_inv {tg : D → Env → Option Env} {fb : Env → Out} (P : Nat → Env → Prop) : ∀ (ds : List D) (k : Nat) (Γ : Env), P k Γ →
    (∀ n Γ d, P (k + n) Γ → ds[n]? = some d → ∃ Γ1 Γ2, tg d Γ = some Γ1 ∧ (fb Γ1 = .nx Γ2 ∨ fb Γ1 = .cnt Γ2) ∧ P (k + n + 1) Γ2) → ∃ Γ', forGo tg fb ds Γ = .nx Γ' ∧ P (k + ds.length) Γ'
  | [], k, Γ, h, _ => ⟨Γ, rfl, h⟩
  | d :: ds, k, Γ, h, hs => by
    obtain ⟨Γ1, Γ2, h1, h2, h3⟩ := hs 0 Γ d h rfl
    obtain ⟨Γ', h4, h5⟩ := forGo_inv P ds (k + 1) Γ2 h3 fun n Γ d' hp hd => by
      have := hs (n + 1) Γ d' (by rw [show k + (n + 1) = k + 1 + n by omega]; exact hp) (by simpa using hd)
      rw [show k + (n + 1) + 1 = k + 1 + n + 1 by omega] at this
      exact this
    refine ⟨Γ', ?_, by rw [List.length_cons, show k + (ds.length + 1) = k + 1 + ds.length by omega]; exact h5⟩
    unfold forGo
    rw [h1]
    rcases h2 with h2 | h2
    · simp only [h2]; exact h4
    · simp only [h2]; exact h4
/-- a for over ds from Γ: invariant by the turn -/
theorem for_inv {fi : Env → RI} {tg : D → Env → Option Env} {fb : Env → Out} {Γ : Env} {r : Rt} {ds : List D} (P : Nat → Env → Prop) (hi : fi Γ = .ok r ds) (hr : r ≠ .bor) (h0 : P 0 Γ)
    (hs : ∀ n Γ d, P n Γ → ds[n]? = some d → ∃ Γ1 Γ2, tg d Γ = some Γ1 ∧ (fb Γ1 = .nx Γ2 ∨ fb Γ1 = .cnt Γ2) ∧ P (n + 1) Γ2) : ∃ Γ', forD fi tg fb Γ = .nx Γ' ∧ P ds.length Γ' := by
  obtain ⟨Γ', h1, h2⟩ := forGo_inv P ds 0 Γ h0 fun n Γ d hp hd => by
    rw [Nat.zero_add] at hp ⊢
    exact hs n Γ d hp hd
  refine ⟨Γ', ?_, by rw [Nat.zero_add] at h2; exact h2⟩
  unfold forD
  rw [hi]
  simp only [if_neg hr]
  exact h1
theorem lcGo_map {vs : List Nat} {tg : D → Env → Option Env} {tt fe : Env → RE} {Γ : Env} (f : D → D) : ∀ ds : List D,
    (∀ d ∈ ds, ∃ Γ1 r r', tg d (wipeD Γ vs) = some Γ1 ∧ tt Γ1 = .ok r (.bl true) ∧ fe Γ1 = .ok r' (f d) ∧ r' ≠ .bor) → lcGo vs tg tt fe Γ ds = .ok (ds.map f)
  | [], _ => rfl
  | d :: ds, h => by
    obtain ⟨Γ1, r, r', h1, h2, h3, h4⟩ := h d List.mem_cons_self
    rw [lcGo_cons h1, h2, h3]
    simp only [if_neg h4]
    rw [lcGo_map f ds fun d hd => h d (List.mem_cons_of_mem _ hd)]
    rfl
theorem lc_map {vs : List Nat} {fi : Env → RI} {tg : D → Env → Option Env} {tt fe : Env → RE} {Γ : Env} {r : Rt} {ds : List D} (f : D → D) (hi : fi Γ = .ok r ds)
    (h : ∀ d ∈ ds, ∃ Γ1 r r', tg d (wipeD Γ vs) = some Γ1 ∧ tt Γ1 = .ok r (.bl true) ∧ fe Γ1 = .ok r' (f d) ∧ r' ≠ .bor) : lcD vs fi tg tt fe Γ = .ok .fre (.lst (ds.map f)) := by
  unfold lcD
  rw [hi]
  simp only [lcGo_map f ds h]
theorem rngL_get {lo : Int} {n i : Nat} {d : D} (h : (rngL lo n)[i]? = some d) : i < n ∧ d = .int (lo + i) := by
  unfold rngL at h
  rw [List.getElem?_map] at h
  by_cases hi : i < n
  · rw [List.getElem?_range hi] at h
    exact ⟨hi, (Option.some.inj h).symm⟩
  · rw [List.getElem?_eq_none (by rw [List.length_range]; omega)] at h
    cases h
theorem rng1_ok {i : Int} {g : Env → RL} {Γ : Env} {r : Rt} (h : g Γ = .ok [(r, .int i)]) (h1 : i ≤ 1000000) (h2 : 0 ≤ i) : rng1D g Γ = .ok .shr (rngL 0 i.toNat) := by
  unfold rng1D callI1
  rw [h]
  simp only [rng1V]
  rw [if_pos ⟨h1, by omega⟩]
theorem atI_nat {α : Type} {xs : List α} {i : Int} (h0 : 0 ≤ i) (h1 : i.toNat < xs.length) : atI xs i = some xs[i.toNat] := by
  unfold atI
  have : ixN xs.length i = some i.toNat := by
    unfold ixN
    rw [if_pos h0, if_pos (by omega)]
  rw [this]
  simp [h1]
mutual
theorem eqv_py : ∀ d : D, PyData.eqv d.py d.py = true
  | .non => by simp [D.py, PyData.eqv]
  | .bl _ => by simp [D.py, PyData.eqv]
  | .int _ => by simp [D.py, PyData.eqv]
  | .str _ => by simp [D.py, PyData.eqv]
  | .ty _ => by simp [D.py, PyData.eqv]
  | .adr _ => by simp [D.py, PyData.eqv]
  | .dK _ _ => by simp [D.py, PyData.eqv]
  | .dT _ _ => by simp [D.py, PyData.eqv]
  | .scr _ => by simp [D.py, PyData.eqv]
  | .tup ds => by simp only [D.py, PyData.eqv]; exact eqv_pyL ds
  | .lst ds => by simp only [D.py, PyData.eqv]; exact eqv_pyL ds
theorem eqv_pyL : ∀ ds : List D, PyData.eqvAll (pyL ds) (pyL ds) = true
  | [] => by simp [pyL, PyData.eqvAll]
  | d :: ds => by simp only [pyL, PyData.eqvAll, eqv_py d, eqv_pyL ds, Bool.and_self]
end
theorem beq_dec {α : Type} [BEq α] [LawfulBEq α] [DecidableEq α] (a b : α) : (a == b) = decide (a = b) := by
  by_cases h : a = b
  · subst h; simp
  · rw [decide_eq_false h]; simpa using h
theorem eqD_refl {d : D} (h : d.pk 20 = true) : eqD d d = .ok .shr (.bl true) := by
  unfold eqD
  rw [if_pos ⟨h, h⟩, eqv_py]
theorem neD_refl {d : D} (h : d.pk 20 = true) : neD d d = .ok .shr (.bl false) := by
  unfold neD
  rw [if_pos ⟨h, h⟩, eqv_py]
  rfl
theorem eqD_int (a b : Int) : eqD (.int a) (.int b) = .ok .shr (.bl (decide (a = b))) := by
  unfold eqD
  rw [if_pos (by simp only [D.pk, and_self])]
  simp only [D.py, PyData.eqv]
  rfl
theorem neD_int (a b : Int) : neD (.int a) (.int b) = .ok .shr (.bl (!decide (a = b))) := by
  unfold neD
  rw [if_pos (by simp only [D.pk, and_self])]
  simp only [D.py, PyData.eqv]
  rfl
theorem eqD_str {a b : Str} (ha : PyData.strOk a = true) (hb : PyData.strOk b = true) : eqD (.str a) (.str b) = .ok .shr (.bl (decide (a = b))) := by
  unfold eqD
  rw [if_pos (by simp only [D.pk, and_self, ha, hb])]
  simp only [D.py, PyData.eqv, beq_dec]
theorem neD_str {a b : Str} (ha : PyData.strOk a = true) (hb : PyData.strOk b = true) : neD (.str a) (.str b) = .ok .shr (.bl (!decide (a = b))) := by
  unfold neD
  rw [if_pos (by simp only [D.pk, and_self, ha, hb])]
  simp only [D.py, PyData.eqv, beq_dec]
theorem modD_ok {i j : Int} (h : 0 < j) : modD (.int i) (.int j) = .ok .shr (.int (i % j)) := by
  exact if_pos h
theorem fdivD_ok {i j : Int} (h : 0 < j) (h2 : j < 1073741824) : fdivD (.int i) (.int j) = .ok .shr (.int (i / j)) := by
  exact if_pos ⟨h, h2⟩
theorem mulD_r {i j : Int} (h : -(2 ^ 64) < j) (h2 : j < 2 ^ 64) : mulD (.int i) (.int j) = .ok .shr (.int (i * j)) := by
  exact if_pos (.inr ⟨h, h2⟩)
theorem mulD_l {i j : Int} (h : -(2 ^ 64) < i) (h2 : i < 2 ^ 64) : mulD (.int i) (.int j) = .ok .shr (.int (i * j)) := by
  exact if_pos (.inl ⟨h, h2⟩)
theorem subD_ok (i j : Int) : subD (.int i) (.int j) = .ok .shr (.int (i - j)) := by
  simp only [subD, intD, if_true]
theorem ltD_ok (i j : Int) : ltD (.int i) (.int j) = .ok .shr (.bl (decide (i < j))) := by
  simp only [ltD, intD, if_true]
theorem leD_ok (i j : Int) : leD (.int i) (.int j) = .ok .shr (.bl (decide (i ≤ j))) := by
  simp only [leD, intD, if_true]
theorem gtD_ok (i j : Int) : gtD (.int i) (.int j) = .ok .shr (.bl (decide (j < i))) := by
  simp only [gtD, intD, if_true]
theorem geD_ok (i j : Int) : geD (.int i) (.int j) = .ok .shr (.bl (decide (j ≤ i))) := by
  simp only [geD, intD, if_true]
theorem powD_ok {i j : Int} (h : 0 ≤ j) (h1 : j ≤ 1000000) (h2 : i.natAbs < 2 ^ 64) : powD (.int i) (.int j) = .ok .shr (.int (i ^ j.toNat)) := by
  exact if_pos ⟨h, h1, h2⟩

/-! ### what is wanted behind a result -/
def wpE : RE → (Rt → D → Prop) → (Exn → Prop) → Prop
  | .ok r d, Q, _ => Q r d
  | .exc e, _, X => X e
  | .bad, _, _ => False
def wpL : RL → (List (Rt × D) → Prop) → (Exn → Prop) → Prop
  | .ok rs, Q, _ => Q rs
  | .exc e, _, X => X e
  | .bad, _, _ => False
def wpI : RI → (Rt → List D → Prop) → (Exn → Prop) → Prop
  | .ok r ds, Q, _ => Q r ds
  | .exc e, _, X => X e
  | .bad, _, _ => False
def wpO : RO → (Option Int → Prop) → (Exn → Prop) → Prop
  | .ok o, Q, _ => Q o
  | .exc e, _, X => X e
  | .bad, _, _ => False
def wpF : FR → (Bool → D → Prop) → (Exn → Prop) → Prop
  | .ok c d, Q, _ => Q c d
  | .exc e, _, X => X e
  | .bad, _, _ => False
def wpS : Out → (Out → Prop) → Prop
  | .bad, _ => False
  | o, k => k o
def wpB : D → (Bool → Prop) → Prop
  | .bl b, k => k b
  | _, _ => False
def wpT : Option Env → (Env → Prop) → Prop
  | some Γ, k => k Γ
  | none, _ => False
section
variable {Q : Rt → D → Prop} {X : Exn → Prop} {QL : List (Rt × D) → Prop} {QI : Rt → List D → Prop} {QO : Option Int → Prop} {QF : Bool → D → Prop} {k : Out → Prop} {Γ : Env} {f f1 f2 f3 : Env → RE} {g g1 : Env → RL} {s t : Env → Out}
theorem wpE_ok (r : Rt) (d : D) : wpE (.ok r d) Q X = Q r d := id rfl
theorem wpE_exc (e : Exn) : wpE (.exc e) Q X = X e := id rfl
theorem wpE_bad : wpE .bad Q X = False := id rfl
theorem wpL_ok (rs : List (Rt × D)) : wpL (.ok rs) QL X = QL rs := id rfl
theorem wpI_ok (r : Rt) (ds : List D) : wpI (.ok r ds) QI X = QI r ds := id rfl
theorem wpI_bad : wpI .bad QI X = False := id rfl
theorem wpO_ok (o : Option Int) : wpO (.ok o) QO X = QO o := id rfl
theorem wpF_ok (c : Bool) (d : D) : wpF (.ok c d) QF X = QF c d := id rfl
theorem wpF_exc (e : Exn) : wpF (.exc e) QF X = X e := id rfl
theorem wpS_nx (Γ : Env) : wpS (.nx Γ) k = k (.nx Γ) := id rfl
theorem wpS_ret (c : Bool) (d : D) : wpS (.ret c d) k = k (.ret c d) := id rfl
theorem wpS_brk (Γ : Env) : wpS (.brk Γ) k = k (.brk Γ) := id rfl
theorem wpS_cnt (Γ : Env) : wpS (.cnt Γ) k = k (.cnt Γ) := id rfl
theorem wpS_exc (Γ : Env) (e : Exn) : wpS (.exc Γ e) k = k (.exc Γ e) := id rfl
theorem wpS_bad : wpS .bad k = False := id rfl
theorem wpB_bl (b : Bool) (k : Bool → Prop) : wpB (.bl b) k = k b := id rfl
theorem wp_var (i : Nat) : wpE (varD i Γ) Q X = match Γ[i]? with | some (.sh d) => Q .shr d | some (.ow d) => Q .bor d | _ => False := by
  unfold varD
  split <;> simp_all [wpE]
theorem wp_v0sh {d : D} {Γ : Env} : wpE (varD 0 (.sh d :: Γ)) Q X = Q .shr d := id rfl
theorem wp_v0ow {d : D} {Γ : Env} : wpE (varD 0 (.ow d :: Γ)) Q X = Q .bor d := id rfl
theorem wp_v1sh {s0 : Slot} {d : D} {Γ : Env} : wpE (varD 1 (s0 :: .sh d :: Γ)) Q X = Q .shr d := id rfl
theorem wp_v1ow {s0 : Slot} {d : D} {Γ : Env} : wpE (varD 1 (s0 :: .ow d :: Γ)) Q X = Q .bor d := id rfl
theorem wp_v2sh {s0 s1 : Slot} {d : D} {Γ : Env} : wpE (varD 2 (s0 :: s1 :: .sh d :: Γ)) Q X = Q .shr d := id rfl
theorem wp_v2ow {s0 s1 : Slot} {d : D} {Γ : Env} : wpE (varD 2 (s0 :: s1 :: .ow d :: Γ)) Q X = Q .bor d := id rfl
theorem wp_v3sh {s0 s1 s2 : Slot} {d : D} {Γ : Env} : wpE (varD 3 (s0 :: s1 :: s2 :: .sh d :: Γ)) Q X = Q .shr d := id rfl
theorem wp_v3ow {s0 s1 s2 : Slot} {d : D} {Γ : Env} : wpE (varD 3 (s0 :: s1 :: s2 :: .ow d :: Γ)) Q X = Q .bor d := id rfl
theorem wp_v4sh {s0 s1 s2 s3 : Slot} {d : D} {Γ : Env} : wpE (varD 4 (s0 :: s1 :: s2 :: s3 :: .sh d :: Γ)) Q X = Q .shr d := id rfl
theorem wp_v4ow {s0 s1 s2 s3 : Slot} {d : D} {Γ : Env} : wpE (varD 4 (s0 :: s1 :: s2 :: s3 :: .ow d :: Γ)) Q X = Q .bor d := id rfl
theorem wp_v5sh {s0 s1 s2 s3 s4 : Slot} {d : D} {Γ : Env} : wpE (varD 5 (s0 :: s1 :: s2 :: s3 :: s4 :: .sh d :: Γ)) Q X = Q .shr d := id rfl
theorem wp_v5ow {s0 s1 s2 s3 s4 : Slot} {d : D} {Γ : Env} : wpE (varD 5 (s0 :: s1 :: s2 :: s3 :: s4 :: .ow d :: Γ)) Q X = Q .bor d := id rfl
theorem wp_v6sh {s0 s1 s2 s3 s4 s5 : Slot} {d : D} {Γ : Env} : wpE (varD 6 (s0 :: s1 :: s2 :: s3 :: s4 :: s5 :: .sh d :: Γ)) Q X = Q .shr d := id rfl
theorem wp_v6ow {s0 s1 s2 s3 s4 s5 : Slot} {d : D} {Γ : Env} : wpE (varD 6 (s0 :: s1 :: s2 :: s3 :: s4 :: s5 :: .ow d :: Γ)) Q X = Q .bor d := id rfl
theorem wp_v7sh {s0 s1 s2 s3 s4 s5 s6 : Slot} {d : D} {Γ : Env} : wpE (varD 7 (s0 :: s1 :: s2 :: s3 :: s4 :: s5 :: s6 :: .sh d :: Γ)) Q X = Q .shr d := id rfl
theorem wp_v7ow {s0 s1 s2 s3 s4 s5 s6 : Slot} {d : D} {Γ : Env} : wpE (varD 7 (s0 :: s1 :: s2 :: s3 :: s4 :: s5 :: s6 :: .ow d :: Γ)) Q X = Q .bor d := id rfl
theorem wp_v8sh {s0 s1 s2 s3 s4 s5 s6 s7 : Slot} {d : D} {Γ : Env} : wpE (varD 8 (s0 :: s1 :: s2 :: s3 :: s4 :: s5 :: s6 :: s7 :: .sh d :: Γ)) Q X = Q .shr d := id rfl
theorem wp_v8ow {s0 s1 s2 s3 s4 s5 s6 s7 : Slot} {d : D} {Γ : Env} : wpE (varD 8 (s0 :: s1 :: s2 :: s3 :: s4 :: s5 :: s6 :: s7 :: .ow d :: Γ)) Q X = Q .bor d := id rfl
theorem wp_v9sh {s0 s1 s2 s3 s4 s5 s6 s7 s8 : Slot} {d : D} {Γ : Env} : wpE (varD 9 (s0 :: s1 :: s2 :: s3 :: s4 :: s5 :: s6 :: s7 :: s8 :: .sh d :: Γ)) Q X = Q .shr d := id rfl
theorem wp_v9ow {s0 s1 s2 s3 s4 s5 s6 s7 s8 : Slot} {d : D} {Γ : Env} : wpE (varD 9 (s0 :: s1 :: s2 :: s3 :: s4 :: s5 :: s6 :: s7 :: s8 :: .ow d :: Γ)) Q X = Q .bor d := id rfl
theorem wp_v10sh {s0 s1 s2 s3 s4 s5 s6 s7 s8 s9 : Slot} {d : D} {Γ : Env} : wpE (varD 10 (s0 :: s1 :: s2 :: s3 :: s4 :: s5 :: s6 :: s7 :: s8 :: s9 :: .sh d :: Γ)) Q X = Q .shr d := id rfl
theorem wp_v10ow {s0 s1 s2 s3 s4 s5 s6 s7 s8 s9 : Slot} {d : D} {Γ : Env} : wpE (varD 10 (s0 :: s1 :: s2 :: s3 :: s4 :: s5 :: s6 :: s7 :: s8 :: s9 :: .ow d :: Γ)) Q X = Q .bor d := id rfl
theorem wp_v11sh {s0 s1 s2 s3 s4 s5 s6 s7 s8 s9 s10 : Slot} {d : D} {Γ : Env} : wpE (varD 11 (s0 :: s1 :: s2 :: s3 :: s4 :: s5 :: s6 :: s7 :: s8 :: s9 :: s10 :: .sh d :: Γ)) Q X = Q .shr d := id rfl
theorem wp_v11ow {s0 s1 s2 s3 s4 s5 s6 s7 s8 s9 s10 : Slot} {d : D} {Γ : Env} : wpE (varD 11 (s0 :: s1 :: s2 :: s3 :: s4 :: s5 :: s6 :: s7 :: s8 :: s9 :: s10 :: .ow d :: Γ)) Q X = Q .bor d := id rfl
theorem wp_v12sh {s0 s1 s2 s3 s4 s5 s6 s7 s8 s9 s10 s11 : Slot} {d : D} {Γ : Env} : wpE (varD 12 (s0 :: s1 :: s2 :: s3 :: s4 :: s5 :: s6 :: s7 :: s8 :: s9 :: s10 :: s11 :: .sh d :: Γ)) Q X = Q .shr d := id rfl
theorem wp_v12ow {s0 s1 s2 s3 s4 s5 s6 s7 s8 s9 s10 s11 : Slot} {d : D} {Γ : Env} : wpE (varD 12 (s0 :: s1 :: s2 :: s3 :: s4 :: s5 :: s6 :: s7 :: s8 :: s9 :: s10 :: s11 :: .ow d :: Γ)) Q X = Q .bor d := id rfl
theorem wp_v13sh {s0 s1 s2 s3 s4 s5 s6 s7 s8 s9 s10 s11 s12 : Slot} {d : D} {Γ : Env} : wpE (varD 13 (s0 :: s1 :: s2 :: s3 :: s4 :: s5 :: s6 :: s7 :: s8 :: s9 :: s10 :: s11 :: s12 :: .sh d :: Γ)) Q X = Q .shr d := id rfl
theorem wp_v13ow {s0 s1 s2 s3 s4 s5 s6 s7 s8 s9 s10 s11 s12 : Slot} {d : D} {Γ : Env} : wpE (varD 13 (s0 :: s1 :: s2 :: s3 :: s4 :: s5 :: s6 :: s7 :: s8 :: s9 :: s10 :: s11 :: s12 :: .ow d :: Γ)) Q X = Q .bor d := id rfl
theorem wp_v14sh {s0 s1 s2 s3 s4 s5 s6 s7 s8 s9 s10 s11 s12 s13 : Slot} {d : D} {Γ : Env} : wpE (varD 14 (s0 :: s1 :: s2 :: s3 :: s4 :: s5 :: s6 :: s7 :: s8 :: s9 :: s10 :: s11 :: s12 :: s13 :: .sh d :: Γ)) Q X = Q .shr d := id rfl
theorem wp_v14ow {s0 s1 s2 s3 s4 s5 s6 s7 s8 s9 s10 s11 s12 s13 : Slot} {d : D} {Γ : Env} : wpE (varD 14 (s0 :: s1 :: s2 :: s3 :: s4 :: s5 :: s6 :: s7 :: s8 :: s9 :: s10 :: s11 :: s12 :: s13 :: .ow d :: Γ)) Q X = Q .bor d := id rfl
theorem wp_v15sh {s0 s1 s2 s3 s4 s5 s6 s7 s8 s9 s10 s11 s12 s13 s14 : Slot} {d : D} {Γ : Env} : wpE (varD 15 (s0 :: s1 :: s2 :: s3 :: s4 :: s5 :: s6 :: s7 :: s8 :: s9 :: s10 :: s11 :: s12 :: s13 :: s14 :: .sh d :: Γ)) Q X = Q .shr d := id rfl
theorem wp_v15ow {s0 s1 s2 s3 s4 s5 s6 s7 s8 s9 s10 s11 s12 s13 s14 : Slot} {d : D} {Γ : Env} : wpE (varD 15 (s0 :: s1 :: s2 :: s3 :: s4 :: s5 :: s6 :: s7 :: s8 :: s9 :: s10 :: s11 :: s12 :: s13 :: s14 :: .ow d :: Γ)) Q X = Q .bor d := id rfl
theorem wp_v16sh {s0 s1 s2 s3 s4 s5 s6 s7 s8 s9 s10 s11 s12 s13 s14 s15 : Slot} {d : D} {Γ : Env} : wpE (varD 16 (s0 :: s1 :: s2 :: s3 :: s4 :: s5 :: s6 :: s7 :: s8 :: s9 :: s10 :: s11 :: s12 :: s13 :: s14 :: s15 :: .sh d :: Γ)) Q X = Q .shr d := id rfl
theorem wp_v16ow {s0 s1 s2 s3 s4 s5 s6 s7 s8 s9 s10 s11 s12 s13 s14 s15 : Slot} {d : D} {Γ : Env} : wpE (varD 16 (s0 :: s1 :: s2 :: s3 :: s4 :: s5 :: s6 :: s7 :: s8 :: s9 :: s10 :: s11 :: s12 :: s13 :: s14 :: s15 :: .ow d :: Γ)) Q X = Q .bor d := id rfl
theorem wp_v17sh {s0 s1 s2 s3 s4 s5 s6 s7 s8 s9 s10 s11 s12 s13 s14 s15 s16 : Slot} {d : D} {Γ : Env} : wpE (varD 17 (s0 :: s1 :: s2 :: s3 :: s4 :: s5 :: s6 :: s7 :: s8 :: s9 :: s10 :: s11 :: s12 :: s13 :: s14 :: s15 :: s16 :: .sh d :: Γ)) Q X = Q .shr d := id rfl
theorem wp_v17ow {s0 s1 s2 s3 s4 s5 s6 s7 s8 s9 s10 s11 s12 s13 s14 s15 s16 : Slot} {d : D} {Γ : Env} : wpE (varD 17 (s0 :: s1 :: s2 :: s3 :: s4 :: s5 :: s6 :: s7 :: s8 :: s9 :: s10 :: s11 :: s12 :: s13 :: s14 :: s15 :: s16 :: .ow d :: Γ)) Q X = Q .bor d := id rfl
theorem wp_v18sh {s0 s1 s2 s3 s4 s5 s6 s7 s8 s9 s10 s11 s12 s13 s14 s15 s16 s17 : Slot} {d : D} {Γ : Env} : wpE (varD 18 (s0 :: s1 :: s2 :: s3 :: s4 :: s5 :: s6 :: s7 :: s8 :: s9 :: s10 :: s11 :: s12 :: s13 :: s14 :: s15 :: s16 :: s17 :: .sh d :: Γ)) Q X = Q .shr d := id rfl
theorem wp_v18ow {s0 s1 s2 s3 s4 s5 s6 s7 s8 s9 s10 s11 s12 s13 s14 s15 s16 s17 : Slot} {d : D} {Γ : Env} : wpE (varD 18 (s0 :: s1 :: s2 :: s3 :: s4 :: s5 :: s6 :: s7 :: s8 :: s9 :: s10 :: s11 :: s12 :: s13 :: s14 :: s15 :: s16 :: s17 :: .ow d :: Γ)) Q X = Q .bor d := id rfl
theorem wp_v19sh {s0 s1 s2 s3 s4 s5 s6 s7 s8 s9 s10 s11 s12 s13 s14 s15 s16 s17 s18 : Slot} {d : D} {Γ : Env} : wpE (varD 19 (s0 :: s1 :: s2 :: s3 :: s4 :: s5 :: s6 :: s7 :: s8 :: s9 :: s10 :: s11 :: s12 :: s13 :: s14 :: s15 :: s16 :: s17 :: s18 :: .sh d :: Γ)) Q X = Q .shr d := id rfl
theorem wp_v19ow {s0 s1 s2 s3 s4 s5 s6 s7 s8 s9 s10 s11 s12 s13 s14 s15 s16 s17 s18 : Slot} {d : D} {Γ : Env} : wpE (varD 19 (s0 :: s1 :: s2 :: s3 :: s4 :: s5 :: s6 :: s7 :: s8 :: s9 :: s10 :: s11 :: s12 :: s13 :: s14 :: s15 :: s16 :: s17 :: s18 :: .ow d :: Γ)) Q X = Q .bor d := id rfl
theorem wp_v20sh {s0 s1 s2 s3 s4 s5 s6 s7 s8 s9 s10 s11 s12 s13 s14 s15 s16 s17 s18 s19 : Slot} {d : D} {Γ : Env} : wpE (varD 20 (s0 :: s1 :: s2 :: s3 :: s4 :: s5 :: s6 :: s7 :: s8 :: s9 :: s10 :: s11 :: s12 :: s13 :: s14 :: s15 :: s16 :: s17 :: s18 :: s19 :: .sh d :: Γ)) Q X = Q .shr d := id rfl
theorem wp_v20ow {s0 s1 s2 s3 s4 s5 s6 s7 s8 s9 s10 s11 s12 s13 s14 s15 s16 s17 s18 s19 : Slot} {d : D} {Γ : Env} : wpE (varD 20 (s0 :: s1 :: s2 :: s3 :: s4 :: s5 :: s6 :: s7 :: s8 :: s9 :: s10 :: s11 :: s12 :: s13 :: s14 :: s15 :: s16 :: s17 :: s18 :: s19 :: .ow d :: Γ)) Q X = Q .bor d := id rfl
theorem wp_v21sh {s0 s1 s2 s3 s4 s5 s6 s7 s8 s9 s10 s11 s12 s13 s14 s15 s16 s17 s18 s19 s20 : Slot} {d : D} {Γ : Env} : wpE (varD 21 (s0 :: s1 :: s2 :: s3 :: s4 :: s5 :: s6 :: s7 :: s8 :: s9 :: s10 :: s11 :: s12 :: s13 :: s14 :: s15 :: s16 :: s17 :: s18 :: s19 :: s20 :: .sh d :: Γ)) Q X = Q .shr d := id rfl
theorem wp_v21ow {s0 s1 s2 s3 s4 s5 s6 s7 s8 s9 s10 s11 s12 s13 s14 s15 s16 s17 s18 s19 s20 : Slot} {d : D} {Γ : Env} : wpE (varD 21 (s0 :: s1 :: s2 :: s3 :: s4 :: s5 :: s6 :: s7 :: s8 :: s9 :: s10 :: s11 :: s12 :: s13 :: s14 :: s15 :: s16 :: s17 :: s18 :: s19 :: s20 :: .ow d :: Γ)) Q X = Q .bor d := id rfl
theorem wp_v22sh {s0 s1 s2 s3 s4 s5 s6 s7 s8 s9 s10 s11 s12 s13 s14 s15 s16 s17 s18 s19 s20 s21 : Slot} {d : D} {Γ : Env} : wpE (varD 22 (s0 :: s1 :: s2 :: s3 :: s4 :: s5 :: s6 :: s7 :: s8 :: s9 :: s10 :: s11 :: s12 :: s13 :: s14 :: s15 :: s16 :: s17 :: s18 :: s19 :: s20 :: s21 :: .sh d :: Γ)) Q X = Q .shr d := id rfl
theorem wp_v22ow {s0 s1 s2 s3 s4 s5 s6 s7 s8 s9 s10 s11 s12 s13 s14 s15 s16 s17 s18 s19 s20 s21 : Slot} {d : D} {Γ : Env} : wpE (varD 22 (s0 :: s1 :: s2 :: s3 :: s4 :: s5 :: s6 :: s7 :: s8 :: s9 :: s10 :: s11 :: s12 :: s13 :: s14 :: s15 :: s16 :: s17 :: s18 :: s19 :: s20 :: s21 :: .ow d :: Γ)) Q X = Q .bor d := id rfl
theorem wp_v23sh {s0 s1 s2 s3 s4 s5 s6 s7 s8 s9 s10 s11 s12 s13 s14 s15 s16 s17 s18 s19 s20 s21 s22 : Slot} {d : D} {Γ : Env} : wpE (varD 23 (s0 :: s1 :: s2 :: s3 :: s4 :: s5 :: s6 :: s7 :: s8 :: s9 :: s10 :: s11 :: s12 :: s13 :: s14 :: s15 :: s16 :: s17 :: s18 :: s19 :: s20 :: s21 :: s22 :: .sh d :: Γ)) Q X = Q .shr d := id rfl
theorem wp_v23ow {s0 s1 s2 s3 s4 s5 s6 s7 s8 s9 s10 s11 s12 s13 s14 s15 s16 s17 s18 s19 s20 s21 s22 : Slot} {d : D} {Γ : Env} : wpE (varD 23 (s0 :: s1 :: s2 :: s3 :: s4 :: s5 :: s6 :: s7 :: s8 :: s9 :: s10 :: s11 :: s12 :: s13 :: s14 :: s15 :: s16 :: s17 :: s18 :: s19 :: s20 :: s21 :: s22 :: .ow d :: Γ)) Q X = Q .bor d := id rfl
theorem wp_v24sh {s0 s1 s2 s3 s4 s5 s6 s7 s8 s9 s10 s11 s12 s13 s14 s15 s16 s17 s18 s19 s20 s21 s22 s23 : Slot} {d : D} {Γ : Env} : wpE (varD 24 (s0 :: s1 :: s2 :: s3 :: s4 :: s5 :: s6 :: s7 :: s8 :: s9 :: s10 :: s11 :: s12 :: s13 :: s14 :: s15 :: s16 :: s17 :: s18 :: s19 :: s20 :: s21 :: s22 :: s23 :: .sh d :: Γ)) Q X = Q .shr d := id rfl
theorem wp_v24ow {s0 s1 s2 s3 s4 s5 s6 s7 s8 s9 s10 s11 s12 s13 s14 s15 s16 s17 s18 s19 s20 s21 s22 s23 : Slot} {d : D} {Γ : Env} : wpE (varD 24 (s0 :: s1 :: s2 :: s3 :: s4 :: s5 :: s6 :: s7 :: s8 :: s9 :: s10 :: s11 :: s12 :: s13 :: s14 :: s15 :: s16 :: s17 :: s18 :: s19 :: s20 :: s21 :: s22 :: s23 :: .ow d :: Γ)) Q X = Q .bor d := id rfl
theorem wp_v25sh {s0 s1 s2 s3 s4 s5 s6 s7 s8 s9 s10 s11 s12 s13 s14 s15 s16 s17 s18 s19 s20 s21 s22 s23 s24 : Slot} {d : D} {Γ : Env} : wpE (varD 25 (s0 :: s1 :: s2 :: s3 :: s4 :: s5 :: s6 :: s7 :: s8 :: s9 :: s10 :: s11 :: s12 :: s13 :: s14 :: s15 :: s16 :: s17 :: s18 :: s19 :: s20 :: s21 :: s22 :: s23 :: s24 :: .sh d :: Γ)) Q X = Q .shr d := id rfl
theorem wp_v25ow {s0 s1 s2 s3 s4 s5 s6 s7 s8 s9 s10 s11 s12 s13 s14 s15 s16 s17 s18 s19 s20 s21 s22 s23 s24 : Slot} {d : D} {Γ : Env} : wpE (varD 25 (s0 :: s1 :: s2 :: s3 :: s4 :: s5 :: s6 :: s7 :: s8 :: s9 :: s10 :: s11 :: s12 :: s13 :: s14 :: s15 :: s16 :: s17 :: s18 :: s19 :: s20 :: s21 :: s22 :: s23 :: s24 :: .ow d :: Γ)) Q X = Q .bor d := id rfl
theorem wp_c (d : D) : wpE (cD d Γ) Q X = Q .shr d := id rfl
theorem wp_bind (x : RE) (h : Rt → D → RE) : wpE (bindE x h) Q X = wpE x (fun r d => wpE (h r d) Q X) X := by cases x <;> rfl
def noX (x : RE) : RE := match x with | .ok s d => .ok s d | _ => .bad
theorem wp_noX (x : RE) : wpE (noX x) Q X = wpE x Q fun _ => False := by cases x <;> rfl
theorem wp_op2 (h : D → D → RE) : wpE (op2D h f1 f2 Γ) Q X = wpE (f1 Γ) (fun _ a => wpE (f2 Γ) (fun _ b => wpE (h a b) Q fun _ => False) X) X := by
  show wpE (bindE (f1 Γ) fun _ a => bindE (f2 Γ) fun _ b => noX (h a b)) Q X = _
  rw [wp_bind]
  congr 1
  funext r a
  rw [wp_bind]
  congr 1
  funext r b
  exact wp_noX _
theorem wp_op1 (h : D → RE) : wpE (op1D h f1 Γ) Q X = wpE (f1 Γ) (fun _ a => wpE (h a) Q fun _ => False) X := by
  show wpE (bindE (f1 Γ) fun _ a => noX (h a)) Q X = _
  rw [wp_bind]
  congr 1
  funext r a
  exact wp_noX _
theorem wp_and : wpE (andD f1 f2 Γ) Q X = wpE (f1 Γ) (fun _ d => wpB d fun b => if b = true then wpE (f2 Γ) Q X else Q .shr (.bl false)) X := by
  unfold andD
  rw [wp_bind]
  congr 1
  funext r d
  cases d with
  | bl b => cases b <;> rfl
  | _ => rfl
theorem wp_or : wpE (orD f1 f2 Γ) Q X = wpE (f1 Γ) (fun _ d => wpB d fun b => if b = true then Q .shr (.bl true) else wpE (f2 Γ) Q X) X := by
  unfold orD
  rw [wp_bind]
  congr 1
  funext r d
  cases d with
  | bl b => cases b <;> rfl
  | _ => rfl
theorem wp_not : wpE (notD f1 Γ) Q X = wpE (f1 Γ) (fun _ d => wpB d fun b => Q .shr (.bl (!b))) X := by
  unfold notD
  rw [wp_bind]
  congr 1
  funext r d
  cases d with
  | bl b => rfl
  | _ => rfl
theorem wp_if : wpE (ifD f1 f2 f3 Γ) Q X = wpE (f1 Γ) (fun _ d => wpB d fun b => if b = true then wpE (f2 Γ) Q X else wpE (f3 Γ) Q X) X := by
  unfold ifD
  rw [wp_bind]
  congr 1
  funext r d
  cases d with
  | bl b => cases b <;> rfl
  | _ => rfl
theorem wp_chain (h h' : D → D → RE) : wpE (chainD h h' f1 f2 f3 Γ) Q X = wpE (f1 Γ) (fun _ a => wpE (f2 Γ) (fun _ b => wpE (h a b) (fun _ d => wpB d fun z => if z = true then wpE (f3 Γ) (fun _ c => wpE (h' b c) Q fun _ => False) X else Q .shr (.bl false)) fun _ => False) X) X := by
  unfold chainD
  rw [wp_bind]
  congr 1
  funext r a
  rw [wp_bind]
  congr 1
  funext r b
  cases e : h a b with
  | ok s d =>
    cases d with
    | bl z =>
      cases z with
      | true =>
        simp only [wpE_ok, wpB_bl, if_true]
        rw [wp_bind]
        congr 1
        funext r c
        exact wp_noX _
      | false => rfl
    | _ => rfl
  | exc x => rfl
  | bad => rfl
theorem wp_nil : wpL (nilD Γ) QL X = QL [] := id rfl
theorem wp_cons : wpL (consD f g Γ) QL X = wpE (f Γ) (fun r d => wpL (g Γ) (fun rs => QL ((r, d) :: rs)) X) X := by
  unfold consD
  cases f Γ with
  | ok r d => cases g Γ <;> rfl
  | exc e => rfl
  | bad => rfl
theorem wp_tup : wpE (tupD g Γ) Q X = wpL (g Γ) (fun rs => (plainL rs = true ∧ rs.length ≤ 1000) ∧ Q .shr (.tup (rs.map (·.2)))) X := by
  unfold tupD
  cases g Γ with
  | ok rs =>
    show wpE (if plainL rs = true ∧ rs.length ≤ 1000 then .ok .shr (.tup (rs.map (·.2))) else .bad) Q X = _
    by_cases h : plainL rs = true ∧ rs.length ≤ 1000
    · rw [if_pos h]; simp only [wpE_ok, wpL_ok, h, true_and]
    · rw [if_neg h]; simp only [wpE_bad, wpL_ok, h, false_and]
  | exc e => rfl
  | bad => rfl
theorem wp_lst : wpE (lstD g Γ) Q X = wpL (g Γ) (fun rs => (plainL rs = true ∧ rs.length ≤ 1000) ∧ Q .fre (.lst (rs.map (·.2)))) X := by
  unfold lstD
  cases g Γ with
  | ok rs =>
    show wpE (if plainL rs = true ∧ rs.length ≤ 1000 then .ok .fre (.lst (rs.map (·.2))) else .bad) Q X = _
    by_cases h : plainL rs = true ∧ rs.length ≤ 1000
    · rw [if_pos h]; simp only [wpE_ok, wpL_ok, h, true_and]
    · rw [if_neg h]; simp only [wpE_bad, wpL_ok, h, false_and]
  | exc e => rfl
  | bad => rfl
theorem wp_callB (h : List (Rt × D) → RE) : wpE (callBD h g Γ) Q X = wpL (g Γ) (fun rs => wpE (h rs) Q fun _ => False) X := by
  unfold callBD
  cases g Γ with
  | ok rs => exact wp_noX _
  | exc e => rfl
  | bad => rfl
theorem wp_call1 (h : D → RE) (r : Rt) (d : D) : wpE (call1 h [(r, d)]) Q X = wpE (h d) Q X := id rfl
theorem wp_call2 (h : D → D → RE) (r r' : Rt) (d d' : D) : wpE (call2 h [(r, d), (r', d')]) Q X = wpE (h d d') Q X := id rfl
theorem wp_callD (n : Nat) (den : List D → FR) : wpE (callD n den g Γ) Q X = wpL (g Γ) (fun rs => rs.length = n ∧ wpF (den (rs.map (·.2))) (fun c d => if c = true then (plainL rs = true ∨ kidsImm d = true) ∧ Q .fre d else (plainL rs = true ∨ d.imm = true) ∧ Q .shr d) X) X := by
  unfold callD
  cases g Γ with
  | ok rs =>
    show wpE (if rs.length = n then _ else .bad) Q X = _
    by_cases h : rs.length = n
    · rw [if_pos h]
      simp only [wpL_ok, h, true_and]
      cases den (rs.map (·.2)) with
      | ok c d =>
        show wpE (if c = true then (if plainL rs = true ∨ kidsImm d = true then .ok .fre d else .bad) else if plainL rs = true ∨ d.imm = true then .ok .shr d else .bad) Q X = _
        rw [wpF_ok]
        by_cases hc : c = true
        · rw [if_pos hc, if_pos hc]
          by_cases hp : plainL rs = true ∨ kidsImm d = true
          · rw [if_pos hp]; simp only [wpE_ok, hp, true_and]
          · rw [if_neg hp]; simp only [wpE_bad, hp, false_and]
        · rw [if_neg hc, if_neg hc]
          by_cases hp : plainL rs = true ∨ d.imm = true
          · rw [if_pos hp]; simp only [wpE_ok, hp, true_and]
          · rw [if_neg hp]; simp only [wpE_bad, hp, false_and]
      | exc e => rfl
      | bad => rfl
    · rw [if_neg h]; simp only [wpL_ok, h, false_and, wpE_bad]
  | exc e => rfl
  | bad => rfl
theorem wp_sl (l h : Env → RO) : wpE (slD f l h Γ) Q X = wpE (f Γ) (fun _ d => wpO (l Γ) (fun lo => wpO (h Γ) (fun hi => wpE (cutX d lo hi) Q X) X) X) X := by
  unfold slD
  rw [wp_bind]
  congr 1
  funext r d
  cases l Γ with
  | ok lo =>
    show wpE (match h Γ with | .ok hi => cutX d lo hi | .exc e => .exc e | .bad => .bad) Q X = wpO (h Γ) (fun hi => wpE (cutX d lo hi) Q X) X
    cases h Γ <;> rfl
  | exc e => rfl
  | bad => rfl
theorem wp_noPart : wpO (noPart Γ) QO X = QO none := id rfl
def wpInt : D → (Int → Prop) → Prop
  | .int i, k => k i
  | _, _ => False
theorem wpInt_int (i : Int) (k : Int → Prop) : wpInt (.int i) k = k i := id rfl
theorem wp_part : wpO (partD f Γ) QO X = wpE (f Γ) (fun _ d => wpInt d fun i => QO (some i)) X := by
  unfold partD
  cases f Γ with
  | ok r d => cases d <;> rfl
  | exc e => rfl
  | bad => rfl
def wpStr : D → (Str → Prop) → Prop
  | .str x, k => k x
  | _, _ => False
theorem wpStr_str (i : Str) (k : Str → Prop) : wpStr (.str i) k = k i := id rfl
theorem wp_m1 (h : D → D → RE) : wpE (m1D h f1 f2 Γ) Q X = wpE (f1 Γ) (fun _ a => wpStr a fun x => wpE (f2 Γ) (fun _ b => wpE (h (.str x) b) Q fun _ => False) X) X := by
  unfold m1D
  cases f1 Γ with
  | ok r d =>
    cases d with
    | str x =>
      simp only [wpE_ok, wpStr_str]
      cases f2 Γ with
      | ok r2 d2 => exact wp_noX _
      | exc e => rfl
      | bad => rfl
    | _ => rfl
  | exc e => rfl
  | bad => rfl

/-! ### statements -/
/-- what comes behind a statement -/
def Nxt (t : Env → Out) (k : Out → Prop) : Out → Prop := fun o => match o with | .nx Γ' => wpS (t Γ') k | o => k o
theorem Nxt_nx : Nxt t k (.nx Γ) = wpS (t Γ) k := id rfl
theorem Nxt_ret (c : Bool) (d : D) : Nxt t k (.ret c d) = k (.ret c d) := id rfl
theorem Nxt_brk : Nxt t k (.brk Γ) = k (.brk Γ) := id rfl
theorem Nxt_cnt : Nxt t k (.cnt Γ) = k (.cnt Γ) := id rfl
theorem Nxt_exc (e : Exn) : Nxt t k (.exc Γ e) = k (.exc Γ e) := id rfl
theorem wp_seq : wpS (seqD s t Γ) k = wpS (s Γ) (Nxt t k) := by
  unfold seqD
  cases s Γ <;> rfl
theorem wp_next : wpS (nextD Γ) k = k (.nx Γ) := id rfl
theorem wp_brk : wpS (brkD Γ) k = k (.brk Γ) := id rfl
theorem wp_cnt : wpS (cntD Γ) k = k (.cnt Γ) := id rfl
theorem wp_never : wpS (neverD Γ) k = False := id rfl
theorem wp_eval (h : Env → Rt → D → Out) : wpS (evalS f h Γ) k = wpE (f Γ) (fun r d => wpS (h Γ r d) k) (fun e => k (.exc Γ e)) := by
  unfold evalS
  cases f Γ <;> rfl
theorem wp_asg (i : Nat) : wpS (asgD i f Γ) k = wpE (f Γ) (fun r d => r ≠ .bor ∧ k (.nx (Γ.set i (.sh d)))) (fun e => k (.exc Γ e)) := by
  unfold asgD
  rw [wp_eval]
  congr 1
  funext r d
  by_cases h : r = .bor
  · rw [if_pos h, wpS_bad]; simp [h]
  · rw [if_neg h, wpS_nx]; simp [h]
theorem wp_asgO (i : Nat) : wpS (asgOD i f Γ) k = wpE (f Γ) (fun r d => (r = .fre ∧ i < Γ.length) ∧ k (.nx (Γ.set i (.ow d)))) (fun e => k (.exc Γ e)) := by
  unfold asgOD
  rw [wp_eval]
  congr 1
  funext r d
  by_cases h : r = .fre ∧ i < Γ.length
  · rw [if_pos h, wpS_nx]; simp [h]
  · rw [if_neg h, wpS_bad]; simp [h]
theorem wp_drop : wpS (dropD f Γ) k = wpE (f Γ) (fun r d => k (.nx Γ)) (fun e => k (.exc Γ e)) := by
  unfold dropD
  rw [wp_eval]
  rfl
theorem wp_ret : wpS (retD f Γ) k = wpE (f Γ) (fun r d => k (.ret (!d.imm && !decide (r = .shr)) d)) (fun e => k (.exc Γ e)) := by
  unfold retD
  rw [wp_eval]
  congr 1
  funext r d
  by_cases h : d.imm = true
  · rw [if_pos h, wpS_ret, h]; rfl
  · rw [if_neg h]
    have h' : d.imm = false := by simpa using h
    by_cases h2 : r = .shr
    · rw [if_pos h2, wpS_ret, h', h2]; rfl
    · rw [if_neg h2, wpS_ret, h', decide_eq_false h2]; rfl
theorem wp_ifS : wpS (ifS f s t Γ) k = wpE (f Γ) (fun _ d => wpB d fun b => if b = true then wpS (s Γ) k else wpS (t Γ) k) (fun e => k (.exc Γ e)) := by
  unfold ifS
  rw [wp_eval]
  congr 1
  funext r d
  cases d with
  | bl b => cases b <;> rfl
  | _ => rfl
theorem wp_asgT (tg : D → Env → Option Env) : wpS (asgT tg f Γ) k = wpE (f Γ) (fun r d => r ≠ .bor ∧ wpT (tg d Γ) fun Γ' => k (.nx Γ')) (fun e => k (.exc Γ e)) := by
  unfold asgT
  rw [wp_eval]
  congr 1
  funext r d
  by_cases h : r = .bor
  · rw [if_pos h, wpS_bad]; simp [h]
  · rw [if_neg h]
    cases tg d Γ with
    | none => simp [h, wpT, wpS]
    | some Γ' => simp [h, wpT, wpS]
theorem wp_app (i : Nat) : wpS (appD i f Γ) k = match ownL Γ i with | some ds => wpE (f Γ) (fun r d => (r ≠ .bor ∧ ds.length < sizeLine) ∧ k (.nx (Γ.set i (.ow (.lst (ds ++ [d])))))) (fun e => k (.exc Γ e)) | none => False := by
  unfold appD
  cases ownL Γ i with
  | none => rfl
  | some ds =>
    show wpS (evalS f _ Γ) k = _
    rw [wp_eval]
    show wpE (f Γ) _ _ = wpE (f Γ) _ _
    congr 1
    funext r d
    by_cases h : r ≠ .bor ∧ ds.length < sizeLine
    · rw [if_pos h, wpS_nx]; simp only [h, true_and, and_self, ne_eq, not_false_eq_true]
    · rw [if_neg h, wpS_bad]; simp only [h, false_and]
theorem wp_clear (i : Nat) : wpS (clearD i Γ) k = match ownL Γ i with | some ds => k (.nx (Γ.set i (.ow (.lst [])))) | none => False := by
  unfold clearD
  cases ownL Γ i <;> rfl
theorem wp_clrFor (x i j : Nat) : wpS (clrForD x i j Γ) k = match ownL Γ x with | some ds => (ds.all okItem = true ∧ i < Γ.length ∧ j < Γ.length ∧ i ≠ j) ∧ k (.nx (((poisE Γ).set i .no).set j .no)) | none => False := by
  unfold clrForD ownL
  cases Γ[x]? with
  | none => rfl
  | some s =>
    cases s with
    | no => rfl
    | sh d => rfl
    | ow d =>
      cases d with
      | lst ds =>
        show wpS (if ds.all okItem = true ∧ i < Γ.length ∧ j < Γ.length ∧ i ≠ j then .nx (((poisE Γ).set i .no).set j .no) else .bad) k = ((ds.all okItem = true ∧ i < Γ.length ∧ j < Γ.length ∧ i ≠ j) ∧ k (.nx (((poisE Γ).set i .no).set j .no)))
        by_cases hc : ds.all okItem = true ∧ i < Γ.length ∧ j < Γ.length ∧ i ≠ j
        · rw [if_pos hc, wpS_nx]; simp only [hc, true_and, and_self, ne_eq, not_false_eq_true]
        · rw [if_neg hc, wpS_bad]; simp only [hc, false_and]
      | _ => rfl
theorem wp_thru : wpS (thruD s Γ) k = wpS (s Γ) (fun o => match o with | .exc _ _ => False | o => k o) := by
  unfold thruD
  cases s Γ <;> rfl
theorem wp_for {fi : Env → RI} {tg : D → Env → Option Env} {fb : Env → Out} (P : Nat → Env → Prop)
    (h : wpI (fi Γ) (fun r ds => r ≠ .bor ∧ P 0 Γ ∧ (∀ n Γ d, P n Γ → ds[n]? = some d → wpT (tg d Γ) fun Γ1 => wpS (fb Γ1) fun o => match o with | .nx Γ2 => P (n + 1) Γ2 | .cnt Γ2 => P (n + 1) Γ2 | .brk Γ2 => k (.nx Γ2) | o => k o) ∧ ∀ Γ', P ds.length Γ' → k (.nx Γ')) fun e => k (.exc Γ e)) : wpS (forD fi tg fb Γ) k := by
  unfold forD
  cases hi : fi Γ with
  | exc e => rw [hi] at h; exact h
  | bad => rw [hi] at h; exact h.elim
  | ok r ds =>
    rw [hi] at h
    obtain ⟨hr, h0, hs, hd⟩ := h
    simp only [if_neg hr]
    have go : ∀ (es : List D) (n : Nat) (Γ : Env), ds.drop n = es → n ≤ ds.length → P n Γ → wpS (forGo tg fb es Γ) k := by
      intro es
      induction es with
      | nil =>
        intro n Γ e hn hp
        have : n = ds.length := by
          have := congrArg List.length e
          rw [List.length_drop] at this
          simp only [List.length_nil] at this
          omega
        subst this
        exact hd Γ hp
      | cons d es ih =>
        intro n Γ e hn hp
        have hlt : n < ds.length := by
          have := congrArg List.length e
          rw [List.length_drop] at this
          simp only [List.length_cons] at this
          omega
        have hdn : ds[n]? = some d := by
          have := congrArg (fun l => l[0]?) e
          simpa using this
        have hes : ds.drop (n + 1) = es := by
          have := congrArg List.tail e
          simpa using this
        have q := hs n Γ d hp hdn
        unfold forGo
        cases et : tg d Γ with
        | none => rw [et] at q; exact q.elim
        | some Γ1 =>
          rw [et] at q
          have q' : wpS (fb Γ1) _ := q
          show wpS (match fb Γ1 with | .nx Γ2 => forGo tg fb es Γ2 | .cnt Γ2 => forGo tg fb es Γ2 | .brk Γ2 => .nx Γ2 | x => x) k
          cases eb : fb Γ1 with
          | nx Γ2 => rw [eb] at q'; exact ih (n + 1) Γ2 hes hlt q'
          | cnt Γ2 => rw [eb] at q'; exact ih (n + 1) Γ2 hes hlt q'
          | brk Γ2 => rw [eb] at q'; exact q'
          | ret c d => rw [eb] at q'; exact q'
          | exc Γ2 e => rw [eb] at q'; exact q'
          | bad => rw [eb] at q'; exact q'
    exact go ds 0 Γ rfl (Nat.zero_le _) h0
theorem wp_lcMap {vs : List Nat} {fi : Env → RI} {tg : D → Env → Option Env} {fe : Env → RE} (F : D → D)
    (h : wpI (fi Γ) (fun _ ds => (∀ d ∈ ds, wpT (tg d (wipeD Γ vs)) fun Γ1 => wpE (fe Γ1) (fun r x => r ≠ .bor ∧ x = F d) fun _ => False) ∧ Q .fre (.lst (ds.map F))) X) : wpE (lcD vs fi tg (cD (.bl true)) fe Γ) Q X := by
  cases hi : fi Γ with
  | exc e => rw [hi] at h; unfold lcD; rw [hi]; exact h
  | bad => rw [hi] at h; exact h.elim
  | ok r ds =>
    rw [hi] at h
    obtain ⟨h1, h2⟩ := h
    rw [lc_map F hi]
    · exact h2
    · intro d hd
      have q := h1 d hd
      cases et : tg d (wipeD Γ vs) with
      | none => rw [et] at q; exact q.elim
      | some Γ1 =>
        rw [et] at q
        have q' : wpE (fe Γ1) _ _ := q
        cases ee : fe Γ1 with
        | ok r' x =>
          rw [ee] at q'
          obtain ⟨q1, q2⟩ := q'
          exact ⟨Γ1, .shr, r', rfl, rfl, by rw [ee, q2], q1⟩
        | exc e => rw [ee] at q'; exact q'.elim
        | bad => rw [ee] at q'; exact q'.elim
theorem wp_iter : wpI (iterD f Γ) QI X = wpE (f Γ) (fun r d => match d with | .lst ds => QI r ds | .tup ds => QI .shr ds | .str x => x.length ≤ sizeLine ∧ QI .shr (chars x) | _ => False) X := by
  unfold iterD
  cases f Γ with
  | ok r d =>
    cases d with
    | str x =>
      show wpI (if x.length ≤ sizeLine then .ok .shr (chars x) else .bad) QI X = (x.length ≤ sizeLine ∧ QI .shr (chars x))
      by_cases h : x.length ≤ sizeLine
      · rw [if_pos h]; simp only [wpI_ok, h, true_and]
      · rw [if_neg h]; simp only [wpI_bad, h, false_and]
    | _ => rfl
  | exc e => rfl
  | bad => rfl
def one1 (h : Rt → D → RI) (rs : List (Rt × D)) : RI := match rs with
  | [(r, a)] => h r a
  | _ => .bad
def one2 (h : Rt → D → Rt → D → RI) (rs : List (Rt × D)) : RI := match rs with
  | [(r, a), (s, b)] => h r a s b
  | _ => .bad
theorem one1_1 (h : Rt → D → RI) (r : Rt) (a : D) : one1 h [(r, a)] = h r a := id rfl
theorem one2_2 (h : Rt → D → Rt → D → RI) (r : Rt) (a : D) (s : Rt) (b : D) : one2 h [(r, a), (s, b)] = h r a s b := id rfl
theorem wp_callI1 (h : Rt → D → RI) : wpI (callI1 h g Γ) QI X = wpL (g Γ) (fun rs => wpI (one1 h rs) QI X) X := by
  unfold callI1
  cases g Γ <;> rfl
theorem wp_callI2 (h : Rt → D → Rt → D → RI) : wpI (callI2 h g Γ) QI X = wpL (g Γ) (fun rs => wpI (one2 h rs) QI X) X := by
  unfold callI2
  cases g Γ <;> rfl
theorem wp_rng1 : wpI (rng1D g Γ) QI X = wpL (g Γ) (fun rs => wpI (one1 (fun _ a => rng1V a) rs) QI X) X := wp_callI1 _
theorem wp_rng2 : wpI (rng2D g Γ) QI X = wpL (g Γ) (fun rs => wpI (one2 (fun _ a _ b => rng2V a b) rs) QI X) X := wp_callI2 _
theorem wp_enum : wpI (enumD g Γ) QI X = wpL (g Γ) (fun rs => wpI (one1 enumV rs) QI X) X := wp_callI1 _
theorem wp_zip : wpI (zipD g Γ) QI X = wpL (g Γ) (fun rs => wpI (one2 zipV rs) QI X) X := wp_callI2 _
theorem wp_rng1V (j : Int) : wpI (rng1V (.int j)) QI X = ((j ≤ 1000000 ∧ -1000000 ≤ j) ∧ QI .shr (rngL 0 j.toNat)) := by
  show wpI (if j ≤ 1000000 ∧ -1000000 ≤ j then .ok .shr (rngL 0 j.toNat) else .bad) QI X = _
  by_cases h : j ≤ 1000000 ∧ -1000000 ≤ j
  · rw [if_pos h]; simp only [wpI_ok, h, true_and, and_self]
  · rw [if_neg h]; simp only [wpI_bad, h, false_and]
theorem wp_rng2V (i j : Int) : wpI (rng2V (.int i) (.int j)) QI X = (((j ≤ 1000000 ∧ -1000000 ≤ j) ∧ i ≤ 1000000 ∧ -1000000 ≤ i) ∧ QI .shr (rngL i (j - i).toNat)) := by
  show wpI (if (j ≤ 1000000 ∧ -1000000 ≤ j) ∧ i ≤ 1000000 ∧ -1000000 ≤ i then .ok .shr (rngL i (j - i).toNat) else .bad) QI X = _
  by_cases h : (j ≤ 1000000 ∧ -1000000 ≤ j) ∧ i ≤ 1000000 ∧ -1000000 ≤ i
  · rw [if_pos h]; simp only [wpI_ok, h, true_and, and_self]
  · rw [if_neg h]; simp only [wpI_bad, h, false_and]
theorem wp_enumV (r : Rt) (ds : List D) : wpI (enumV r (.lst ds)) QI X = QI r (enumL 0 ds) := id rfl
theorem wp_zipT (r s : Rt) (xs ys : List D) : wpI (zipV r (.tup xs) s (.tup ys)) QI X = QI .shr (zipL xs ys) := id rfl
theorem wp_zipLL (r s : Rt) (xs ys : List D) : wpI (zipV r (.lst xs) s (.lst ys)) QI X = QI (if r = .bor ∨ s = .bor then .bor else .shr) (zipL xs ys) := id rfl
end

/-! ### operations -/
section
variable {Q : Rt → D → Prop} {X : Exn → Prop}
theorem wp_add (i j : Int) : wpE (addD (.int i) (.int j)) Q X = Q .shr (.int (i + j)) := id rfl
theorem wp_addT (x y : List D) : wpE (addD (.tup x) (.tup y)) Q X = (x.length + y.length ≤ sizeLine ∧ Q .shr (.tup (x ++ y))) := by
  show wpE (if x.length + y.length ≤ sizeLine then .ok .shr (.tup (x ++ y)) else .bad) Q X = _
  by_cases h : x.length + y.length ≤ sizeLine
  · rw [if_pos h]; simp only [wpE_ok, h, true_and]
  · rw [if_neg h]; simp only [wpE_bad, h, false_and]
theorem wp_addL (x y : List D) : wpE (addD (.lst x) (.lst y)) Q X = (x.length + y.length ≤ sizeLine ∧ Q .fre (.lst (x ++ y))) := by
  show wpE (if x.length + y.length ≤ sizeLine then .ok .fre (.lst (x ++ y)) else .bad) Q X = _
  by_cases h : x.length + y.length ≤ sizeLine
  · rw [if_pos h]; simp only [wpE_ok, h, true_and]
  · rw [if_neg h]; simp only [wpE_bad, h, false_and]
theorem wp_addS (x y : Str) : wpE (addD (.str x) (.str y)) Q X = (x.length + y.length ≤ sizeLine ∧ Q .shr (.str (x ++ y))) := by
  show wpE (if x.length + y.length ≤ sizeLine then .ok .shr (.str (x ++ y)) else .bad) Q X = _
  by_cases h : x.length + y.length ≤ sizeLine
  · rw [if_pos h]; simp only [wpE_ok, h, true_and]
  · rw [if_neg h]; simp only [wpE_bad, h, false_and]
theorem wp_int (c : Int → Int → Prop) [∀ i j, Decidable (c i j)] (h : Int → Int → D) (i j : Int) : wpE (intD c h (.int i) (.int j)) Q X = (c i j ∧ Q .shr (h i j)) := by
  show wpE (if c i j then .ok .shr (h i j) else .bad) Q X = _
  by_cases hc : c i j
  · rw [if_pos hc]; simp only [wpE_ok, hc, true_and]
  · rw [if_neg hc]; simp only [wpE_bad, hc, false_and]
theorem wp_sub (i j : Int) : wpE (subD (.int i) (.int j)) Q X = Q .shr (.int (i - j)) := by rw [subD_ok, wpE_ok]
theorem wp_mul (i j : Int) : wpE (mulD (.int i) (.int j)) Q X = (((-18446744073709551616 < i ∧ i < 18446744073709551616) ∨ (-18446744073709551616 < j ∧ j < 18446744073709551616)) ∧ Q .shr (.int (i * j))) := by
  unfold mulD
  rw [wp_int]
  rfl
theorem wp_fdiv (i j : Int) : wpE (fdivD (.int i) (.int j)) Q X = ((0 < j ∧ j < 1073741824) ∧ Q .shr (.int (i / j))) := by
  unfold fdivD
  rw [wp_int]
  rfl
theorem wp_mod (i j : Int) : wpE (modD (.int i) (.int j)) Q X = (0 < j ∧ Q .shr (.int (i % j))) := by
  unfold modD
  rw [wp_int]
theorem wp_pow (i j : Int) : wpE (powD (.int i) (.int j)) Q X = ((0 ≤ j ∧ j ≤ 1000000 ∧ -18446744073709551616 < i ∧ i < 18446744073709551616) ∧ Q .shr (.int (i ^ j.toNat))) := by
  unfold powD
  rw [wp_int]
  have e : CPow i j ↔ (0 ≤ j ∧ j ≤ 1000000 ∧ -18446744073709551616 < i ∧ i < 18446744073709551616) := by
    unfold CPow
    omega
  exact propext (and_congr_left fun _ => e)
theorem wp_lt (i j : Int) : wpE (ltD (.int i) (.int j)) Q X = Q .shr (.bl (decide (i < j))) := by rw [ltD_ok, wpE_ok]
theorem wp_le (i j : Int) : wpE (leD (.int i) (.int j)) Q X = Q .shr (.bl (decide (i ≤ j))) := by rw [leD_ok, wpE_ok]
theorem wp_gt (i j : Int) : wpE (gtD (.int i) (.int j)) Q X = Q .shr (.bl (decide (j < i))) := by rw [gtD_ok, wpE_ok]
theorem wp_ge (i j : Int) : wpE (geD (.int i) (.int j)) Q X = Q .shr (.bl (decide (j ≤ i))) := by rw [geD_ok, wpE_ok]
theorem wp_eqI (i j : Int) : wpE (eqD (.int i) (.int j)) Q X = Q .shr (.bl (decide (i = j))) := by rw [eqD_int, wpE_ok]
theorem wp_neI (i j : Int) : wpE (neD (.int i) (.int j)) Q X = Q .shr (.bl (!decide (i = j))) := by rw [neD_int, wpE_ok]
theorem wp_eq (a b : D) : wpE (eqD a b) Q X = ((a.pk 20 = true ∧ b.pk 20 = true) ∧ Q .shr (.bl (PyData.eqv a.py b.py))) := by
  unfold eqD
  by_cases h : a.pk 20 = true ∧ b.pk 20 = true
  · rw [if_pos h]; simp only [wpE_ok, h, true_and, and_self]
  · rw [if_neg h]; simp only [wpE_bad, h, false_and]
theorem wp_ne (a b : D) : wpE (neD a b) Q X = ((a.pk 20 = true ∧ b.pk 20 = true) ∧ Q .shr (.bl (!PyData.eqv a.py b.py))) := by
  unfold neD
  by_cases h : a.pk 20 = true ∧ b.pk 20 = true
  · rw [if_pos h]; simp only [wpE_ok, h, true_and, and_self]
  · rw [if_neg h]; simp only [wpE_bad, h, false_and]
theorem wp_ixT (ds : List D) (i : Int) : wpE (ixD (.tup ds) (.int i)) Q X = ∃ d, atI ds i = some d ∧ Q .shr (d) := by
  show wpE (match atI ds i with | some d => .ok .shr (d) | none => .bad) Q X = _
  cases h : atI ds i with
  | none => simp [wpE]
  | some d => simp [wpE]
theorem wp_ixL (ds : List D) (i : Int) : wpE (ixD (.lst ds) (.int i)) Q X = ∃ d, atI ds i = some d ∧ Q .shr (d) := by
  show wpE (match atI ds i with | some d => .ok .shr (d) | none => .bad) Q X = _
  cases h : atI ds i with
  | none => simp [wpE]
  | some d => simp [wpE]
theorem wp_ixN (ns : List Int) (i : Int) : wpE (ixD (.scr ns) (.int i)) Q X = ∃ d, atI ns i = some d ∧ Q .shr (.int d) := by
  show wpE (match atI ns i with | some d => .ok .shr (.int d) | none => .bad) Q X = _
  cases h : atI ns i with
  | none => simp [wpE]
  | some d => simp [wpE]
theorem wp_ixS (x : Str) (i : Int) : wpE (ixD (.str x) (.int i)) Q X = (x.length ≤ sizeLine ∧ ∃ c, atI x.cps.toList i = some c ∧ Q .shr (.str ⟨#[c]⟩)) := by
  show wpE (if x.length ≤ sizeLine then (match atI x.cps.toList i with | some c => .ok .shr (.str ⟨#[c]⟩) | none => .bad) else .bad) Q X = _
  by_cases hl : x.length ≤ sizeLine
  · rw [if_pos hl]
    simp only [hl, true_and]
    cases h : atI x.cps.toList i with
    | none => simp [wpE]
    | some d => simp [wpE]
  · rw [if_neg hl]; simp only [wpE_bad, hl, false_and]
theorem atI_0 {α : Type} (a : α) (l : List α) : atI (a :: l) 0 = some a := atI_nat (xs := a :: l) (i := 0) (by decide) (Nat.succ_pos _)
theorem atI_1 {α : Type} (a b : α) (l : List α) : atI (a :: b :: l) 1 = some b := atI_nat (xs := a :: b :: l) (i := 1) (by decide) (Nat.succ_lt_succ (Nat.succ_pos _))
theorem atI_2 {α : Type} (a b c : α) (l : List α) : atI (a :: b :: c :: l) 2 = some c := atI_nat (xs := a :: b :: c :: l) (i := 2) (by decide) (Nat.succ_lt_succ (Nat.succ_lt_succ (Nat.succ_pos _)))
theorem wp_lenL (ds : List D) : wpE (lenD (.lst ds)) Q X = Q .shr (.int ds.length) := id rfl
theorem wp_lenT (ds : List D) : wpE (lenD (.tup ds)) Q X = Q .shr (.int ds.length) := id rfl
theorem wp_lenN (ns : List Int) : wpE (lenD (.scr ns)) Q X = Q .shr (.int ns.length) := id rfl
theorem wp_lenS (x : Str) : wpE (lenD (.str x)) Q X = (x.length ≤ sizeLine ∧ Q .shr (.int x.length)) := by
  show wpE (if x.length ≤ sizeLine then _ else .bad) Q X = _
  by_cases hl : x.length ≤ sizeLine
  · rw [if_pos hl]; simp only [wpE_ok, hl, true_and]
  · rw [if_neg hl]; simp only [wpE_bad, hl, false_and]
theorem wp_tupL (ds : List D) : wpE (tupOf (.lst ds)) Q X = Q .shr (.tup ds) := id rfl
theorem wp_tupT (ds : List D) : wpE (tupOf (.tup ds)) Q X = Q .shr (.tup ds) := id rfl
theorem wp_lstL (ds : List D) : wpE (lstOf (.lst ds)) Q X = Q .fre (.lst ds) := id rfl
theorem wp_lstT (ds : List D) : wpE (lstOf (.tup ds)) Q X = Q .fre (.lst ds) := id rfl
theorem wp_intI (i : Int) : wpE (intOf (.int i)) Q X = Q .shr (.int i) := id rfl
theorem wp_intB (b : Bool) : wpE (intOf (.bl b)) Q X = Q .shr (.int (if b = true then 1 else 0)) := by cases b <;> rfl
/-- a def's end -/
def FinK (QF : Bool → D → Prop) (X : Exn → Prop) : Out → Prop
  | .nx _ => QF false .non
  | .ret c d => QF c d
  | .exc _ e => X e
  | _ => False
theorem FinK_nx {QF : Bool → D → Prop} {X : Exn → Prop} (Γ : Env) : FinK QF X (.nx Γ) = QF false .non := id rfl
theorem FinK_ret {QF : Bool → D → Prop} {X : Exn → Prop} (c : Bool) (d : D) : FinK QF X (.ret c d) = QF c d := id rfl
theorem FinK_exc {QF : Bool → D → Prop} {X : Exn → Prop} (Γ : Env) (e : Exn) : FinK QF X (.exc Γ e) = X e := id rfl
theorem wpF_denOf {n : Nat} {h : Env → Out} {ds : List D} {Γ : Env} {QF : Bool → D → Prop} (e : start0 n ds = Γ) : wpF (denOf n h ds) QF X = wpS (h Γ) (FinK QF X) := by
  subst e
  unfold denOf
  cases h (start0 n ds) <;> rfl
theorem wpF_eq {x : FR} {c : Bool} {d : D} (h : wpF x (fun c' d' => c' = c ∧ d' = d) fun _ => False) : x = .ok c d := by
  cases x with
  | ok c' d' => obtain ⟨rfl, rfl⟩ := h; rfl
  | exc e => exact h.elim
  | bad => exact h.elim
theorem wpF_ex {x : FR} {P : Bool → D → Prop} (h : wpF x P fun _ => False) : ∃ c d, x = .ok c d ∧ P c d := by
  cases x with
  | ok c' d' => exact ⟨c', d', rfl, h⟩
  | exc e => exact h.elim
  | bad => exact h.elim
end
theorem wpT_name (i : Nat) (d : D) (Γ : Env) (k : Env → Prop) : wpT (tName i d Γ) k = k (Γ.set i (.sh d)) := id rfl
theorem wpT_tup (n : Nat) (b : List D → Env → Option Env) (ds : List D) (Γ : Env) (k : Env → Prop) : wpT (tsTup n b (.tup ds) Γ) k = (ds.length = n ∧ wpT (b ds Γ) k) := by
  show wpT (if ds.length = n then b ds Γ else none) k = _
  by_cases h : ds.length = n
  · rw [if_pos h]; simp only [h, true_and]
  · rw [if_neg h]; simp only [h, false_and]; rfl
theorem wpT_cons (a : D → Env → Option Env) (b : List D → Env → Option Env) (d : D) (ds : List D) (Γ : Env) (k : Env → Prop) : wpT (tsCons a b (d :: ds) Γ) k = wpT (a d Γ) fun Γ1 => wpT (b ds Γ1) k := by
  show wpT (match a d Γ with | some Γ1 => b ds Γ1 | none => none) k = _
  cases a d Γ <;> rfl
theorem wpT_nil (Γ : Env) (k : Env → Prop) : wpT (tsNil [] Γ) k = k Γ := id rfl

/-! ### texts, comprehensions, more -/
open SX (S)
theorem wp_eqS {Q : Rt → D → Prop} {X : Exn → Prop} (x y : Str) : wpE (eqD (.str x) (.str y)) Q X = ((PyData.strOk x = true ∧ PyData.strOk y = true) ∧ Q .shr (.bl (decide (x = y)))) := by
  rw [wp_eq]
  simp only [D.pk, D.py, PyData.eqv, beq_dec]
theorem wp_neS {Q : Rt → D → Prop} {X : Exn → Prop} (x y : Str) : wpE (neD (.str x) (.str y)) Q X = ((PyData.strOk x = true ∧ PyData.strOk y = true) ∧ Q .shr (.bl (!decide (x = y)))) := by
  rw [wp_ne]
  simp only [D.pk, D.py, PyData.eqv, beq_dec]
theorem wp_eqR {Q : Rt → D → Prop} {X : Exn → Prop} (d : D) (h : d.pk 20 = true) : wpE (eqD d d) Q X = Q .shr (.bl true) := by rw [eqD_refl h]; rfl
theorem wp_neR {Q : Rt → D → Prop} {X : Exn → Prop} (d : D) (h : d.pk 20 = true) : wpE (neD d d) Q X = Q .shr (.bl false) := by rw [neD_refl h]; rfl
theorem ex_map {α β : Type} {P : α → Prop} {f : α → β} : ∀ {xs : List β}, (∀ x ∈ xs, ∃ c, P c ∧ x = f c) → ∃ cs : List α, xs = cs.map f ∧ ∀ c ∈ cs, P c
  | [], _ => ⟨[], rfl, fun _ h => by cases h⟩
  | x :: xs, h => by
    obtain ⟨c, h1, rfl⟩ := h x List.mem_cons_self
    obtain ⟨cs, rfl, h2⟩ := ex_map (xs := xs) fun y hy => h y (List.mem_cons_of_mem _ hy)
    refine ⟨c :: cs, rfl, fun d hd => ?_⟩
    rcases List.mem_cons.mp hd with e | e
    · exact e ▸ h1
    · exact h2 d e
theorem lcGo_ex {vs : List Nat} {tg : D → Env → Option Env} {fe : Env → RE} {Γ : Env} (R : Nat → D → D → Prop) : ∀ (ds : List D) (k : Nat),
    (∀ i d, ds[i]? = some d → wpT (tg d (wipeD Γ vs)) fun Γ1 => wpE (fe Γ1) (fun r x => r ≠ .bor ∧ R (k + i) d x) fun _ => False) →
    ∃ xs, lcGo vs tg (cD (.bl true)) fe Γ ds = .ok xs ∧ xs.length = ds.length ∧ ∀ i d x, ds[i]? = some d → xs[i]? = some x → R (k + i) d x
  | [], k, _ => ⟨[], rfl, rfl, fun i d x h => by simp at h⟩
  | d :: ds, k, h => by
    have q := h 0 d rfl
    cases et : tg d (wipeD Γ vs) with
    | none => rw [et] at q; exact q.elim
    | some Γ1 =>
      rw [et] at q
      have q' : wpE (fe Γ1) _ _ := q
      cases ee : fe Γ1 with
      | exc e => rw [ee] at q'; exact q'.elim
      | bad => rw [ee] at q'; exact q'.elim
      | ok r x =>
        rw [ee] at q'
        obtain ⟨q1, q2⟩ := q'
        obtain ⟨xs, h1, h2, h3⟩ := lcGo_ex R ds (k + 1) fun i d' hd => by
          have := h (i + 1) d' (by simpa using hd)
          rw [show k + (i + 1) = k + 1 + i by omega] at this
          exact this
        refine ⟨x :: xs, ?_, by simp [h2], fun i d' x' e1 e2 => ?_⟩
        · rw [lcGo_cons et]
          show (match fe Γ1 with
            | .ok r x => if r = Rt.bor then RD.bad else (match lcGo vs tg (cD (.bl true)) fe Γ ds with
              | .ok xs => .ok (x :: xs)
              | .bad => .bad)
            | _ => .bad) = _
          rw [ee]
          simp only [if_neg q1, h1]
        · cases i with
          | zero =>
            simp only [List.getElem?_cons_zero, Option.some.injEq] at e1 e2
            subst e1 e2
            exact q2
          | succ i =>
            have := h3 i d' x' (by simpa using e1) (by simpa using e2)
            rw [show k + (i + 1) = k + 1 + i by omega]
            exact this
theorem wp_lcR {Q : Rt → D → Prop} {X : Exn → Prop} {Γ : Env} {vs : List Nat} {fi : Env → RI} {tg : D → Env → Option Env} {fe : Env → RE} (R : Nat → D → D → Prop)
    (h : wpI (fi Γ) (fun _ ds => (∀ i d, ds[i]? = some d → wpT (tg d (wipeD Γ vs)) fun Γ1 => wpE (fe Γ1) (fun r x => r ≠ .bor ∧ R i d x) fun _ => False) ∧ ∀ xs, xs.length = ds.length → (∀ i d x, ds[i]? = some d → xs[i]? = some x → R i d x) → Q .fre (.lst xs)) X) : wpE (lcD vs fi tg (cD (.bl true)) fe Γ) Q X := by
  unfold lcD
  cases hi : fi Γ with
  | exc e => rw [hi] at h; exact h
  | bad => rw [hi] at h; exact h.elim
  | ok r ds =>
    rw [hi] at h
    obtain ⟨h1, h2⟩ := h
    obtain ⟨xs, e, h3, h4⟩ := lcGo_ex R ds 0 fun i d hd => by
      rw [Nat.zero_add]
      exact h1 i d hd
    simp only [e]
    exact h2 xs h3 fun i d x e1 e2 => by
      have := h4 i d x e1 e2
      rwa [Nat.zero_add] at this
theorem chr_S (c : Nat) : (⟨#[c]⟩ : Str) = S [c] := id rfl
theorem lit_nil : (("" : String) : Str) = S [] := by decide +kernel
theorem lit_l : (("l" : String) : Str) = S [108] := by decide +kernel
theorem lit_r : (("r" : String) : Str) = S [114] := by decide +kernel
theorem lit_rl : (("rl" : String) : Str) = S [114, 108] := by decide +kernel
theorem joinL_chars : ∀ cs : List Nat, TL.joinL [] (cs.map fun c => [c]) = cs
  | [] => rfl
  | [_] => rfl
  | c :: c' :: cs => by
    show [c] ++ ([] ++ TL.joinL [] ((c' :: cs).map fun c => [c])) = c :: c' :: cs
    rw [joinL_chars (c' :: cs)]
    rfl
theorem strsOf_map : ∀ cs : List Str, strsOf (cs.map D.str) = some cs
  | [] => rfl
  | c :: cs => by
    show (strsOf (cs.map D.str)).map (c :: ·) = _
    rw [strsOf_map cs]
    rfl
theorem sum_ones : ∀ cs : List Nat, (cs.map fun _ => 1).sum = cs.length
  | [] => rfl
  | c :: cs => by simp [sum_ones cs]; omega
theorem joinW_chars (cs : List Nat) (h : cs.length ≤ 1000000) : joinWith (S []) (cs.map fun c => .str (S [c])) = .ok .shr (.str (S cs)) := by
  have e : cs.map (fun c => D.str (S [c])) = ((cs.map fun c => [c]).map S).map D.str := by simp [List.map_map]
  unfold joinWith
  rw [e, strsOf_map]
  simp only []
  have e2 : (((cs.map fun c => [c]).map S).map (·.length)).sum + ((cs.map fun c => [c]).map S).length * (S []).length = cs.length := by
    rw [SX.lens, List.map_map]
    have : (cs.map ((fun x : List Nat => x.length) ∘ fun c => [c])) = cs.map fun _ => 1 := rfl
    rw [this, sum_ones]
    rfl
  rw [if_pos (by rw [e2]; omega), SX.join_S, joinL_chars]
theorem wp_joinChars {Q : Rt → D → Prop} {X : Exn → Prop} (cs : List Nat) (h : cs.length ≤ 1000000) : wpE (joinD (.str (S [])) (.lst (cs.map fun c => .str (S [c])))) Q X = Q .shr (.str (S cs)) := by
  show wpE (joinWith (S []) _) Q X = _
  rw [joinW_chars cs h]
  rfl
theorem strOk_S {cs : List Nat} (h : ∀ c ∈ cs, c < 1114112) : PyData.strOk (S cs) = true := by
  unfold PyData.strOk
  rw [Array.all_eq_true]
  intro i hi
  have := h cs[i] (List.getElem_mem (by simpa using hi))
  simpa using this
theorem pk_ints (n : Nat) : ∀ xs : List Int, pkL n (xs.map D.int) = true
  | [] => by simp only [List.map_nil, pkL]
  | x :: xs => by simp only [List.map_cons, pkL, D.pk, pk_ints n xs, Bool.and_self]
theorem pkL_of {n : Nat} : ∀ {ds : List D}, (∀ d ∈ ds, D.pk n d = true) → pkL n ds = true
  | [], _ => by simp only [pkL]
  | d :: ds, h => by simp only [pkL, h d List.mem_cons_self, pkL_of fun d hd => h d (List.mem_cons_of_mem _ hd), Bool.and_self]
theorem immL_of : ∀ {ds : List D}, (∀ d ∈ ds, d.imm = true) → immL ds = true
  | [], _ => by simp only [immL]
  | d :: ds, h => by simp only [immL, h d List.mem_cons_self, immL_of fun d hd => h d (List.mem_cons_of_mem _ hd), Bool.and_self]
theorem intsOf_map : ∀ xs : List Int, intsOf (xs.map D.int) = some xs
  | [] => rfl
  | x :: xs => by
    show (intsOf (xs.map D.int)).map (x :: ·) = _
    rw [intsOf_map xs]
    rfl
theorem blsOf_map : ∀ xs : List Bool, blsOf (xs.map D.bl) = some xs
  | [] => rfl
  | x :: xs => by
    show (blsOf (xs.map D.bl)).map (x :: ·) = _
    rw [blsOf_map xs]
    rfl
theorem map_snoc {α β : Type} (f : α → β) (xs : List α) (x : α) : xs.map f ++ [f x] = (xs ++ [x]).map f := by rw [List.map_append]; rfl
theorem small1 {n : Nat} (h : n < 1000) : n < sizeLine := Nat.lt_of_lt_of_le h (by decide)
theorem S_cps (cs : List Nat) : (S cs).cps.toList = cs := id rfl
theorem atI_of {α : Type} {xs : List α} {x : α} {i : Int} {n : Nat} (e : i = n) (h : xs[n]? = some x) : atI xs i = some x := by
  subst e
  obtain ⟨hl, rfl⟩ := List.getElem?_eq_some_iff.mp h
  exact atI_nat (by omega) (by simpa using hl)
theorem atM {α β : Type} {f : α → β} {xs : List α} {x : α} {i : Int} {n : Nat} (e : i = n) (h : xs[n]? = some x) : atI (xs.map f) i = some (f x) := atI_of e (by rw [List.getElem?_map, h]; rfl)
theorem get_lt {α : Type} {xs : List α} {n : Nat} (h : n < xs.length) : ∃ x, xs[n]? = some x := ⟨_, List.getElem?_eq_getElem h⟩
end VL
end

namespace My
open PySem PySem.Spec PyProof.Rows L2 VL
def top (i : Nat) : Stmt := PySem.Challenge.pw_barsplit_k10_rows_made.main.body.getD i (.Pass ⟨0, 0, 0, 0⟩)
abbrev s_table_of : Stmt := top 10
def d_table_of : He.DefD := ⟨("table_of", none), "table_of", "table_of", defArgs s_table_of, defBody s_table_of, defScope s_table_of, [], []⟩
abbrev s_look_at_widths : Stmt := top 14
def d_look_at_widths : He.DefD := ⟨("look_at_widths", none), "look_at_widths", "look_at_widths", defArgs s_look_at_widths, defBody s_look_at_widths, defScope s_look_at_widths, [], []⟩
abbrev s_size_at : Stmt := top 15
def d_size_at : He.DefD := ⟨("size_at", none), "size_at", "size_at", defArgs s_size_at, defBody s_size_at, defScope s_size_at, [], []⟩
abbrev s_arrow_of : Stmt := top 16
def d_arrow_of : He.DefD := ⟨("arrow_of", none), "arrow_of", "arrow_of", defArgs s_arrow_of, defBody s_arrow_of, defScope s_arrow_of, [], []⟩
abbrev s_row_of : Stmt := top 17
def d_row_of : He.DefD := ⟨("row_of", none), "row_of", "row_of", defArgs s_row_of, defBody s_row_of, defScope s_row_of, [], []⟩
abbrev s_ways_of : Stmt := top 18
def d_ways_of : He.DefD := ⟨("ways_of", none), "ways_of", "ways_of", defArgs s_ways_of, defBody s_ways_of, defScope s_ways_of, [], []⟩
abbrev s_one_kind : Stmt := top 19
def d_one_kind : He.DefD := ⟨("one_kind", none), "one_kind", "one_kind", defArgs s_one_kind, defBody s_one_kind, defScope s_one_kind, [], []⟩
abbrev s_law_mix : Stmt := top 21
def d_law_mix : He.DefD := ⟨("_law_mix", none), "_law_mix", "_law_mix", defArgs s_law_mix, defBody s_law_mix, defScope s_law_mix, [], []⟩
abbrev s_law_whole : Stmt := top 22
def d_law_whole : He.DefD := ⟨("_law_whole", none), "_law_whole", "_law_whole", defArgs s_law_whole, defBody s_law_whole, defScope s_law_whole, [], []⟩
abbrev s_law_rests : Stmt := top 23
def d_law_rests : He.DefD := ⟨("_law_rests", none), "_law_rests", "_law_rests", defArgs s_law_rests, defBody s_law_rests, defScope s_law_rests, [], []⟩
abbrev s_law_is_table : Stmt := top 24
def d_law_is_table : He.DefD := ⟨("_law_is_table", none), "_law_is_table", "_law_is_table", defArgs s_law_is_table, defBody s_law_is_table, defScope s_law_is_table, [], []⟩
abbrev s_law_table : Stmt := top 25
def d_law_table : He.DefD := ⟨("_law_table", none), "_law_table", "_law_table", defArgs s_law_table, defBody s_law_table, defScope s_law_table, [], []⟩
abbrev s_law_ways : Stmt := top 26
def d_law_ways : He.DefD := ⟨("_law_ways", none), "_law_ways", "_law_ways", defArgs s_law_ways, defBody s_law_ways, defScope s_law_ways, [], []⟩
abbrev s_law_row : Stmt := top 27
def d_law_row : He.DefD := ⟨("_law_row", none), "_law_row", "_law_row", defArgs s_law_row, defBody s_law_row, defScope s_law_row, [], []⟩
abbrev s_law_is_row : Stmt := top 28
def d_law_is_row : He.DefD := ⟨("_law_is_row", none), "_law_is_row", "_law_is_row", defArgs s_law_is_row, defBody s_law_is_row, defScope s_law_is_row, [], []⟩
abbrev s_law_handed : Stmt := top 29
def d_law_handed : He.DefD := ⟨("_law_handed", none), "_law_handed", "_law_handed", defArgs s_law_handed, defBody s_law_handed, defScope s_law_handed, [], []⟩
abbrev s_law_truth : Stmt := top 30
def d_law_truth : He.DefD := ⟨("_law_truth", none), "_law_truth", "_law_truth", defArgs s_law_truth, defBody s_law_truth, defScope s_law_truth, [], []⟩
abbrev s_law : Stmt := top 31
def d_law : He.DefD := ⟨("law", none), "law", "law", defArgs s_law, defBody s_law, defScope s_law, [], []⟩
def fn : List He.DefD := [d_table_of, d_look_at_widths, d_size_at, d_arrow_of, d_row_of, d_ways_of, d_one_kind, d_law_mix, d_law_whole, d_law_rests, d_law_is_table, d_law_table, d_law_ways, d_law_row, d_law_is_row, d_law_handed, d_law_truth, d_law]
def fa : List He.Fa := [.glo "table_of", .glo "look_at_widths", .glo "size_at", .glo "arrow_of", .glo "row_of", .glo "ways_of", .glo "one_kind", .glo "_law_mix", .glo "_law_whole", .glo "_law_rests", .glo "_law_is_table", .glo "_law_table", .glo "_law_ways", .glo "_law_row", .glo "_law_is_row", .glo "_law_handed", .glo "_law_truth", .glo "law", .glo "SplitError", .glo "NoPrime", .glo "NoTable", .glo "NoWidths", .glo "NoRow", .glo "NoArrow", .free "all", .free "any", .free "bool", .free "enumerate", .free "int", .free "isinstance", .free "len", .free "list", .free "max", .free "min", .free "range", .free "reversed", .free "sorted", .free "str", .free "sum", .free "tuple", .free "zip", .glo "PRIMES", .int "MOST" 30, .int "MOST_ROOMS" 6, .int "MOST_WIDTH" 30]
def tb_PRIMES : List He.Dv := [.int 2, .int 3, .int 5, .int 7]
def exB (K : PySem.W.Frag) : Bool := true && He.tupB K "PRIMES" tb_PRIMES
theorem ex_PRIMES {K : PySem.W.Frag} {mg : Str → Option Value} (C : Cfx fa fn exB K mg) : He.tupB K "PRIMES" tb_PRIMES = true := by
  have h := C.x
  simp only [exB, Bool.and_eq_true] at h
  simp only [h]
def loose0 : List PySem.Str := ["SplitError", "NoPrime", "NoTable", "NoWidths", "NoRow", "NoArrow", "PRIMES", "MOST", "table_of", "MOST_ROOMS", "MOST_WIDTH", "look_at_widths", "size_at", "arrow_of", "row_of", "ways_of", "one_kind", "_law_mix", "_law_whole", "_law_rests", "_law_is_table", "_law_table", "_law_ways", "_law_row", "_law_is_row", "_law_handed", "_law_truth"]
abbrev loose : List PySem.Str := loose0
abbrev R : PySem.W.OpenRow := PySem.W.OpenLaw.row PySem.Challenge.rw_barsplit_k10_rows_made
abbrev hk : PySem.W.Hook := hookV 4 fa fn exB
def ob (s : PySem.W.SharedT) : AlV := obsVG 4 fa fn exB (HandSHeadRun.getT s)
theorem ob_eq (s : PySem.W.SharedT) : ob s = hk.obs s.abs := obsVG_eq (HandSHeadRun.getT_eq s)
theorem run (w : World) : HandSHeadRun.RunEq R (PySem.W.view R.prog [31]) hk ob 40000 loose w := by
  intro os
  kernel_rfl
end My
noncomputable section
namespace My
open PySem PySem.Spec PyProof.Rows L2 VL
def bd_law_ways : VL.Env → Out := (seqD (asgD 1 (op2D modD (varD 0) (cD (.int 6))))
      (retD (m1D joinD (cD (.str "")) (lcD [2] (rng1D (consD (varD 1) nilD)) (tName 2) (cD (.bl true)) (op2D ixD (cD (.str "rl")) (op2D modD (op2D fdivD (varD 0) (op2D ixD (lstD (consD (cD (.int 6)) (consD (cD (.int 12)) (consD (cD (.int 24)) (consD (cD (.int 48)) (consD (cD (.int 96)) nilD)))))) (varD 2))) (cD (.int 2))))))))
def den_law_ways (ds : List D) : FR := denOf 3 bd_law_ways ds
theorem sc_law_ways : FnScope ["_law_cell", "_law_many", "_law_k"] ["_law_cell"] (defScope s_law_ways) := ⟨rfl, rfl, rfl, by decide +kernel, rfl, by decide +kernel, by decide +kernel⟩
theorem has_law_ways {P : Program} {w : World} {K : PySem.W.Frag} {mg : Str → Option Value} {base : Heap} (C : Cfx fa fn exB K mg)  : HasF P w K mg base 1 "_law_ways" ["_law_cell"] den_law_ways := by
  obtain ⟨fd, F⟩ := C.fn_ 12 (d := d_law_ways) rfl
  have nd := (sc_law_ways).nd
  exact has_of (C.gl 12) F sc_law_ways (fun _ _ _ _ _ _ us hl => match us, hl with | [_], _ => rfl) (fun _ => rfl) fun cdv A outer s H E hr =>
    ⟨_, (pss_cons (ps_set (i := 1) nd rfl (Or.inl rfl) (pe_op op_mod (pv 0) pe_int))
      (pss_one (ps_ret (pe_join pe_str (pe_lc (own := [("_law_k", 2)]) rfl nd (pi_range1 (by rfl) (C.fr 34) (pa_cons (pv 1) pa_nil)) (blkOk_by (by kernel_rfl)) (fun _ _ _ _ _ => (pg_name (i := 2) nd rfl (Or.inl rfl))) (fun _ _ _ _ _ => pts_nil) (fun _ _ _ _ _ => (pe_ix ix_seq pe_str (pe_op op_mod (pe_op op_fdiv (pv 0) (pe_ix ix_seq (pe_lst (pa_cons pe_int (pa_cons pe_int (pa_cons pe_int (pa_cons pe_int (pa_cons pe_int pa_nil)))))) (pv 2) (fun _ _ => by rfl))) pe_int) (fun _ _ => by rfl)))))))),
    (ss_seq (ss_asg (se_op os_mod se_var se_int))
      (ss_ret (se_m1 ms_join se_str (se_lc (si_rng1 (sa_cons se_var sa_nil)) sg_name (fun _ h => h) st_yes (se_op os_ix se_str (se_op os_mod (se_op os_fdiv se_var (se_op os_ix (se_lst (sa_cons se_int (sa_cons se_int (sa_cons se_int (sa_cons se_int (sa_cons se_int sa_nil)))))) se_var)) se_int))))))⟩
def bd_law_mix : VL.Env → Out := (seqD (ifS (op2D eqD (callBD (call1 lenD) (consD (varD 0) nilD)) (cD (.int 0))) (retD (op2D modD (op2D mulD (op2D modD (op2D mulD (op2D addD (op2D mulD (op2D mulD (varD 1) (varD 1)) (cD (.int 7919))) (cD (.int 11))) (cD (.int 48271))) (cD (.int 2147483647))) (cD (.int 69621))) (cD (.int 1000000007)))) nextD)
      (seqD (asgD 2 (op2D ixD (varD 0) (op2D modD (varD 1) (callBD (call1 lenD) (consD (varD 0) nilD)))))
      (seqD (ifS (andD (op2D gtD (callBD (call1 lenD) (consD (varD 0) nilD)) (cD (.int 1))) (op2D eqD (op2D modD (op2D ixD (varD 0) (cD (.int 0))) (cD (.int 2))) (cD (.int 1)))) (seqD (asgD 3 (op2D ixD (varD 0) (op2D addD (cD (.int 1)) (op2D modD (varD 1) (op2D subD (callBD (call1 lenD) (consD (varD 0) nilD)) (cD (.int 1)))))))
      (seqD (forD (rng1D (consD (op2D fdivD (varD 1) (op2D subD (callBD (call1 lenD) (consD (varD 0) nilD)) (cD (.int 1)))) nilD)) (tName 4) (asgD 3 (op2D fdivD (varD 3) (op2D powD (cD (.int 10)) (cD (.int 9))))))
      (retD (op2D modD (varD 3) (op2D powD (cD (.int 10)) (cD (.int 9))))))) nextD)
      (retD (op2D modD (op2D mulD (op2D modD (op2D addD (op2D addD (op2D mulD (op2D modD (varD 2) (op2D powD (cD (.int 10)) (cD (.int 30)))) (cD (.int 48271))) (op2D mulD (op2D mulD (varD 1) (varD 1)) (cD (.int 7919)))) (cD (.int 11))) (cD (.int 2147483647))) (cD (.int 69621))) (cD (.int 1000000007)))))))
def den_law_mix (ds : List D) : FR := denOf 5 bd_law_mix ds
theorem sc_law_mix : FnScope ["_law_script", "_law_k", "_law_cell", "_law_digits", "_law_turn"] ["_law_script", "_law_k"] (defScope s_law_mix) := ⟨rfl, rfl, rfl, by decide +kernel, rfl, by decide +kernel, by decide +kernel⟩
theorem has_law_mix {P : Program} {w : World} {K : PySem.W.Frag} {mg : Str → Option Value} {base : Heap} (C : Cfx fa fn exB K mg)  : HasF P w K mg base 1 "_law_mix" ["_law_script", "_law_k"] den_law_mix := by
  obtain ⟨fd, F⟩ := C.fn_ 7 (d := d_law_mix) rfl
  have nd := (sc_law_mix).nd
  exact has_of (C.gl 7) F sc_law_mix (fun _ _ _ _ _ _ us hl => match us, hl with | [_, _], _ => rfl) (fun _ => rfl) fun cdv A outer s H E hr =>
    ⟨_, (pss_cons (ps_if (pt_cmpR (op_eqD hr.units) (pe_callB call_len (by rfl) (C.fr 30) bt_len (pa_cons (pv 0) pa_nil)) pe_int (nomark _)) (pss_one (ps_ret (pe_op op_mod (pe_op op_mul (pe_op op_mod (pe_op op_mul (pe_op op_addX (pe_op op_mul (pe_op op_mul (pv 1) (pv 1)) pe_int) pe_int) pe_int) pe_int) pe_int) pe_int))) pss_nil)
      (pss_cons (ps_set (i := 2) nd rfl (Or.inl rfl) (pe_ix ix_seq (pv 0) (pe_op op_mod (pv 1) (pe_callB call_len (by rfl) (C.fr 30) bt_len (pa_cons (pv 0) pa_nil))) (fun _ _ => by rfl)))
      (pss_cons (ps_if (PW.pt (pw_and (pt_cmpR (OpR.c op_gt) (pe_callB call_len (by rfl) (C.fr 30) bt_len (pa_cons (pv 0) pa_nil)) pe_int (nomark _)) (pw_and1 (pt_cmpR (op_eqD hr.units) (pe_op op_mod (pe_ix ix_seq (pv 0) pe_int (fun _ _ => by rfl)) pe_int) pe_int (nomark _))))) (pss_cons (ps_set (i := 3) nd rfl (Or.inl rfl) (pe_ix ix_seq (pv 0) (pe_op op_addX pe_int (pe_op op_mod (pv 1) (pe_op (OpR.c op_sub) (pe_callB call_len (by rfl) (C.fr 30) bt_len (pa_cons (pv 0) pa_nil)) pe_int))) (fun _ _ => by rfl)))
      (pss_cons (ps_for (passes_of rfl) rfl (pi_range1 (by rfl) (C.fr 34) (pa_cons (pe_op op_fdiv (pv 1) (pe_op (OpR.c op_sub) (pe_callB call_len (by rfl) (C.fr 30) bt_len (pa_cons (pv 0) pa_nil)) pe_int)) pa_nil)) (pg_name (i := 4) nd rfl (Or.inl rfl)) (pss_one (ps_set (i := 3) nd rfl (Or.inl rfl) (pe_op op_fdiv (pv 3) (pe_op op_pow pe_int pe_int)))))
      (pss_one (ps_ret (pe_op op_mod (pv 3) (pe_op op_pow pe_int pe_int)))))) pss_nil)
      (pss_one (ps_ret (pe_op op_mod (pe_op op_mul (pe_op op_mod (pe_op op_addX (pe_op op_addX (pe_op op_mul (pe_op op_mod (pv 2) (pe_op op_pow pe_int pe_int)) pe_int) (pe_op op_mul (pe_op op_mul (pv 1) (pv 1)) pe_int)) pe_int) pe_int) pe_int) pe_int)))))),
    (ss_seq (ss_if (st_test (se_op os_eq (se_cb cs_len (sa_cons se_var sa_nil)) se_int)) (ss_ret (se_op os_mod (se_op os_mul (se_op os_mod (se_op os_mul (se_op os_add (se_op os_mul (se_op os_mul se_var se_var) se_int) se_int) se_int) se_int) se_int) se_int)) ss_next)
      (ss_seq (ss_asg (se_op os_ix se_var (se_op os_mod se_var (se_cb cs_len (sa_cons se_var sa_nil)))))
      (ss_seq (ss_if (st_and (st_test (se_op os_gt (se_cb cs_len (sa_cons se_var sa_nil)) se_int)) (st_test (se_op os_eq (se_op os_mod (se_op os_ix se_var se_int) se_int) se_int))) (ss_seq (ss_asg (se_op os_ix se_var (se_op os_add se_int (se_op os_mod se_var (se_op os_sub (se_cb cs_len (sa_cons se_var sa_nil)) se_int)))))
      (ss_seq (ss_for (si_rng1 (sa_cons (se_op os_fdiv se_var (se_op os_sub (se_cb cs_len (sa_cons se_var sa_nil)) se_int)) sa_nil)) sg_name (ss_asg (se_op os_fdiv se_var (se_op os_pow se_int se_int))))
      (ss_ret (se_op os_mod se_var (se_op os_pow se_int se_int))))) ss_next)
      (ss_ret (se_op os_mod (se_op os_mul (se_op os_mod (se_op os_add (se_op os_add (se_op os_mul (se_op os_mod se_var (se_op os_pow se_int se_int)) se_int) (se_op os_mul (se_op os_mul se_var se_var) se_int)) se_int) se_int) se_int) se_int)))))⟩
def bd_law_table : VL.Env → Out := (seqD (asgOD 5 (lstD nilD))
      (seqD (forD (rng1D (consD (varD 3) nilD)) (tName 6) (seqD (asgOD 7 (lstD nilD))
      (seqD (forD (rng1D (consD (varD 4) nilD)) (tName 8) (seqD (asgD 9 (callD 2 den_law_mix (consD (varD 0) (consD (op2D addD (op2D addD (varD 1) (op2D mulD (varD 6) (varD 4))) (varD 8)) nilD))))
      (appD 7 (op2D mulD (op2D modD (varD 9) (varD 2)) (callBD (call1 intOf) (consD (op2D gtD (op2D modD (op2D fdivD (varD 9) (cD (.int 7))) (cD (.int 3))) (cD (.int 0))) nilD))))))
      (appD 5 (callBD (call1 tupOf) (consD (varD 7) nilD))))))
      (retD (tupD (consD (varD 3) (consD (varD 4) (consD (callBD (call1 tupOf) (consD (varD 5) nilD)) nilD)))))))
def den_law_table (ds : List D) : FR := denOf 10 bd_law_table ds
theorem sc_law_table : FnScope ["_law_script", "_law_at", "_law_p", "_law_high", "_law_wide", "_law_rows", "_law_i", "_law_row_here", "_law_j", "_law_cell"] ["_law_script", "_law_at", "_law_p", "_law_high", "_law_wide"] (defScope s_law_table) := ⟨rfl, rfl, rfl, by decide +kernel, rfl, by decide +kernel, by decide +kernel⟩
theorem has_law_table {P : Program} {w : World} {K : PySem.W.Frag} {mg : Str → Option Value} {base : Heap} (C : Cfx fa fn exB K mg) (F_law_mix : HasF P w K mg base 1 "_law_mix" ["_law_script", "_law_k"] den_law_mix) : HasF P w K mg base 2 "_law_table" ["_law_script", "_law_at", "_law_p", "_law_high", "_law_wide"] den_law_table := by
  obtain ⟨fd, F⟩ := C.fn_ 11 (d := d_law_table) rfl
  have nd := (sc_law_table).nd
  exact has_of (C.gl 11) F sc_law_table (fun _ _ _ _ _ _ us hl => match us, hl with | [_, _, _, _, _], _ => rfl) (fun _ => rfl) fun cdv A outer s H E hr =>
    ⟨_, (pss_cons (ps_set (i := 5) nd rfl (Or.inl rfl) (pe_lst pa_nil))
      (pss_cons (ps_for (passes_of rfl) rfl (pi_range1 (by rfl) (C.fr 34) (pa_cons (pv 3) pa_nil)) (pg_name (i := 6) nd rfl (Or.inl rfl)) (pss_cons (ps_set (i := 7) nd rfl (Or.inl rfl) (pe_lst pa_nil))
      (pss_cons (ps_for (passes_of rfl) rfl (pi_range1 (by rfl) (C.fr 34) (pa_cons (pv 4) pa_nil)) (pg_name (i := 8) nd rfl (Or.inl rfl)) (pss_cons (ps_set (i := 9) nd rfl (Or.inl rfl) (pe_has F_law_mix (hr.mono (by decide)) (by rfl) (tkN rfl rfl rfl rfl) (pa_cons (pv 0) (pa_cons (pe_op op_addX (pe_op op_addX (pv 1) (pe_op op_mul (pv 6) (pv 4))) (pv 8)) pa_nil))))
      (pss_one (ps_expr (pe_bm PySem.F.plainAttrs_list PySem.F.slot_list_append PySem.F.type_list_append mt_append (pv 7) (pa_cons (pe_op op_mul (pe_op op_mod (pv 9) (pv 2)) (pe_callTy call_int1 (by rfl) (C.fr 28) bt_int (pa_cons (pe_cmpR (OpR.c op_gt) (pe_op op_mod (pe_op op_fdiv (pv 9) pe_int) pe_int) pe_int (nomark _)) pa_nil))) pa_nil))))))
      (pss_one (ps_expr (pe_bm PySem.F.plainAttrs_list PySem.F.slot_list_append PySem.F.type_list_append mt_append (pv 5) (pa_cons (pe_callTy call_tuple_of (by rfl) (C.fr 39) bt_tuple (pa_cons (pv 7) pa_nil)) pa_nil)))))))
      (pss_one (ps_ret (pe_tup (pa_cons (pv 3) (pa_cons (pv 4) (pa_cons (pe_callTy call_tuple_of (by rfl) (C.fr 39) bt_tuple (pa_cons (pv 5) pa_nil)) pa_nil)))))))),
    (ss_seq (ss_asgO (se_lst sa_nil))
      (ss_seq (ss_for (si_rng1 (sa_cons se_var sa_nil)) sg_name (ss_seq (ss_asgO (se_lst sa_nil))
      (ss_seq (ss_for (si_rng1 (sa_cons se_var sa_nil)) sg_name (ss_seq (ss_asg (se_has (sa_cons se_var (sa_cons (se_op os_add (se_op os_add se_var (se_op os_mul se_var se_var)) se_var) sa_nil))))
      (ss_app (se_op os_mul (se_op os_mod se_var se_var) (se_cb cs_int (sa_cons (se_op os_gt (se_op os_mod (se_op os_fdiv se_var se_int) se_int) se_int) sa_nil))))))
      (ss_app (se_cb cs_tuple (sa_cons se_var sa_nil))))))
      (ss_ret (se_tup (sa_cons se_var (sa_cons se_var (sa_cons (se_cb cs_tuple (sa_cons se_var sa_nil)) sa_nil)))))))⟩
def bd_law_row : VL.Env → Out := (seqD (asgD 5 (callBD (call1 tupOf) (consD (lcD [7] (rng1D (consD (op2D addD (callBD (call1 lenD) (consD (varD 3) nilD)) (cD (.int 1))) nilD)) (tName 7) (cD (.bl true)) (op2D modD (callD 2 den_law_mix (consD (varD 0) (consD (op2D addD (varD 1) (varD 7)) nilD))) (varD 4))) nilD)))
      (seqD (asgOD 6 (lstD nilD))
      (seqD (forD (rng1D (consD (callBD (call1 lenD) (consD (varD 3) nilD)) nilD)) (tName 7) (seqD (asgD 8 (tupD (consD (op2D ixD (varD 5) (op2D addD (varD 7) (cD (.int 1)))) (consD (op2D ixD (varD 5) (varD 7)) nilD))))
      (seqD (ifS (op2D eqD (op2D ixD (varD 3) (varD 7)) (cD (.str "l"))) (asgD 8 (tupD (consD (op2D ixD (varD 5) (varD 7)) (consD (op2D ixD (varD 5) (op2D addD (varD 7) (cD (.int 1)))) nilD)))) nextD)
      (appD 6 (tupD (consD (op2D ixD (varD 3) (varD 7)) (consD (callD 5 den_law_table (consD (varD 0) (consD (op2D addD (op2D addD (varD 1) (cD (.int 10))) (op2D mulD (cD (.int 17)) (varD 7))) (consD (varD 2) (consD (op2D ixD (varD 8) (cD (.int 0))) (consD (op2D ixD (varD 8) (cD (.int 1))) nilD)))))) nilD)))))))
      (retD (tupD (consD (varD 2) (consD (varD 5) (consD (callBD (call1 tupOf) (consD (varD 6) nilD)) nilD))))))))
def den_law_row (ds : List D) : FR := denOf 9 bd_law_row ds
theorem sc_law_row : FnScope ["_law_script", "_law_at", "_law_p", "_law_ways_here", "_law_most", "_law_widths", "_law_arrows", "_law_k", "_law_sizes"] ["_law_script", "_law_at", "_law_p", "_law_ways_here", "_law_most"] (defScope s_law_row) := ⟨rfl, rfl, rfl, by decide +kernel, rfl, by decide +kernel, by decide +kernel⟩
theorem has_law_row {P : Program} {w : World} {K : PySem.W.Frag} {mg : Str → Option Value} {base : Heap} (C : Cfx fa fn exB K mg) (F_law_mix : HasF P w K mg base 1 "_law_mix" ["_law_script", "_law_k"] den_law_mix) (F_law_table : HasF P w K mg base 2 "_law_table" ["_law_script", "_law_at", "_law_p", "_law_high", "_law_wide"] den_law_table) : HasF P w K mg base 3 "_law_row" ["_law_script", "_law_at", "_law_p", "_law_ways_here", "_law_most"] den_law_row := by
  obtain ⟨fd, F⟩ := C.fn_ 13 (d := d_law_row) rfl
  have nd := (sc_law_row).nd
  exact has_of (C.gl 13) F sc_law_row (fun _ _ _ _ _ _ us hl => match us, hl with | [_, _, _, _, _], _ => rfl) (fun _ => rfl) fun cdv A outer s H E hr =>
    ⟨_, (pss_cons (ps_set (i := 5) nd rfl (Or.inl rfl) (pe_callTy call_tuple_of (by rfl) (C.fr 39) bt_tuple (pa_cons (pe_lc (own := [("_law_k", 7)]) rfl nd (pi_range1 (by rfl) (C.fr 34) (pa_cons (pe_op op_addX (pe_callB call_len (by rfl) (C.fr 30) bt_len (pa_cons (pv 3) pa_nil)) pe_int) pa_nil)) (blkOk_by (by kernel_rfl)) (fun _ _ _ _ _ => (pg_name (i := 7) nd rfl (Or.inl rfl))) (fun _ _ _ _ _ => pts_nil) (fun _ _ _ _ _ => (pe_op op_mod (pe_has F_law_mix (hr.mono (by decide)) (by rfl) tkF (pa_cons (pv 0) (pa_cons (pe_op op_addX (pv 1) (pv 7)) pa_nil))) (pv 4)))) pa_nil)))
      (pss_cons (ps_set (i := 6) nd rfl (Or.inl rfl) (pe_lst pa_nil))
      (pss_cons (ps_for (passes_of rfl) rfl (pi_range1 (by rfl) (C.fr 34) (pa_cons (pe_callB call_len (by rfl) (C.fr 30) bt_len (pa_cons (pv 3) pa_nil)) pa_nil)) (pg_name (i := 7) nd rfl (Or.inl rfl)) (pss_cons (ps_set (i := 8) nd rfl (Or.inl rfl) (pe_tup (pa_cons (pe_ix ix_seq (pv 5) (pe_op op_addX (pv 7) pe_int) (fun _ _ => by rfl)) (pa_cons (pe_ix ix_seq (pv 5) (pv 7) (fun _ _ => by rfl)) pa_nil))))
      (pss_cons (ps_if (pt_cmpR (op_eqD hr.units) (pe_ix ix_seq (pv 3) (pv 7) (fun _ _ => by rfl)) pe_str (nomark _)) (pss_one (ps_set (i := 8) nd rfl (Or.inl rfl) (pe_tup (pa_cons (pe_ix ix_seq (pv 5) (pv 7) (fun _ _ => by rfl)) (pa_cons (pe_ix ix_seq (pv 5) (pe_op op_addX (pv 7) pe_int) (fun _ _ => by rfl)) pa_nil))))) pss_nil)
      (pss_one (ps_expr (pe_bm PySem.F.plainAttrs_list PySem.F.slot_list_append PySem.F.type_list_append mt_append (pv 6) (pa_cons (pe_tup (pa_cons (pe_ix ix_seq (pv 3) (pv 7) (fun _ _ => by rfl)) (pa_cons (pe_has F_law_table (hr.mono (by decide)) (by rfl) (tkN rfl rfl rfl rfl) (pa_cons (pv 0) (pa_cons (pe_op op_addX (pe_op op_addX (pv 1) pe_int) (pe_op op_mul pe_int (pv 7))) (pa_cons (pv 2) (pa_cons (pe_ix ix_seq (pv 8) pe_int (fun _ _ => by rfl)) (pa_cons (pe_ix ix_seq (pv 8) pe_int (fun _ _ => by rfl)) pa_nil)))))) pa_nil))) pa_nil)))))))
      (pss_one (ps_ret (pe_tup (pa_cons (pv 2) (pa_cons (pv 5) (pa_cons (pe_callTy call_tuple_of (by rfl) (C.fr 39) bt_tuple (pa_cons (pv 6) pa_nil)) pa_nil))))))))),
    (ss_seq (ss_asg (se_cb cs_tuple (sa_cons (se_lc (si_rng1 (sa_cons (se_op os_add (se_cb cs_len (sa_cons se_var sa_nil)) se_int) sa_nil)) sg_name (fun _ h => h) st_yes (se_op os_mod (se_has (sa_cons se_var (sa_cons (se_op os_add se_var se_var) sa_nil))) se_var)) sa_nil)))
      (ss_seq (ss_asgO (se_lst sa_nil))
      (ss_seq (ss_for (si_rng1 (sa_cons (se_cb cs_len (sa_cons se_var sa_nil)) sa_nil)) sg_name (ss_seq (ss_asg (se_tup (sa_cons (se_op os_ix se_var (se_op os_add se_var se_int)) (sa_cons (se_op os_ix se_var se_var) sa_nil))))
      (ss_seq (ss_if (st_test (se_op os_eq (se_op os_ix se_var se_var) se_str)) (ss_asg (se_tup (sa_cons (se_op os_ix se_var se_var) (sa_cons (se_op os_ix se_var (se_op os_add se_var se_int)) sa_nil)))) ss_next)
      (ss_app (se_tup (sa_cons (se_op os_ix se_var se_var) (sa_cons (se_has (sa_cons se_var (sa_cons (se_op os_add (se_op os_add se_var se_int) (se_op os_mul se_int se_var)) (sa_cons se_var (sa_cons (se_op os_ix se_var se_int) (sa_cons (se_op os_ix se_var se_int) sa_nil)))))) sa_nil)))))))
      (ss_ret (se_tup (sa_cons se_var (sa_cons se_var (sa_cons (se_cb cs_tuple (sa_cons se_var sa_nil)) sa_nil))))))))⟩
def bd_law_handed : VL.Env → Out := (seqD (asgOD 2 (lstD nilD))
      (seqD (forD (rng1D (consD (callBD (call1 lenD) (consD (op2D ixD (varD 1) (cD (.int 2))) nilD)) nilD)) (tName 3) (seqD (asgT (tsTup 2 (tsCons (tName 4) (tsCons (tName 5) tsNil))) (op2D ixD (op2D ixD (varD 1) (cD (.int 2))) (varD 3)))
      (seqD (asgD 6 (op2D subD (op2D modD (callD 2 den_law_mix (consD (varD 0) (consD (op2D addD (cD (.int 120)) (varD 3)) nilD))) (cD (.int 2001))) (cD (.int 1000))))
      (appD 2 (tupD (consD (varD 4) (consD (lcD [7] (iterD (op2D ixD (varD 5) (cD (.int 2)))) (tName 7) (cD (.bl true)) (lcD [8] (iterD (varD 7)) (tName 8) (cD (.bl true)) (op2D addD (varD 8) (op2D mulD (op2D ixD (varD 1) (cD (.int 0))) (varD 6))))) nilD)))))))
      (retD (varD 2))))
def den_law_handed (ds : List D) : FR := denOf 9 bd_law_handed ds
theorem sc_law_handed : FnScope ["_law_script", "_law_row_here", "_law_pairs", "_law_k", "_law_way", "_law_table_here", "_law_off", "_law_figs", "_law_number"] ["_law_script", "_law_row_here"] (defScope s_law_handed) := ⟨rfl, rfl, rfl, by decide +kernel, rfl, by decide +kernel, by decide +kernel⟩
theorem has_law_handed {P : Program} {w : World} {K : PySem.W.Frag} {mg : Str → Option Value} {base : Heap} (C : Cfx fa fn exB K mg) (F_law_mix : HasF P w K mg base 1 "_law_mix" ["_law_script", "_law_k"] den_law_mix) : HasF P w K mg base 2 "_law_handed" ["_law_script", "_law_row_here"] den_law_handed := by
  obtain ⟨fd, F⟩ := C.fn_ 15 (d := d_law_handed) rfl
  have nd := (sc_law_handed).nd
  exact has_of (C.gl 15) F sc_law_handed (fun _ _ _ _ _ _ us hl => match us, hl with | [_, _], _ => rfl) (fun _ => rfl) fun cdv A outer s H E hr =>
    ⟨_, (pss_cons (ps_set (i := 2) nd rfl (Or.inl rfl) (pe_lst pa_nil))
      (pss_cons (ps_for (passes_of rfl) rfl (pi_range1 (by rfl) (C.fr 34) (pa_cons (pe_callB call_len (by rfl) (C.fr 30) bt_len (pa_cons (pe_ix ix_seq (pv 1) pe_int (fun _ _ => by rfl)) pa_nil)) pa_nil)) (pg_name (i := 3) nd rfl (Or.inl rfl)) (pss_cons (ps_asg (pe_ix ix_seq (pe_ix ix_seq (pv 1) pe_int (fun _ _ => by rfl)) (pv 3) (fun _ _ => by rfl)) (pg_tup rfl (pgs_cons (pg_name (i := 4) nd rfl (Or.inl rfl)) (pgs_cons (pg_name (i := 5) nd rfl (Or.inl rfl)) pgs_nil))))
      (pss_cons (ps_set (i := 6) nd rfl (Or.inr rfl) (pe_op (OpR.c op_sub) (pe_op op_mod (pe_has F_law_mix (hr.mono (by decide)) (by rfl) (tkN rfl rfl rfl rfl) (pa_cons (pv 0) (pa_cons (pe_op op_addX pe_int (pv 3)) pa_nil))) pe_int) pe_int))
      (pss_one (ps_expr (pe_bm PySem.F.plainAttrs_list PySem.F.slot_list_append PySem.F.type_list_append mt_append (pv 2) (pa_cons (pe_tup (pa_cons (pv 4) (pa_cons (pe_lc (own := [("_law_figs", 7)]) rfl nd (pi_any (pe_ix ix_seq (pv 5) pe_int (fun _ _ => by rfl))) (blkOk_by (by kernel_rfl)) (fun _ _ _ _ _ => (pg_name (i := 7) nd rfl (Or.inl rfl))) (fun _ _ _ _ _ => pts_nil) (fun _ _ _ _ _ => (pe_lc (own := [("_law_number", 8)]) rfl nd (pi_any (pv 7)) (blkOk_by (by kernel_rfl)) (fun _ _ _ _ _ => (pg_name (i := 8) nd rfl (Or.inl rfl))) (fun _ _ _ _ _ => pts_nil) (fun _ _ _ _ _ => (pe_op op_addX (pv 8) (pe_op op_mul (pe_ix ix_seq (pv 1) pe_int (fun _ _ => by rfl)) (pv 6))))))) pa_nil))) pa_nil)))))))
      (pss_one (ps_ret (pv 2))))),
    (ss_seq (ss_asgO (se_lst sa_nil))
      (ss_seq (ss_for (si_rng1 (sa_cons (se_cb cs_len (sa_cons (se_op os_ix se_var se_int) sa_nil)) sa_nil)) sg_name (ss_seq (ss_asgT (sg_tup (sgs_cons sg_name (sgs_cons sg_name sgs_nil))) (se_op os_ix (se_op os_ix se_var se_int) se_var))
      (ss_seq (ss_asg (se_op os_sub (se_op os_mod (se_has (sa_cons se_var (sa_cons (se_op os_add se_int se_var) sa_nil))) se_int) se_int))
      (ss_app (se_tup (sa_cons se_var (sa_cons (se_lc (si_any (se_op os_ix se_var se_int)) sg_name (fun _ h => h) st_yes (se_lc (si_any se_var) sg_name (fun _ h => h) st_yes (se_op os_add se_var (se_op os_mul (se_op os_ix se_var se_int) se_var)))) sa_nil)))))))
      (ss_ret se_var)))⟩
def bd_look_at_widths : VL.Env → Out := (seqD (ifS (orD (notD (chainD leD leD (cD (.int 1)) (callBD (call1 lenD) (consD (varD 0) nilD)) (cD (.int 6)))) (op2D gtD (callBD (call1 sumD) (consD (varD 0) nilD)) (cD (.int 30)))) neverD nextD)
      (forD (iterD (varD 0)) (tName 1) (ifS (op2D ltD (varD 1) (cD (.int 0))) neverD nextD)))
def den_look_at_widths (ds : List D) : FR := denOf 2 bd_look_at_widths ds
theorem sc_look_at_widths : FnScope ["widths", "width"] ["widths"] (defScope s_look_at_widths) := ⟨rfl, rfl, rfl, by decide +kernel, rfl, by decide +kernel, by decide +kernel⟩
theorem has_look_at_widths {P : Program} {w : World} {K : PySem.W.Frag} {mg : Str → Option Value} {base : Heap} (C : Cfx fa fn exB K mg)  : HasF P w K mg base 1 "look_at_widths" ["widths"] den_look_at_widths := by
  obtain ⟨fd, F⟩ := C.fn_ 1 (d := d_look_at_widths) rfl
  have nd := (sc_look_at_widths).nd
  exact has_of (C.gl 1) F sc_look_at_widths (fun _ _ _ _ _ _ us hl => match us, hl with | [_], _ => rfl) (fun _ => rfl) fun cdv A outer s H E hr =>
    ⟨_, (pss_cons (ps_if (PW.pt (pw_or (pt_not (pt_chain (OpR.c op_le) (OpR.c op_le) pe_int (pe_callB call_len (by rfl) (C.fr 30) bt_len (pa_cons (pv 0) pa_nil)) (pe_gint (i := 6) (by rfl) (C.gi 43)))) (pw_or1 (pt_cmpR (OpR.c op_gt) (pe_callB (cr_sum rfl) (by rfl) (C.fr 38) bt_sum (pa_cons (pv 0) pa_nil)) (pe_gint (i := 30) (by rfl) (C.gi 44)) (nomark _))))) (pss_one ps_never) pss_nil)
      (pss_one (ps_for (passes_of rfl) rfl (pi_any (pv 0)) (pg_name (i := 1) nd rfl (Or.inl rfl)) (pss_one (ps_if (pt_cmpR (OpR.c op_lt) (pv 1) pe_int (nomark _)) (pss_one ps_never) pss_nil))))),
    (ss_seq (ss_if (st_or (st_not (st_test (se_chain os_le os_le se_int (se_cb cs_len (sa_cons se_var sa_nil)) se_int))) (st_test (se_op os_gt (se_cb cs_sum (sa_cons se_var sa_nil)) se_int))) ss_never ss_next)
      (ss_for (si_any se_var) sg_name (ss_if (st_test (se_op os_lt se_var se_int)) ss_never ss_next)))⟩
def bd_size_at : VL.Env → Out := (seqD (ifS (op2D eqD (varD 2) (cD (.str "r"))) (retD (tupD (consD (op2D ixD (varD 0) (op2D addD (varD 1) (cD (.int 1)))) (consD (op2D ixD (varD 0) (varD 1)) nilD)))) nextD)
      (retD (tupD (consD (op2D ixD (varD 0) (varD 1)) (consD (op2D ixD (varD 0) (op2D addD (varD 1) (cD (.int 1)))) nilD)))))
def den_size_at (ds : List D) : FR := denOf 3 bd_size_at ds
theorem sc_size_at : FnScope ["widths", "k", "way"] ["widths", "k", "way"] (defScope s_size_at) := ⟨rfl, rfl, rfl, by decide +kernel, rfl, by decide +kernel, by decide +kernel⟩
theorem has_size_at {P : Program} {w : World} {K : PySem.W.Frag} {mg : Str → Option Value} {base : Heap} (C : Cfx fa fn exB K mg)  : HasF P w K mg base 1 "size_at" ["widths", "k", "way"] den_size_at := by
  obtain ⟨fd, F⟩ := C.fn_ 2 (d := d_size_at) rfl
  have nd := (sc_size_at).nd
  exact has_of (C.gl 2) F sc_size_at (fun _ _ _ _ _ _ us hl => match us, hl with | [_, _, _], _ => rfl) (fun _ => rfl) fun cdv A outer s H E hr =>
    ⟨_, (pss_cons (ps_if (pt_cmpR (op_eqD hr.units) (pv 2) pe_str (nomark _)) (pss_one (ps_ret (pe_tup (pa_cons (pe_ix ix_seq (pv 0) (pe_op op_addX (pv 1) pe_int) (fun _ _ => by rfl)) (pa_cons (pe_ix ix_seq (pv 0) (pv 1) (fun _ _ => by rfl)) pa_nil))))) pss_nil)
      (pss_one (ps_ret (pe_tup (pa_cons (pe_ix ix_seq (pv 0) (pv 1) (fun _ _ => by rfl)) (pa_cons (pe_ix ix_seq (pv 0) (pe_op op_addX (pv 1) pe_int) (fun _ _ => by rfl)) pa_nil)))))),
    (ss_seq (ss_if (st_test (se_op os_eq se_var se_str)) (ss_ret (se_tup (sa_cons (se_op os_ix se_var (se_op os_add se_var se_int)) (sa_cons (se_op os_ix se_var se_var) sa_nil)))) ss_next)
      (ss_ret (se_tup (sa_cons (se_op os_ix se_var se_var) (sa_cons (se_op os_ix se_var (se_op os_add se_var se_int)) sa_nil)))))⟩
def bd_table_of : VL.Env → Out := (seqD (ifS (op2D (inD true) (varD 0) (cD (.tup [(.int 2), (.int 3), (.int 5), (.int 7)]))) neverD nextD)
      (seqD (ifS (orD (notD (chainD leD leD (cD (.int 0)) (varD 1) (cD (.int 30)))) (orD (notD (chainD leD leD (cD (.int 0)) (varD 2) (cD (.int 30)))) (op2D neD (callBD (call1 lenD) (consD (varD 3) nilD)) (varD 1)))) neverD nextD)
      (seqD (asgOD 4 (lstD nilD))
      (seqD (forD (iterD (varD 3)) (tName 5) (seqD (ifS (op2D neD (callBD (call1 lenD) (consD (varD 5) nilD)) (varD 2)) neverD nextD)
      (appD 4 (callBD (call1 tupOf) (consD (lcD [6] (iterD (varD 5)) (tName 6) (cD (.bl true)) (op2D modD (varD 6) (varD 0))) nilD)))))
      (retD (tupD (consD (varD 1) (consD (varD 2) (consD (callBD (call1 tupOf) (consD (varD 4) nilD)) nilD)))))))))
def den_table_of (ds : List D) : FR := denOf 7 bd_table_of ds
theorem sc_table_of : FnScope ["p", "high", "wide", "rows", "told", "row", "number"] ["p", "high", "wide", "rows"] (defScope s_table_of) := ⟨rfl, rfl, rfl, by decide +kernel, rfl, by decide +kernel, by decide +kernel⟩
theorem has_table_of {P : Program} {w : World} {K : PySem.W.Frag} {mg : Str → Option Value} {base : Heap} (C : Cfx fa fn exB K mg)  : HasF P w K mg base 1 "table_of" ["p", "high", "wide", "rows"] den_table_of := by
  obtain ⟨fd, F⟩ := C.fn_ 0 (d := d_table_of) rfl
  have nd := (sc_table_of).nd
  exact has_of (C.gl 0) F sc_table_of (fun _ _ _ _ _ _ us hl => match us, hl with | [_, _, _, _], _ => rfl) (fun _ => rfl) fun cdv A outer s H E hr =>
    ⟨_, (pss_cons (ps_if (pt_cmpR op_notIn_seq (pv 0) (pe_gref (by rfl) (C.gl 41)) (by rfl)) (pss_one ps_never) pss_nil)
      (pss_cons (ps_if (PW.pt (pw_or (pt_not (pt_chain (OpR.c op_le) (OpR.c op_le) pe_int (pv 1) (pe_gint (i := 30) (by rfl) (C.gi 42)))) (pw_or (pt_not (pt_chain (OpR.c op_le) (OpR.c op_le) pe_int (pv 2) (pe_gint (i := 30) (by rfl) (C.gi 42)))) (pw_or1 (pt_cmpR (op_neD hr.units) (pe_callB call_len (by rfl) (C.fr 30) bt_len (pa_cons (pv 3) pa_nil)) (pv 1) (nomark _)))))) (pss_one ps_never) pss_nil)
      (pss_cons (ps_set (i := 4) nd rfl (Or.inl rfl) (pe_lst pa_nil))
      (pss_cons (ps_for (passes_of rfl) rfl (pi_any (pv 3)) (pg_name (i := 5) nd rfl (Or.inl rfl)) (pss_cons (ps_if (pt_cmpR (op_neD hr.units) (pe_callB call_len (by rfl) (C.fr 30) bt_len (pa_cons (pv 5) pa_nil)) (pv 2) (nomark _)) (pss_one ps_never) pss_nil)
      (pss_one (ps_expr (pe_bm PySem.F.plainAttrs_list PySem.F.slot_list_append PySem.F.type_list_append mt_append (pv 4) (pa_cons (pe_callTy call_tuple_of (by rfl) (C.fr 39) bt_tuple (pa_cons (pe_lc (own := [("number", 6)]) rfl nd (pi_any (pv 5)) (blkOk_by (by kernel_rfl)) (fun _ _ _ _ _ => (pg_name (i := 6) nd rfl (Or.inl rfl))) (fun _ _ _ _ _ => pts_nil) (fun _ _ _ _ _ => (pe_op op_mod (pv 6) (pv 0)))) pa_nil)) pa_nil))))))
      (pss_one (ps_ret (pe_tup (pa_cons (pv 1) (pa_cons (pv 2) (pa_cons (pe_callTy call_tuple_of (by rfl) (C.fr 39) bt_tuple (pa_cons (pv 4) pa_nil)) pa_nil)))))))))),
    (ss_seq (ss_if (st_test (se_op (os_in (neg := true)) se_var (se_gtup (ex_PRIMES C) rfl))) ss_never ss_next)
      (ss_seq (ss_if (st_or (st_not (st_test (se_chain os_le os_le se_int se_var se_int))) (st_or (st_not (st_test (se_chain os_le os_le se_int se_var se_int))) (st_test (se_op os_ne (se_cb cs_len (sa_cons se_var sa_nil)) se_var)))) ss_never ss_next)
      (ss_seq (ss_asgO (se_lst sa_nil))
      (ss_seq (ss_for (si_any se_var) sg_name (ss_seq (ss_if (st_test (se_op os_ne (se_cb cs_len (sa_cons se_var sa_nil)) se_var)) ss_never ss_next)
      (ss_app (se_cb cs_tuple (sa_cons (se_lc (si_any se_var) sg_name (fun _ h => h) st_yes (se_op os_mod se_var se_var)) sa_nil)))))
      (ss_ret (se_tup (sa_cons se_var (sa_cons se_var (sa_cons (se_cb cs_tuple (sa_cons se_var sa_nil)) sa_nil)))))))))⟩
def bd_arrow_of : VL.Env → Out := (seqD (asgT (tsTup 2 (tsCons (tName 4) (tsCons (tName 5) tsNil))) (varD 3))
      (seqD (ifS (op2D (inD true) (varD 4) (tupD (consD (cD (.str "r")) (consD (cD (.str "l")) nilD)))) neverD nextD)
      (seqD (asgT (tsTup 2 (tsCons (tName 6) (tsCons (tName 7) tsNil))) (callD 3 den_size_at (consD (varD 1) (consD (varD 2) (consD (varD 4) nilD)))))
      (seqD (thruD (asgD 8 (callD 4 den_table_of (consD (varD 0) (consD (varD 6) (consD (varD 7) (consD (varD 5) nilD)))))))
      (retD (tupD (consD (varD 4) (consD (varD 8) nilD))))))))
def den_arrow_of (ds : List D) : FR := denOf 9 bd_arrow_of ds
theorem sc_arrow_of : FnScope ["p", "widths", "k", "pair", "way", "rows", "high", "wide", "table"] ["p", "widths", "k", "pair"] (defScope s_arrow_of) := ⟨rfl, rfl, rfl, by decide +kernel, rfl, by decide +kernel, by decide +kernel⟩
theorem has_arrow_of {P : Program} {w : World} {K : PySem.W.Frag} {mg : Str → Option Value} {base : Heap} (C : Cfx fa fn exB K mg) (F_size_at : HasF P w K mg base 1 "size_at" ["widths", "k", "way"] den_size_at) (F_table_of : HasF P w K mg base 1 "table_of" ["p", "high", "wide", "rows"] den_table_of) : HasF P w K mg base 2 "arrow_of" ["p", "widths", "k", "pair"] den_arrow_of := by
  obtain ⟨fd, F⟩ := C.fn_ 3 (d := d_arrow_of) rfl
  have nd := (sc_arrow_of).nd
  exact has_of (C.gl 3) F sc_arrow_of (fun _ _ _ _ _ _ us hl => match us, hl with | [_, _, _, _], _ => rfl) (fun _ => rfl) fun cdv A outer s H E hr =>
    ⟨_, (pss_cons (ps_asg (pv 3) (pg_tup rfl (pgs_cons (pg_name (i := 4) nd rfl (Or.inl rfl)) (pgs_cons (pg_name (i := 5) nd rfl (Or.inl rfl)) pgs_nil))))
      (pss_cons (ps_if (pt_cmpR op_notIn_seq (pv 4) (pe_tup (pa_cons pe_str (pa_cons pe_str pa_nil))) (by rfl)) (pss_one ps_never) pss_nil)
      (pss_cons (ps_asg (pe_has F_size_at (hr.mono (by decide)) (by rfl) (tkN rfl rfl rfl rfl) (pa_cons (pv 1) (pa_cons (pv 2) (pa_cons (pv 4) pa_nil)))) (pg_tup rfl (pgs_cons (pg_name (i := 6) nd rfl (Or.inl rfl)) (pgs_cons (pg_name (i := 7) nd rfl (Or.inl rfl)) pgs_nil))))
      (pss_cons (ps_try_thru0 (pss_one (ps_set (i := 8) nd rfl (Or.inl rfl) (pe_has F_table_of (hr.mono (by decide)) (by rfl) tkF (pa_cons (pv 0) (pa_cons (pv 6) (pa_cons (pv 7) (pa_cons (pv 5) pa_nil))))))))
      (pss_one (ps_ret (pe_tup (pa_cons (pv 4) (pa_cons (pv 8) pa_nil))))))))),
    (ss_seq (ss_asgT (sg_tup (sgs_cons sg_name (sgs_cons sg_name sgs_nil))) se_var)
      (ss_seq (ss_if (st_test (se_op (os_in (neg := true)) se_var (se_tup (sa_cons se_str (sa_cons se_str sa_nil))))) ss_never ss_next)
      (ss_seq (ss_asgT (sg_tup (sgs_cons sg_name (sgs_cons sg_name sgs_nil))) (se_has (sa_cons se_var (sa_cons se_var (sa_cons se_var sa_nil)))))
      (ss_seq (ss_thru (ss_asg (se_has (sa_cons se_var (sa_cons se_var (sa_cons se_var (sa_cons se_var sa_nil)))))))
      (ss_ret (se_tup (sa_cons se_var (sa_cons se_var sa_nil))))))))⟩
def bd_row_of : VL.Env → Out := (seqD (ifS (op2D (inD true) (varD 0) (cD (.tup [(.int 2), (.int 3), (.int 5), (.int 7)]))) neverD nextD)
      (seqD (dropD (callD 1 den_look_at_widths (consD (varD 1) nilD)))
      (seqD (ifS (op2D neD (callBD (call1 lenD) (consD (varD 2) nilD)) (op2D subD (callBD (call1 lenD) (consD (varD 1) nilD)) (cD (.int 1)))) neverD nextD)
      (seqD (asgD 3 (lcD [4, 5] (enumD (consD (varD 2) nilD)) (tsTup 2 (tsCons (tName 4) (tsCons (tName 5) tsNil))) (cD (.bl true)) (callD 4 den_arrow_of (consD (varD 0) (consD (varD 1) (consD (varD 4) (consD (varD 5) nilD)))))))
      (retD (tupD (consD (varD 0) (consD (callBD (call1 tupOf) (consD (varD 1) nilD)) (consD (callBD (call1 tupOf) (consD (varD 3) nilD)) nilD)))))))))
def den_row_of (ds : List D) : FR := denOf 6 bd_row_of ds
theorem sc_row_of : FnScope ["p", "widths", "arrows", "told", "k", "pair"] ["p", "widths", "arrows"] (defScope s_row_of) := ⟨rfl, rfl, rfl, by decide +kernel, rfl, by decide +kernel, by decide +kernel⟩
theorem has_row_of {P : Program} {w : World} {K : PySem.W.Frag} {mg : Str → Option Value} {base : Heap} (C : Cfx fa fn exB K mg) (F_look_at_widths : HasF P w K mg base 1 "look_at_widths" ["widths"] den_look_at_widths) (F_arrow_of : HasF P w K mg base 2 "arrow_of" ["p", "widths", "k", "pair"] den_arrow_of) : HasF P w K mg base 3 "row_of" ["p", "widths", "arrows"] den_row_of := by
  obtain ⟨fd, F⟩ := C.fn_ 4 (d := d_row_of) rfl
  have nd := (sc_row_of).nd
  exact has_of (C.gl 4) F sc_row_of (fun _ _ _ _ _ _ us hl => match us, hl with | [_, _, _], _ => rfl) (fun _ => rfl) fun cdv A outer s H E hr =>
    ⟨_, (pss_cons (ps_if (pt_cmpR op_notIn_seq (pv 0) (pe_gref (by rfl) (C.gl 41)) (by rfl)) (pss_one ps_never) pss_nil)
      (pss_cons (ps_expr (pe_has F_look_at_widths (hr.mono (by decide)) (by rfl) (tkN rfl rfl rfl rfl) (pa_cons (pv 1) pa_nil)))
      (pss_cons (ps_if (pt_cmpR (op_neD hr.units) (pe_callB call_len (by rfl) (C.fr 30) bt_len (pa_cons (pv 2) pa_nil)) (pe_op (OpR.c op_sub) (pe_callB call_len (by rfl) (C.fr 30) bt_len (pa_cons (pv 1) pa_nil)) pe_int) (nomark _)) (pss_one ps_never) pss_nil)
      (pss_cons (ps_setLc (i := 3) (own := [("k", 4), ("pair", 5)]) rfl nd rfl rfl (sw_true rfl rfl rfl (by decide +kernel)) (pi_enum (by rfl) (C.fr 27) (pa_cons (pv 2) pa_nil)) (blkOk_by (by kernel_rfl)) (fun _ _ _ _ _ => (pg_tup rfl (pgs_cons (pg_name (i := 4) nd rfl (Or.inl rfl)) (pgs_cons (pg_name (i := 5) nd rfl (Or.inl rfl)) pgs_nil)))) (fun _ _ _ _ _ => pts_nil) (fun _ _ _ _ _ => (pe_has F_arrow_of (hr.mono (by decide)) (by rfl) tkF (pa_cons (pv 0) (pa_cons (pv 1) (pa_cons (pv 4) (pa_cons (pv 5) pa_nil)))))))
      (pss_one (ps_ret (pe_tup (pa_cons (pv 0) (pa_cons (pe_callTy call_tuple_of (by rfl) (C.fr 39) bt_tuple (pa_cons (pv 1) pa_nil)) (pa_cons (pe_callTy call_tuple_of (by rfl) (C.fr 39) bt_tuple (pa_cons (pv 3) pa_nil)) pa_nil)))))))))),
    (ss_seq (ss_if (st_test (se_op (os_in (neg := true)) se_var (se_gtup (ex_PRIMES C) rfl))) ss_never ss_next)
      (ss_seq (ss_drop (se_has (sa_cons se_var sa_nil)))
      (ss_seq (ss_if (st_test (se_op os_ne (se_cb cs_len (sa_cons se_var sa_nil)) (se_op os_sub (se_cb cs_len (sa_cons se_var sa_nil)) se_int))) ss_never ss_next)
      (ss_seq (ss_asg (se_lc (si_enum (sa_cons se_var sa_nil)) (sg_tup (sgs_cons sg_name (sgs_cons sg_name sgs_nil))) (fun _ h => h) st_yes (se_has (sa_cons se_var (sa_cons se_var (sa_cons se_var (sa_cons se_var sa_nil)))))))
      (ss_ret (se_tup (sa_cons se_var (sa_cons (se_cb cs_tuple (sa_cons se_var sa_nil)) (sa_cons (se_cb cs_tuple (sa_cons se_var sa_nil)) sa_nil)))))))))⟩
def bd_law_truth : VL.Env → Out := (retD (andD (callBD (call2 isiD) (consD (varD 0) (consD (cD (.ty "bool")) nilD))) (op2D eqD (varD 0) (varD 1))))
def den_law_truth (ds : List D) : FR := denOf 2 bd_law_truth ds
theorem sc_law_truth : FnScope ["_law_found", "_law_due"] ["_law_found", "_law_due"] (defScope s_law_truth) := ⟨rfl, rfl, rfl, by decide +kernel, rfl, by decide +kernel, by decide +kernel⟩
theorem has_law_truth {P : Program} {w : World} {K : PySem.W.Frag} {mg : Str → Option Value} {base : Heap} (C : Cfx fa fn exB K mg)  : HasF P w K mg base 1 "_law_truth" ["_law_found", "_law_due"] den_law_truth := by
  obtain ⟨fd, F⟩ := C.fn_ 16 (d := d_law_truth) rfl
  have nd := (sc_law_truth).nd
  exact has_of (C.gl 16) F sc_law_truth (fun _ _ _ _ _ _ us hl => match us, hl with | [_, _], _ => rfl) (fun _ => rfl) fun cdv A outer s H E hr =>
    ⟨_, (pss_one (ps_ret (pe_and (pe_callB call_isi (by rfl) (C.fr 29) bt_isi (pa_cons (pv 0) (pa_cons (pe_tyN (by rfl) (C.fr 26) bt_bool) pa_nil))) (pe_one (pe_cmpR (op_eqD hr.units) (pv 0) (pv 1) (nomark _)))))),
    (ss_ret (se_and (se_cb cs_isi (sa_cons se_var (sa_cons se_ty sa_nil))) (se_op os_eq se_var se_var)))⟩
def bd_law_whole : VL.Env → Out := (retD (andD (callBD (call2 isiD) (consD (varD 0) (consD (cD (.ty "int")) nilD))) (notD (callBD (call2 isiD) (consD (varD 0) (consD (cD (.ty "bool")) nilD))))))
def den_law_whole (ds : List D) : FR := denOf 1 bd_law_whole ds
theorem sc_law_whole : FnScope ["_law_found"] ["_law_found"] (defScope s_law_whole) := ⟨rfl, rfl, rfl, by decide +kernel, rfl, by decide +kernel, by decide +kernel⟩
theorem has_law_whole {P : Program} {w : World} {K : PySem.W.Frag} {mg : Str → Option Value} {base : Heap} (C : Cfx fa fn exB K mg)  : HasF P w K mg base 1 "_law_whole" ["_law_found"] den_law_whole := by
  obtain ⟨fd, F⟩ := C.fn_ 8 (d := d_law_whole) rfl
  have nd := (sc_law_whole).nd
  exact has_of (C.gl 8) F sc_law_whole (fun _ _ _ _ _ _ us hl => match us, hl with | [_], _ => rfl) (fun _ => rfl) fun cdv A outer s H E hr =>
    ⟨_, (pss_one (ps_ret (pe_and (pe_callB call_isi (by rfl) (C.fr 29) bt_isi (pa_cons (pv 0) (pa_cons (pe_tyN (by rfl) (C.fr 28) bt_int) pa_nil))) (pe_one (pe_not (pe_callB call_isi (by rfl) (C.fr 29) bt_isi (pa_cons (pv 0) (pa_cons (pe_tyN (by rfl) (C.fr 26) bt_bool) pa_nil)))))))),
    (ss_ret (se_and (se_cb cs_isi (sa_cons se_var (sa_cons se_ty sa_nil))) (se_not (se_cb cs_isi (sa_cons se_var (sa_cons se_ty sa_nil))))))⟩
def bd_law_rests : VL.Env → Out := (seqD (ifS (orD (notD (callBD (call2 isiD) (consD (varD 0) (consD (cD (.ty "tuple")) nilD)))) (op2D neD (callBD (call1 lenD) (consD (varD 0) nilD)) (callBD (call1 lenD) (consD (varD 1) nilD)))) (retD (cD (.bl false))) nextD)
      (retD (andD (callBD (call1 allD) (consD (lcD [2] (iterD (varD 0)) (tName 2) (cD (.bl true)) (callD 1 den_law_whole (consD (varD 2) nilD))) nilD)) (op2D eqD (varD 0) (varD 1)))))
def den_law_rests (ds : List D) : FR := denOf 3 bd_law_rests ds
theorem sc_law_rests : FnScope ["_law_found", "_law_due", "_law_one"] ["_law_found", "_law_due"] (defScope s_law_rests) := ⟨rfl, rfl, rfl, by decide +kernel, rfl, by decide +kernel, by decide +kernel⟩
theorem has_law_rests {P : Program} {w : World} {K : PySem.W.Frag} {mg : Str → Option Value} {base : Heap} (C : Cfx fa fn exB K mg) (F_law_whole : HasF P w K mg base 1 "_law_whole" ["_law_found"] den_law_whole) : HasF P w K mg base 2 "_law_rests" ["_law_found", "_law_due"] den_law_rests := by
  obtain ⟨fd, F⟩ := C.fn_ 9 (d := d_law_rests) rfl
  have nd := (sc_law_rests).nd
  exact has_of (C.gl 9) F sc_law_rests (fun _ _ _ _ _ _ us hl => match us, hl with | [_, _], _ => rfl) (fun _ => rfl) fun cdv A outer s H E hr =>
    ⟨_, (pss_cons (ps_if (PW.pt (pw_or (pt_not (pt_val (pe_callB call_isi (by rfl) (C.fr 29) bt_isi (pa_cons (pv 0) (pa_cons (pe_tyN (by rfl) (C.fr 39) bt_tuple) pa_nil))))) (pw_or1 (pt_cmpR (op_neD hr.units) (pe_callB call_len (by rfl) (C.fr 30) bt_len (pa_cons (pv 0) pa_nil)) (pe_callB call_len (by rfl) (C.fr 30) bt_len (pa_cons (pv 1) pa_nil)) (nomark _))))) (pss_one (ps_ret pe_bl)) pss_nil)
      (pss_one (ps_ret (pe_and (pe_callB (cr_all rfl) (by rfl) (C.fr 24) bt_all (pa_cons (pe_lc (own := [("_law_one", 2)]) rfl nd (pi_any (pv 0)) (blkOk_by (by kernel_rfl)) (fun _ _ _ _ _ => (pg_name (i := 2) nd rfl (Or.inl rfl))) (fun _ _ _ _ _ => pts_nil) (fun _ _ _ _ _ => (pe_has F_law_whole (hr.mono (by decide)) (by rfl) tkF (pa_cons (pv 2) pa_nil)))) pa_nil)) (pe_one (pe_cmpR (op_eqD hr.units) (pv 0) (pv 1) (nomark _))))))),
    (ss_seq (ss_if (st_or (st_not (st_B (se_cb cs_isi (sa_cons se_var (sa_cons se_ty sa_nil))))) (st_test (se_op os_ne (se_cb cs_len (sa_cons se_var sa_nil)) (se_cb cs_len (sa_cons se_var sa_nil))))) (ss_ret se_bl) ss_next)
      (ss_ret (se_and (se_cb cs_all (sa_cons (se_lc (si_any se_var) sg_name (fun _ h => h) st_yes (se_has (sa_cons se_var sa_nil))) sa_nil)) (se_op os_eq se_var se_var))))⟩
def bd_law_is_table : VL.Env → Out := (seqD (ifS (orD (notD (callBD (call2 isiD) (consD (varD 0) (consD (cD (.ty "tuple")) nilD)))) (orD (op2D neD (callBD (call1 lenD) (consD (varD 0) nilD)) (cD (.int 3))) (orD (notD (callD 1 den_law_whole (consD (op2D ixD (varD 0) (cD (.int 0))) nilD))) (notD (callD 1 den_law_whole (consD (op2D ixD (varD 0) (cD (.int 1))) nilD)))))) (retD (cD (.bl false))) nextD)
      (seqD (ifS (orD (op2D neD (slD (varD 0) noPart (partD (cD (.int 2)))) (slD (varD 1) noPart (partD (cD (.int 2))))) (orD (notD (callBD (call2 isiD) (consD (op2D ixD (varD 0) (cD (.int 2))) (consD (cD (.ty "tuple")) nilD)))) (op2D neD (callBD (call1 lenD) (consD (op2D ixD (varD 0) (cD (.int 2))) nilD)) (op2D ixD (varD 1) (cD (.int 0)))))) (retD (cD (.bl false))) nextD)
      (retD (callBD (call1 allD) (consD (lcD [2] (rng1D (consD (op2D ixD (varD 1) (cD (.int 0))) nilD)) (tName 2) (cD (.bl true)) (callD 2 den_law_rests (consD (op2D ixD (op2D ixD (varD 0) (cD (.int 2))) (varD 2)) (consD (op2D ixD (op2D ixD (varD 1) (cD (.int 2))) (varD 2)) nilD)))) nilD)))))
def den_law_is_table (ds : List D) : FR := denOf 3 bd_law_is_table ds
theorem sc_law_is_table : FnScope ["_law_found", "_law_due", "_law_k"] ["_law_found", "_law_due"] (defScope s_law_is_table) := ⟨rfl, rfl, rfl, by decide +kernel, rfl, by decide +kernel, by decide +kernel⟩
theorem has_law_is_table {P : Program} {w : World} {K : PySem.W.Frag} {mg : Str → Option Value} {base : Heap} (C : Cfx fa fn exB K mg) (F_law_whole : HasF P w K mg base 1 "_law_whole" ["_law_found"] den_law_whole) (F_law_rests : HasF P w K mg base 2 "_law_rests" ["_law_found", "_law_due"] den_law_rests) : HasF P w K mg base 3 "_law_is_table" ["_law_found", "_law_due"] den_law_is_table := by
  obtain ⟨fd, F⟩ := C.fn_ 10 (d := d_law_is_table) rfl
  have nd := (sc_law_is_table).nd
  exact has_of (C.gl 10) F sc_law_is_table (fun _ _ _ _ _ _ us hl => match us, hl with | [_, _], _ => rfl) (fun _ => rfl) fun cdv A outer s H E hr =>
    ⟨_, (pss_cons (ps_if (PW.pt (pw_or (pt_not (pt_val (pe_callB call_isi (by rfl) (C.fr 29) bt_isi (pa_cons (pv 0) (pa_cons (pe_tyN (by rfl) (C.fr 39) bt_tuple) pa_nil))))) (pw_or (pt_cmpR (op_neD hr.units) (pe_callB call_len (by rfl) (C.fr 30) bt_len (pa_cons (pv 0) pa_nil)) pe_int (nomark _)) (pw_or (pt_not (pt_val (pe_has F_law_whole (hr.mono (by decide)) (by rfl) (tkN rfl rfl rfl rfl) (pa_cons (pe_ix ix_seq (pv 0) pe_int (fun _ _ => by rfl)) pa_nil)))) (pw_or1 (pt_not (pt_val (pe_has F_law_whole (hr.mono (by decide)) (by rfl) (tkN rfl rfl rfl rfl) (pa_cons (pe_ix ix_seq (pv 0) pe_int (fun _ _ => by rfl)) pa_nil))))))))) (pss_one (ps_ret pe_bl)) pss_nil)
      (pss_cons (ps_if (PW.pt (pw_or (pt_cmpR (op_neD hr.units) (pe_slice sl_X (pv 0) po_none (po_some pe_int)) (pe_slice sl_X (pv 1) po_none (po_some pe_int)) (nomark _)) (pw_or (pt_not (pt_val (pe_callB call_isi (by rfl) (C.fr 29) bt_isi (pa_cons (pe_ix ix_seq (pv 0) pe_int (fun _ _ => by rfl)) (pa_cons (pe_tyN (by rfl) (C.fr 39) bt_tuple) pa_nil))))) (pw_or1 (pt_cmpR (op_neD hr.units) (pe_callB call_len (by rfl) (C.fr 30) bt_len (pa_cons (pe_ix ix_seq (pv 0) pe_int (fun _ _ => by rfl)) pa_nil)) (pe_ix ix_seq (pv 1) pe_int (fun _ _ => by rfl)) (nomark _)))))) (pss_one (ps_ret pe_bl)) pss_nil)
      (pss_one (ps_ret (pe_callB (cr_all rfl) (by rfl) (C.fr 24) bt_all (pa_cons (pe_lc (own := [("_law_k", 2)]) rfl nd (pi_range1 (by rfl) (C.fr 34) (pa_cons (pe_ix ix_seq (pv 1) pe_int (fun _ _ => by rfl)) pa_nil)) (blkOk_by (by kernel_rfl)) (fun _ _ _ _ _ => (pg_name (i := 2) nd rfl (Or.inl rfl))) (fun _ _ _ _ _ => pts_nil) (fun _ _ _ _ _ => (pe_has F_law_rests (hr.mono (by decide)) (by rfl) tkF (pa_cons (pe_ix ix_seq (pe_ix ix_seq (pv 0) pe_int (fun _ _ => by rfl)) (pv 2) (fun _ _ => by rfl)) (pa_cons (pe_ix ix_seq (pe_ix ix_seq (pv 1) pe_int (fun _ _ => by rfl)) (pv 2) (fun _ _ => by rfl)) pa_nil))))) pa_nil)))))),
    (ss_seq (ss_if (st_or (st_not (st_B (se_cb cs_isi (sa_cons se_var (sa_cons se_ty sa_nil))))) (st_or (st_test (se_op os_ne (se_cb cs_len (sa_cons se_var sa_nil)) se_int)) (st_or (st_not (st_B (se_has (sa_cons (se_op os_ix se_var se_int) sa_nil)))) (st_not (st_B (se_has (sa_cons (se_op os_ix se_var se_int) sa_nil))))))) (ss_ret se_bl) ss_next)
      (ss_seq (ss_if (st_or (st_test (se_op os_ne (se_sl se_var so_none (so_some se_int)) (se_sl se_var so_none (so_some se_int)))) (st_or (st_not (st_B (se_cb cs_isi (sa_cons (se_op os_ix se_var se_int) (sa_cons se_ty sa_nil))))) (st_test (se_op os_ne (se_cb cs_len (sa_cons (se_op os_ix se_var se_int) sa_nil)) (se_op os_ix se_var se_int))))) (ss_ret se_bl) ss_next)
      (ss_ret (se_cb cs_all (sa_cons (se_lc (si_rng1 (sa_cons (se_op os_ix se_var se_int) sa_nil)) sg_name (fun _ h => h) st_yes (se_has (sa_cons (se_op os_ix (se_op os_ix se_var se_int) se_var) (sa_cons (se_op os_ix (se_op os_ix se_var se_int) se_var) sa_nil)))) sa_nil)))))⟩
def bd_law_is_row : VL.Env → Out := (seqD (ifS (orD (notD (callBD (call2 isiD) (consD (varD 0) (consD (cD (.ty "tuple")) nilD)))) (orD (op2D neD (callBD (call1 lenD) (consD (varD 0) nilD)) (cD (.int 3))) (orD (notD (callD 1 den_law_whole (consD (op2D ixD (varD 0) (cD (.int 0))) nilD))) (op2D neD (op2D ixD (varD 0) (cD (.int 0))) (op2D ixD (varD 1) (cD (.int 0))))))) (retD (cD (.bl false))) nextD)
      (seqD (ifS (orD (notD (callD 2 den_law_rests (consD (op2D ixD (varD 0) (cD (.int 1))) (consD (op2D ixD (varD 1) (cD (.int 1))) nilD)))) (orD (notD (callBD (call2 isiD) (consD (op2D ixD (varD 0) (cD (.int 2))) (consD (cD (.ty "tuple")) nilD)))) (op2D neD (callBD (call1 lenD) (consD (op2D ixD (varD 0) (cD (.int 2))) nilD)) (callBD (call1 lenD) (consD (op2D ixD (varD 1) (cD (.int 2))) nilD))))) (retD (cD (.bl false))) nextD)
      (seqD (forD (zipD (consD (op2D ixD (varD 0) (cD (.int 2))) (consD (op2D ixD (varD 1) (cD (.int 2))) nilD))) (tsTup 2 (tsCons (tName 2) (tsCons (tName 3) tsNil))) (seqD (ifS (orD (notD (callBD (call2 isiD) (consD (varD 2) (consD (cD (.ty "tuple")) nilD)))) (orD (op2D neD (callBD (call1 lenD) (consD (varD 2) nilD)) (cD (.int 2))) (op2D neD (op2D ixD (varD 2) (cD (.int 0))) (op2D ixD (varD 3) (cD (.int 0)))))) (retD (cD (.bl false))) nextD)
      (ifS (orD (notD (callBD (call2 isiD) (consD (op2D ixD (varD 2) (cD (.int 0))) (consD (cD (.ty "str")) nilD)))) (notD (callD 2 den_law_is_table (consD (op2D ixD (varD 2) (cD (.int 1))) (consD (op2D ixD (varD 3) (cD (.int 1))) nilD))))) (retD (cD (.bl false))) nextD)))
      (retD (cD (.bl true))))))
def den_law_is_row (ds : List D) : FR := denOf 4 bd_law_is_row ds
theorem sc_law_is_row : FnScope ["_law_found", "_law_due", "_law_arrow", "_law_other"] ["_law_found", "_law_due"] (defScope s_law_is_row) := ⟨rfl, rfl, rfl, by decide +kernel, rfl, by decide +kernel, by decide +kernel⟩
theorem has_law_is_row {P : Program} {w : World} {K : PySem.W.Frag} {mg : Str → Option Value} {base : Heap} (C : Cfx fa fn exB K mg) (F_law_whole : HasF P w K mg base 1 "_law_whole" ["_law_found"] den_law_whole) (F_law_rests : HasF P w K mg base 2 "_law_rests" ["_law_found", "_law_due"] den_law_rests) (F_law_is_table : HasF P w K mg base 3 "_law_is_table" ["_law_found", "_law_due"] den_law_is_table) : HasF P w K mg base 4 "_law_is_row" ["_law_found", "_law_due"] den_law_is_row := by
  obtain ⟨fd, F⟩ := C.fn_ 14 (d := d_law_is_row) rfl
  have nd := (sc_law_is_row).nd
  exact has_of (C.gl 14) F sc_law_is_row (fun _ _ _ _ _ _ us hl => match us, hl with | [_, _], _ => rfl) (fun _ => rfl) fun cdv A outer s H E hr =>
    ⟨_, (pss_cons (ps_if (PW.pt (pw_or (pt_not (pt_val (pe_callB call_isi (by rfl) (C.fr 29) bt_isi (pa_cons (pv 0) (pa_cons (pe_tyN (by rfl) (C.fr 39) bt_tuple) pa_nil))))) (pw_or (pt_cmpR (op_neD hr.units) (pe_callB call_len (by rfl) (C.fr 30) bt_len (pa_cons (pv 0) pa_nil)) pe_int (nomark _)) (pw_or (pt_not (pt_val (pe_has F_law_whole (hr.mono (by decide)) (by rfl) (tkN rfl rfl rfl rfl) (pa_cons (pe_ix ix_seq (pv 0) pe_int (fun _ _ => by rfl)) pa_nil)))) (pw_or1 (pt_cmpR (op_neD hr.units) (pe_ix ix_seq (pv 0) pe_int (fun _ _ => by rfl)) (pe_ix ix_seq (pv 1) pe_int (fun _ _ => by rfl)) (nomark _))))))) (pss_one (ps_ret pe_bl)) pss_nil)
      (pss_cons (ps_if (PW.pt (pw_or (pt_not (pt_val (pe_has F_law_rests (hr.mono (by decide)) (by rfl) (tkN rfl rfl rfl rfl) (pa_cons (pe_ix ix_seq (pv 0) pe_int (fun _ _ => by rfl)) (pa_cons (pe_ix ix_seq (pv 1) pe_int (fun _ _ => by rfl)) pa_nil))))) (pw_or (pt_not (pt_val (pe_callB call_isi (by rfl) (C.fr 29) bt_isi (pa_cons (pe_ix ix_seq (pv 0) pe_int (fun _ _ => by rfl)) (pa_cons (pe_tyN (by rfl) (C.fr 39) bt_tuple) pa_nil))))) (pw_or1 (pt_cmpR (op_neD hr.units) (pe_callB call_len (by rfl) (C.fr 30) bt_len (pa_cons (pe_ix ix_seq (pv 0) pe_int (fun _ _ => by rfl)) pa_nil)) (pe_callB call_len (by rfl) (C.fr 30) bt_len (pa_cons (pe_ix ix_seq (pv 1) pe_int (fun _ _ => by rfl)) pa_nil)) (nomark _)))))) (pss_one (ps_ret pe_bl)) pss_nil)
      (pss_cons (ps_for (passes_of rfl) rfl (RZ.pi_zipA (by rfl) (C.fr 40) (pa_cons (pe_ix ix_seq (pv 0) pe_int (fun _ _ => by rfl)) (pa_cons (pe_ix ix_seq (pv 1) pe_int (fun _ _ => by rfl)) pa_nil))) (pg_tup rfl (pgs_cons (pg_name (i := 2) nd rfl (Or.inl rfl)) (pgs_cons (pg_name (i := 3) nd rfl (Or.inl rfl)) pgs_nil))) (pss_cons (ps_if (PW.pt (pw_or (pt_not (pt_val (pe_callB call_isi (by rfl) (C.fr 29) bt_isi (pa_cons (pv 2) (pa_cons (pe_tyN (by rfl) (C.fr 39) bt_tuple) pa_nil))))) (pw_or (pt_cmpR (op_neD hr.units) (pe_callB call_len (by rfl) (C.fr 30) bt_len (pa_cons (pv 2) pa_nil)) pe_int (nomark _)) (pw_or1 (pt_cmpR (op_neD hr.units) (pe_ix ix_seq (pv 2) pe_int (fun _ _ => by rfl)) (pe_ix ix_seq (pv 3) pe_int (fun _ _ => by rfl)) (nomark _)))))) (pss_one (ps_ret pe_bl)) pss_nil)
      (pss_one (ps_if (PW.pt (pw_or (pt_not (pt_val (pe_callB call_isi (by rfl) (C.fr 29) bt_isi (pa_cons (pe_ix ix_seq (pv 2) pe_int (fun _ _ => by rfl)) (pa_cons (pe_tyN (by rfl) (C.fr 37) bt_str) pa_nil))))) (pw_or1 (pt_not (pt_val (pe_has F_law_is_table (hr.mono (by decide)) (by rfl) (tkN rfl rfl rfl rfl) (pa_cons (pe_ix ix_seq (pv 2) pe_int (fun _ _ => by rfl)) (pa_cons (pe_ix ix_seq (pv 3) pe_int (fun _ _ => by rfl)) pa_nil)))))))) (pss_one (ps_ret pe_bl)) pss_nil))))
      (pss_one (ps_ret pe_bl))))),
    (ss_seq (ss_if (st_or (st_not (st_B (se_cb cs_isi (sa_cons se_var (sa_cons se_ty sa_nil))))) (st_or (st_test (se_op os_ne (se_cb cs_len (sa_cons se_var sa_nil)) se_int)) (st_or (st_not (st_B (se_has (sa_cons (se_op os_ix se_var se_int) sa_nil)))) (st_test (se_op os_ne (se_op os_ix se_var se_int) (se_op os_ix se_var se_int)))))) (ss_ret se_bl) ss_next)
      (ss_seq (ss_if (st_or (st_not (st_B (se_has (sa_cons (se_op os_ix se_var se_int) (sa_cons (se_op os_ix se_var se_int) sa_nil))))) (st_or (st_not (st_B (se_cb cs_isi (sa_cons (se_op os_ix se_var se_int) (sa_cons se_ty sa_nil))))) (st_test (se_op os_ne (se_cb cs_len (sa_cons (se_op os_ix se_var se_int) sa_nil)) (se_cb cs_len (sa_cons (se_op os_ix se_var se_int) sa_nil)))))) (ss_ret se_bl) ss_next)
      (ss_seq (ss_for (si_zip (sa_cons (se_op os_ix se_var se_int) (sa_cons (se_op os_ix se_var se_int) sa_nil))) (sg_tup (sgs_cons sg_name (sgs_cons sg_name sgs_nil))) (ss_seq (ss_if (st_or (st_not (st_B (se_cb cs_isi (sa_cons se_var (sa_cons se_ty sa_nil))))) (st_or (st_test (se_op os_ne (se_cb cs_len (sa_cons se_var sa_nil)) se_int)) (st_test (se_op os_ne (se_op os_ix se_var se_int) (se_op os_ix se_var se_int))))) (ss_ret se_bl) ss_next)
      (ss_if (st_or (st_not (st_B (se_cb cs_isi (sa_cons (se_op os_ix se_var se_int) (sa_cons se_ty sa_nil))))) (st_not (st_B (se_has (sa_cons (se_op os_ix se_var se_int) (sa_cons (se_op os_ix se_var se_int) sa_nil)))))) (ss_ret se_bl) ss_next)))
      (ss_ret se_bl))))⟩
def bd_ways_of : VL.Env → Out := (retD (m1D joinD (cD (.str "")) (lcD [1, 2] (iterD (op2D ixD (varD 0) (cD (.int 2)))) (tsTup 2 (tsCons (tName 1) (tsCons (tName 2) tsNil))) (cD (.bl true)) (varD 1))))
def den_ways_of (ds : List D) : FR := denOf 3 bd_ways_of ds
theorem sc_ways_of : FnScope ["row", "way", "table"] ["row"] (defScope s_ways_of) := ⟨rfl, rfl, rfl, by decide +kernel, rfl, by decide +kernel, by decide +kernel⟩
theorem has_ways_of {P : Program} {w : World} {K : PySem.W.Frag} {mg : Str → Option Value} {base : Heap} (C : Cfx fa fn exB K mg)  : HasF P w K mg base 1 "ways_of" ["row"] den_ways_of := by
  obtain ⟨fd, F⟩ := C.fn_ 5 (d := d_ways_of) rfl
  have nd := (sc_ways_of).nd
  exact has_of (C.gl 5) F sc_ways_of (fun _ _ _ _ _ _ us hl => match us, hl with | [_], _ => rfl) (fun _ => rfl) fun cdv A outer s H E hr =>
    ⟨_, (pss_one (ps_ret (pe_join pe_str (pe_lc (own := [("way", 1), ("table", 2)]) rfl nd (pi_any (pe_ix ix_seq (pv 0) pe_int (fun _ _ => by rfl))) (blkOk_by (by kernel_rfl)) (fun _ _ _ _ _ => (pg_tup rfl (pgs_cons (pg_name (i := 1) nd rfl (Or.inl rfl)) (pgs_cons (pg_name (i := 2) nd rfl (Or.inl rfl)) pgs_nil)))) (fun _ _ _ _ _ => pts_nil) (fun _ _ _ _ _ => (pv 1)))))),
    (ss_ret (se_m1 ms_join se_str (se_lc (si_any (se_op os_ix se_var se_int)) (sg_tup (sgs_cons sg_name (sgs_cons sg_name sgs_nil))) (fun _ h => h) st_yes se_var)))⟩
def bd_one_kind : VL.Env → Out := (retD (andD (op2D eqD (op2D ixD (varD 0) (cD (.int 0))) (op2D ixD (varD 1) (cD (.int 0)))) (op2D eqD (callD 1 den_ways_of (consD (varD 0) nilD)) (callD 1 den_ways_of (consD (varD 1) nilD)))))
def den_one_kind (ds : List D) : FR := denOf 2 bd_one_kind ds
theorem sc_one_kind : FnScope ["one", "other"] ["one", "other"] (defScope s_one_kind) := ⟨rfl, rfl, rfl, by decide +kernel, rfl, by decide +kernel, by decide +kernel⟩
theorem has_one_kind {P : Program} {w : World} {K : PySem.W.Frag} {mg : Str → Option Value} {base : Heap} (C : Cfx fa fn exB K mg) (F_ways_of : HasF P w K mg base 1 "ways_of" ["row"] den_ways_of) : HasF P w K mg base 2 "one_kind" ["one", "other"] den_one_kind := by
  obtain ⟨fd, F⟩ := C.fn_ 6 (d := d_one_kind) rfl
  have nd := (sc_one_kind).nd
  exact has_of (C.gl 6) F sc_one_kind (fun _ _ _ _ _ _ us hl => match us, hl with | [_, _], _ => rfl) (fun _ => rfl) fun cdv A outer s H E hr =>
    ⟨_, (pss_one (ps_ret (pe_and (pe_cmpR (op_eqD hr.units) (pe_ix ix_seq (pv 0) pe_int (fun _ _ => by rfl)) (pe_ix ix_seq (pv 1) pe_int (fun _ _ => by rfl)) (nomark _)) (pe_one (pe_cmpR (op_eqD hr.units) (pe_has F_ways_of (hr.mono (by decide)) (by rfl) (tkN rfl rfl rfl rfl) (pa_cons (pv 0) pa_nil)) (pe_has F_ways_of (hr.mono (by decide)) (by rfl) (tkN rfl rfl rfl rfl) (pa_cons (pv 1) pa_nil)) (nomark _)))))),
    (ss_ret (se_and (se_op os_eq (se_op os_ix se_var se_int) (se_op os_ix se_var se_int)) (se_op os_eq (se_has (sa_cons se_var sa_nil)) (se_has (sa_cons se_var sa_nil)))))⟩
def bd_law : VL.Env → Out := (seqD (asgD 1 (op2D ixD (lstD (consD (cD (.int 2)) (consD (cD (.int 3)) (consD (cD (.int 5)) (consD (cD (.int 7)) nilD))))) (op2D modD (callD 2 den_law_mix (consD (varD 0) (consD (cD (.int 0)) nilD))) (cD (.int 4)))))
      (seqD (asgD 2 (callD 1 den_law_ways (consD (callD 2 den_law_mix (consD (varD 0) (consD (cD (.int 1)) nilD))) nilD)))
      (seqD (asgD 3 (callD 5 den_law_row (consD (varD 0) (consD (cD (.int 2)) (consD (varD 1) (consD (varD 2) (consD (cD (.int 5)) nilD)))))))
      (seqD (asgOD 4 (callD 2 den_law_handed (consD (varD 0) (consD (varD 3) nilD))))
      (seqD (asgD 5 (lcD [8, 9] (iterD (varD 4)) (tsTup 2 (tsCons (tName 8) (tsCons (tName 9) tsNil))) (cD (.bl true)) (tupD (consD (varD 8) (consD (lcD [14] (iterD (varD 9)) (tName 14) (cD (.bl true)) (callBD (call1 lstOf) (consD (varD 14) nilD))) nilD)))))
      (seqD (asgOD 6 (callBD (call1 lstOf) (consD (op2D ixD (varD 3) (cD (.int 1))) nilD)))
      (seqD (asgD 7 (callD 3 den_row_of (consD (varD 1) (consD (varD 6) (consD (varD 4) nilD)))))
      (seqD (ifS (orD (op2D neD (varD 4) (varD 5)) (op2D neD (varD 6) (callBD (call1 lstOf) (consD (op2D ixD (varD 3) (cD (.int 1))) nilD)))) (retD (cD (.bl false))) nextD)
      (seqD (clearD 6)
      (seqD (clrForD 4 8 9)
      (seqD (ifS (orD (notD (callD 2 den_law_is_row (consD (varD 7) (consD (varD 3) nilD)))) (orD (op2D neD (callD 1 den_ways_of (consD (varD 7) nilD)) (varD 2)) (notD (callBD (call2 isiD) (consD (callD 1 den_ways_of (consD (varD 7) nilD)) (consD (cD (.ty "str")) nilD)))))) (retD (cD (.bl false))) nextD)
      (seqD (asgD 10 (callD 1 den_law_ways (consD (callD 2 den_law_mix (consD (varD 0) (consD (cD (.int 59)) nilD))) nilD)))
      (seqD (ifS (op2D eqD (op2D modD (op2D fdivD (callD 2 den_law_mix (consD (varD 0) (consD (cD (.int 59)) nilD))) (cD (.int 200))) (cD (.int 2))) (cD (.int 1))) (asgD 10 (varD 2)) nextD)
      (seqD (asgD 11 (callD 5 den_law_row (consD (varD 0) (consD (cD (.int 60)) (consD (op2D ixD (lstD (consD (cD (.int 2)) (consD (cD (.int 3)) (consD (cD (.int 5)) (consD (cD (.int 7)) nilD))))) (op2D modD (callD 2 den_law_mix (consD (varD 0) (consD (cD (.int 58)) nilD))) (cD (.int 4)))) (consD (varD 10) (consD (cD (.int 3)) nilD)))))))
      (seqD (asgD 12 (callD 5 den_law_row (consD (varD 0) (consD (cD (.int 60)) (consD (varD 1) (consD (varD 2) (consD (cD (.int 4)) nilD)))))))
      (seqD (asgD 13 (andD (op2D eqD (varD 1) (op2D ixD (varD 11) (cD (.int 0)))) (op2D eqD (varD 2) (m1D joinD (cD (.str "")) (lcD [8, 15] (iterD (op2D ixD (varD 11) (cD (.int 2)))) (tsTup 2 (tsCons (tName 8) (tsCons (tName 15) tsNil))) (cD (.bl true)) (varD 8))))))
      (retD (andD (callD 2 den_law_truth (consD (callD 2 den_one_kind (consD (varD 3) (consD (varD 11) nilD))) (consD (varD 13) nilD))) (callD 2 den_law_truth (consD (callD 2 den_one_kind (consD (varD 3) (consD (varD 12) nilD))) (consD (cD (.bl true)) nilD)))))))))))))))))))))
def den_law (ds : List D) : FR := denOf 16 bd_law ds
theorem sc_law : FnScope ["_law_script", "_law_p", "_law_ways_here", "_law_due", "_law_pairs", "_law_stay", "_law_widths", "_law_found", "_law_way", "_law_rows", "_law_far", "_law_other", "_law_near", "_law_like", "_law_figs", "_law_table_here"] ["_law_script"] (defScope s_law) := ⟨rfl, rfl, rfl, by decide +kernel, rfl, by decide +kernel, by decide +kernel⟩
theorem fn_law_ {P : Program} {w : World} {K : PySem.W.Frag} {mg : Str → Option Value} {base : Heap} {f : Addr} {fd : FuncData} (C : Cfx fa fn exB K mg) (F_law_mix : HasF P w K mg base 1 "_law_mix" ["_law_script", "_law_k"] den_law_mix) (F_law_ways : HasF P w K mg base 1 "_law_ways" ["_law_cell"] den_law_ways) (F_law_row : HasF P w K mg base 3 "_law_row" ["_law_script", "_law_at", "_law_p", "_law_ways_here", "_law_most"] den_law_row) (F_law_handed : HasF P w K mg base 2 "_law_handed" ["_law_script", "_law_row_here"] den_law_handed) (F_row_of : HasF P w K mg base 3 "row_of" ["p", "widths", "arrows"] den_row_of) (F_law_is_row : HasF P w K mg base 4 "_law_is_row" ["_law_found", "_law_due"] den_law_is_row) (F_ways_of : HasF P w K mg base 1 "ways_of" ["row"] den_ways_of) (F_one_kind : HasF P w K mg base 2 "one_kind" ["one", "other"] den_one_kind) (F_law_truth : HasF P w K mg base 1 "_law_truth" ["_law_found", "_law_due"] den_law_truth) (F : FunD K d_law.name d_law.qual d_law.params d_law.body d_law.scope [] [] f fd) : FnOk P w K mg base (L2N.CX P w) 5 f fd ["_law_script"] (spL K den_law) := by
  have nd := (sc_law).nd
  exact fn_law F sc_law (fun _ => rfl) fun cdv A outer s H E hr =>
    ⟨_, (pss_cons (ps_set (i := 1) nd rfl (Or.inl rfl) (pe_ix ix_seq (pe_lst (pa_cons pe_int (pa_cons pe_int (pa_cons pe_int (pa_cons pe_int pa_nil))))) (pe_op op_mod (pe_has F_law_mix (hr.mono (by decide)) (by rfl) (tkN rfl rfl rfl rfl) (pa_cons (pv 0) (pa_cons pe_int pa_nil))) pe_int) (fun _ _ => by rfl)))
      (pss_cons (ps_set (i := 2) nd rfl (Or.inl rfl) (pe_has F_law_ways (hr.mono (by decide)) (by rfl) (tkN rfl rfl rfl rfl) (pa_cons (pe_has F_law_mix (hr.mono (by decide)) (by rfl) (tkN rfl rfl rfl rfl) (pa_cons (pv 0) (pa_cons pe_int pa_nil))) pa_nil)))
      (pss_cons (ps_set (i := 3) nd rfl (Or.inl rfl) (pe_has F_law_row (hr.mono (by decide)) (by rfl) (tkN rfl rfl rfl rfl) (pa_cons (pv 0) (pa_cons pe_int (pa_cons (pv 1) (pa_cons (pv 2) (pa_cons pe_int pa_nil)))))))
      (pss_cons (ps_set (i := 4) nd rfl (Or.inl rfl) (pe_has F_law_handed (hr.mono (by decide)) (by rfl) (tkN rfl rfl rfl rfl) (pa_cons (pv 0) (pa_cons (pv 3) pa_nil))))
      (pss_cons (ps_setLc (i := 5) (own := [("_law_way", 8), ("_law_rows", 9)]) rfl nd rfl rfl (sw_true rfl rfl rfl (by decide +kernel)) (pi_any (pv 4)) (blkOk_by (by kernel_rfl)) (fun _ _ _ _ _ => (pg_tup rfl (pgs_cons (pg_name (i := 8) nd rfl (Or.inl rfl)) (pgs_cons (pg_name (i := 9) nd rfl (Or.inl rfl)) pgs_nil)))) (fun _ _ _ _ _ => pts_nil) (fun _ _ _ _ _ => (pe_tup (pa_cons (pv 8) (pa_cons (pe_lc (own := [("_law_figs", 14)]) rfl nd (pi_any (pv 9)) (blkOk_by (by kernel_rfl)) (fun _ _ _ _ _ => (pg_name (i := 14) nd rfl (Or.inl rfl))) (fun _ _ _ _ _ => pts_nil) (fun _ _ _ _ _ => (pe_callTy call_list_of (by rfl) (C.fr 31) bt_list (pa_cons (pv 14) pa_nil)))) pa_nil)))))
      (pss_cons (ps_set (i := 6) nd rfl (Or.inl rfl) (pe_callTy call_list_of (by rfl) (C.fr 31) bt_list (pa_cons (pe_ix ix_seq (pv 3) pe_int (fun _ _ => by rfl)) pa_nil)))
      (pss_cons (ps_set (i := 7) nd rfl (Or.inl rfl) (pe_has F_row_of (hr.mono (by decide)) (by rfl) (tkN rfl rfl rfl rfl) (pa_cons (pv 1) (pa_cons (pv 6) (pa_cons (pv 4) pa_nil)))))
      (pss_cons (ps_if (PW.pt (pw_or (pt_cmpR (op_neD hr.units) (pv 4) (pv 5) (nomark _)) (pw_or1 (pt_cmpR (op_neD hr.units) (pv 6) (pe_callTy call_list_of (by rfl) (C.fr 31) bt_list (pa_cons (pe_ix ix_seq (pv 3) pe_int (fun _ _ => by rfl)) pa_nil)) (nomark _))))) (pss_one (ps_ret pe_bl)) pss_nil)
      (pss_cons (ps_expr (pe_bm0 PySem.F.plainAttrs_list PySem.F.slot_list_clear PySem.F.type_list_clear mt_clear (pv 6)))
      (pss_cons (ps_for (passes_of rfl) rfl (pi_any (pv 4)) (pg_tup rfl (pgs_cons (pg_name (i := 8) nd rfl (Or.inl rfl)) (pgs_cons (pg_name (i := 9) nd rfl (Or.inl rfl)) pgs_nil))) (pss_one (ps_expr (pe_bm0 PySem.F.plainAttrs_list PySem.F.slot_list_clear PySem.F.type_list_clear mt_clear (pv 9)))))
      (pss_cons (ps_if (PW.pt (pw_or (pt_not (pt_val (pe_has F_law_is_row (hr.mono (by decide)) (by rfl) (tkN rfl rfl rfl rfl) (pa_cons (pv 7) (pa_cons (pv 3) pa_nil))))) (pw_or (pt_cmpR (op_neD hr.units) (pe_has F_ways_of (hr.mono (by decide)) (by rfl) (tkN rfl rfl rfl rfl) (pa_cons (pv 7) pa_nil)) (pv 2) (nomark _)) (pw_or1 (pt_not (pt_val (pe_callB call_isi (by rfl) (C.fr 29) bt_isi (pa_cons (pe_has F_ways_of (hr.mono (by decide)) (by rfl) (tkN rfl rfl rfl rfl) (pa_cons (pv 7) pa_nil)) (pa_cons (pe_tyN (by rfl) (C.fr 37) bt_str) pa_nil))))))))) (pss_one (ps_ret pe_bl)) pss_nil)
      (pss_cons (ps_set (i := 10) nd rfl (Or.inl rfl) (pe_has F_law_ways (hr.mono (by decide)) (by rfl) (tkN rfl rfl rfl rfl) (pa_cons (pe_has F_law_mix (hr.mono (by decide)) (by rfl) (tkN rfl rfl rfl rfl) (pa_cons (pv 0) (pa_cons pe_int pa_nil))) pa_nil)))
      (pss_cons (ps_if (pt_cmpR (op_eqD hr.units) (pe_op op_mod (pe_op op_fdiv (pe_has F_law_mix (hr.mono (by decide)) (by rfl) (tkN rfl rfl rfl rfl) (pa_cons (pv 0) (pa_cons pe_int pa_nil))) pe_int) pe_int) pe_int (nomark _)) (pss_one (ps_set (i := 10) nd rfl (Or.inl rfl) (pv 2))) pss_nil)
      (pss_cons (ps_set (i := 11) nd rfl (Or.inl rfl) (pe_has F_law_row (hr.mono (by decide)) (by rfl) (tkN rfl rfl rfl rfl) (pa_cons (pv 0) (pa_cons pe_int (pa_cons (pe_ix ix_seq (pe_lst (pa_cons pe_int (pa_cons pe_int (pa_cons pe_int (pa_cons pe_int pa_nil))))) (pe_op op_mod (pe_has F_law_mix (hr.mono (by decide)) (by rfl) (tkN rfl rfl rfl rfl) (pa_cons (pv 0) (pa_cons pe_int pa_nil))) pe_int) (fun _ _ => by rfl)) (pa_cons (pv 10) (pa_cons pe_int pa_nil)))))))
      (pss_cons (ps_set (i := 12) nd rfl (Or.inl rfl) (pe_has F_law_row (hr.mono (by decide)) (by rfl) (tkN rfl rfl rfl rfl) (pa_cons (pv 0) (pa_cons pe_int (pa_cons (pv 1) (pa_cons (pv 2) (pa_cons pe_int pa_nil)))))))
      (pss_cons (ps_set (i := 13) nd rfl (Or.inl rfl) (pe_and (pe_cmpR (op_eqD hr.units) (pv 1) (pe_ix ix_seq (pv 11) pe_int (fun _ _ => by rfl)) (nomark _)) (pe_one (pe_cmpR (op_eqD hr.units) (pv 2) (pe_join pe_str (pe_lc (own := [("_law_way", 8), ("_law_table_here", 15)]) rfl nd (pi_any (pe_ix ix_seq (pv 11) pe_int (fun _ _ => by rfl))) (blkOk_by (by kernel_rfl)) (fun _ _ _ _ _ => (pg_tup rfl (pgs_cons (pg_name (i := 8) nd rfl (Or.inl rfl)) (pgs_cons (pg_name (i := 15) nd rfl (Or.inl rfl)) pgs_nil)))) (fun _ _ _ _ _ => pts_nil) (fun _ _ _ _ _ => (pv 8)))) (nomark _)))))
      (pss_one (ps_ret (pe_and (pe_has F_law_truth (hr.mono (by decide)) (by rfl) (tkN rfl rfl rfl rfl) (pa_cons (pe_has F_one_kind (hr.mono (by decide)) (by rfl) (tkN rfl rfl rfl rfl) (pa_cons (pv 3) (pa_cons (pv 11) pa_nil))) (pa_cons (pv 13) pa_nil))) (pe_one (pe_has F_law_truth (hr.mono (by decide)) (by rfl) (tkN rfl rfl rfl rfl) (pa_cons (pe_has F_one_kind (hr.mono (by decide)) (by rfl) (tkN rfl rfl rfl rfl) (pa_cons (pv 3) (pa_cons (pv 12) pa_nil))) (pa_cons pe_bl pa_nil))))))))))))))))))))))),
    (sl_seq (sl_of (ss_asg (se_op os_ix (se_lst (sa_cons se_int (sa_cons se_int (sa_cons se_int (sa_cons se_int sa_nil))))) (se_op os_mod (se_has (sa_cons se_var (sa_cons se_int sa_nil))) se_int))))
      (sl_seq (sl_of (ss_asg (se_has (sa_cons (se_has (sa_cons se_var (sa_cons se_int sa_nil))) sa_nil))))
      (sl_seq (sl_of (ss_asg (se_has (sa_cons se_var (sa_cons se_int (sa_cons se_var (sa_cons se_var (sa_cons se_int sa_nil))))))))
      (sl_seq (sl_of (ss_asgO (se_has (sa_cons se_var (sa_cons se_var sa_nil)))))
      (sl_seq (sl_of (ss_asg (se_lc (si_any se_var) (sg_tup (sgs_cons sg_name (sgs_cons sg_name sgs_nil))) (fun _ h => h) st_yes (se_tup (sa_cons se_var (sa_cons (se_lc (si_any se_var) sg_name (fun _ h => h) st_yes (se_cb cs_list (sa_cons se_var sa_nil))) sa_nil))))))
      (sl_seq (sl_of (ss_asgO (se_cb cs_list (sa_cons (se_op os_ix se_var se_int) sa_nil))))
      (sl_seq (sl_of (ss_asg (se_has (sa_cons se_var (sa_cons se_var (sa_cons se_var sa_nil))))))
      (sl_seq (sl_of (ss_if (st_or (st_test (se_op os_ne se_var se_var)) (st_test (se_op os_ne se_var (se_cb cs_list (sa_cons (se_op os_ix se_var se_int) sa_nil))))) (ss_ret se_bl) ss_next))
      (sl_seq (sl_of ss_clear)
      (sl_seq sl_clrFor
      (sl_seq (sl_of (ss_if (st_or (st_not (st_B (se_has (sa_cons se_var (sa_cons se_var sa_nil))))) (st_or (st_test (se_op os_ne (se_has (sa_cons se_var sa_nil)) se_var)) (st_not (st_B (se_cb cs_isi (sa_cons (se_has (sa_cons se_var sa_nil)) (sa_cons se_ty sa_nil))))))) (ss_ret se_bl) ss_next))
      (sl_seq (sl_of (ss_asg (se_has (sa_cons (se_has (sa_cons se_var (sa_cons se_int sa_nil))) sa_nil))))
      (sl_seq (sl_of (ss_if (st_test (se_op os_eq (se_op os_mod (se_op os_fdiv (se_has (sa_cons se_var (sa_cons se_int sa_nil))) se_int) se_int) se_int)) (ss_asg se_var) ss_next))
      (sl_seq (sl_of (ss_asg (se_has (sa_cons se_var (sa_cons se_int (sa_cons (se_op os_ix (se_lst (sa_cons se_int (sa_cons se_int (sa_cons se_int (sa_cons se_int sa_nil))))) (se_op os_mod (se_has (sa_cons se_var (sa_cons se_int sa_nil))) se_int)) (sa_cons se_var (sa_cons se_int sa_nil))))))))
      (sl_seq (sl_of (ss_asg (se_has (sa_cons se_var (sa_cons se_int (sa_cons se_var (sa_cons se_var (sa_cons se_int sa_nil))))))))
      (sl_seq (sl_of (ss_asg (se_and (se_op os_eq se_var (se_op os_ix se_var se_int)) (se_op os_eq se_var (se_m1 ms_join se_str (se_lc (si_any (se_op os_ix se_var se_int)) (sg_tup (sgs_cons sg_name (sgs_cons sg_name sgs_nil))) (fun _ h => h) st_yes se_var))))))
      (sl_of (ss_ret (se_and (se_has (sa_cons (se_has (sa_cons se_var (sa_cons se_var sa_nil))) (sa_cons se_var sa_nil))) (se_has (sa_cons (se_has (sa_cons se_var (sa_cons se_var sa_nil))) (sa_cons se_bl sa_nil))))))))))))))))))))))⟩
end My
end
noncomputable section
namespace My
open PySem L2 VL
theorem mix_ex (ns : List Int) (h : ns.length ≤ 63) (k : Int) (h0 : 0 ≤ k) (h1 : k ≤ 1000) : ∃ m : Int, 0 ≤ m ∧ den_law_mix [.scr ns, .int k] = .ok false (.int m) := by
  have main : wpF (den_law_mix [.scr ns, .int k]) (fun c d => c = false ∧ ∃ m : Int, 0 ≤ m ∧ d = .int m) fun _ => False := by
    unfold den_law_mix
    rw [wpF_denOf (Γ := [.sh (.scr ns), .sh (.int k), .no, .no, .no]) rfl]
    simp only [bd_law_mix, FinK_nx, FinK_ret, FinK_exc, Nxt_nx, Nxt_ret, Nxt_brk, Nxt_cnt, Nxt_exc, wpE_ok, wpE_exc, wpE_bad, wpL_ok, wpI_ok, wpO_ok, wpF_ok, wpF_exc, wpS_nx, wpS_ret, wpS_brk, wpS_cnt, wpS_exc, wpS_bad, wpB_bl, wp_v0sh, wp_v0ow, wp_v1sh, wp_v1ow, wp_v2sh, wp_v2ow, wp_v3sh, wp_v3ow, wp_v4sh, wp_v4ow, wp_v5sh, wp_v5ow, wp_v6sh, wp_v6ow, wp_v7sh, wp_v7ow, wp_v8sh, wp_v8ow, wp_v9sh, wp_v9ow, wp_v10sh, wp_v10ow, wp_v11sh, wp_v11ow, wp_v12sh, wp_v12ow, wp_v13sh, wp_v13ow, wp_v14sh, wp_v14ow, wp_v15sh, wp_v15ow, wp_v16sh, wp_v16ow, wp_v17sh, wp_v17ow, wp_v18sh, wp_v18ow, wp_v19sh, wp_v19ow, wp_v20sh, wp_v20ow, wp_v21sh, wp_v21ow, wp_v22sh, wp_v22ow, wp_v23sh, wp_v23ow, wp_v24sh, wp_v24ow, wp_v25sh, wp_v25ow, wp_c, wp_op2, wp_op1, wp_and, wp_or, wp_not, wp_if, wp_chain, wp_nil, wp_cons, wp_tup, wp_lst, wp_callB, wp_call1, wp_call2, wp_callD, wp_sl, wp_noPart, wpInt_int, wp_part, wpStr_str, wp_m1, wp_seq, wp_next, wp_brk, wp_cnt, wp_never, wp_asg, wp_asgO, wp_drop, wp_ret, wp_ifS, wp_asgT, wp_app, wp_clear, wp_clrFor, wp_thru, wp_iter, wp_rng1, wp_rng2, wp_enum, wp_zip, one1_1, one2_2, wp_rng1V, wp_rng2V, wp_enumV, wp_zipT, wp_zipLL, wp_add, wp_sub, wp_mul, wp_fdiv, wp_mod, wp_pow, wp_lt, wp_le, wp_gt, wp_ge, wp_eqI, wp_neI, wp_eqS, wp_neS, SX.S_len, S_cps, wp_ixT, wp_ixL, wp_ixN, wp_ixS, atI_0, atI_1, atI_2, wp_lenL, wp_lenT, wp_lenN, wp_lenS, wp_tupL, wp_tupT, wp_lstL, wp_lstT, wp_intI, wp_intB, wpT_name, wpT_tup, wpT_cons, wpT_nil, ownL, List.getElem?_cons_zero, List.getElem?_cons_succ, List.set_cons_zero, List.set_cons_succ, List.length_cons, List.length_nil, List.map_cons, List.map_nil, plainL, wipeD, reduceCtorEq, if_true, if_false, decide_true, decide_false, decide_eq_true_eq, Bool.and_true, Bool.true_and, Bool.not_true, Bool.not_false, Bool.not_eq_true', decide_eq_false_iff_not, Bool.false_eq_true, not_true_eq_false, not_false_eq_true, ne_eq, eq_self, and_self, and_true, true_and, D.imm, immL, kidsImm, Option.some.injEq, exists_eq_left', Nat.zero_add, Nat.reduceAdd, Nat.reduceLeDiff, Nat.reduceLT, Int.reduceLT, Int.reduceLE, Int.reduceNeg, Int.reducePow, Int.reduceAdd, Int.reduceMul, Int.reduceSub, Int.reduceToNat, Int.reduceEq, D.int.injEq, D.bl.injEq, Bool.false_eq, Bool.not_eq_eq_eq_not, true_or, or_true, false_or, or_false, Bool.and_false, Bool.false_and]
    have hz : ∀ a b : Int, 0 < b → 0 ≤ a % b := fun a b hb => Int.emod_nonneg a (by omega)
    have hl : ∀ a b : Int, 0 < b → a % b < b := fun a b hb => Int.emod_lt_of_pos a hb
    split
    · exact ⟨by omega, _, hz _ _ (by decide), rfl⟩
    · have e1 : 0 < (ns.length : Int) := by omega
      have l1 := hl k ns.length e1
      have z1 := hz k ns.length e1
      refine ⟨e1, _, atI_nat z1 (by omega), ?_⟩
      split
      · refine ⟨_, atI_nat (by omega) (by omega), ?_⟩
        split
        · have e2 : 0 < (ns.length : Int) - 1 := by omega
          have l2 := hl k (ns.length - 1) e2
          have z2 := hz k (ns.length - 1) e2
          refine ⟨e2, _, atI_nat (by omega) (by omega), ?_⟩
          refine wp_for (fun n Γ => ∃ (x : Int) (z : Slot), Γ = [.sh (.scr ns), .sh (.int k), .sh (.int ns[(k % (ns.length : Int)).toNat]), .sh (.int x), z]) ?_
          simp only [FinK_nx, FinK_ret, FinK_exc, Nxt_nx, Nxt_ret, Nxt_brk, Nxt_cnt, Nxt_exc, wpE_ok, wpE_exc, wpE_bad, wpL_ok, wpI_ok, wpO_ok, wpF_ok, wpF_exc, wpS_nx, wpS_ret, wpS_brk, wpS_cnt, wpS_exc, wpS_bad, wpB_bl, wp_v0sh, wp_v0ow, wp_v1sh, wp_v1ow, wp_v2sh, wp_v2ow, wp_v3sh, wp_v3ow, wp_v4sh, wp_v4ow, wp_v5sh, wp_v5ow, wp_v6sh, wp_v6ow, wp_v7sh, wp_v7ow, wp_v8sh, wp_v8ow, wp_v9sh, wp_v9ow, wp_v10sh, wp_v10ow, wp_v11sh, wp_v11ow, wp_v12sh, wp_v12ow, wp_v13sh, wp_v13ow, wp_v14sh, wp_v14ow, wp_v15sh, wp_v15ow, wp_v16sh, wp_v16ow, wp_v17sh, wp_v17ow, wp_v18sh, wp_v18ow, wp_v19sh, wp_v19ow, wp_v20sh, wp_v20ow, wp_v21sh, wp_v21ow, wp_v22sh, wp_v22ow, wp_v23sh, wp_v23ow, wp_v24sh, wp_v24ow, wp_v25sh, wp_v25ow, wp_c, wp_op2, wp_op1, wp_and, wp_or, wp_not, wp_if, wp_chain, wp_nil, wp_cons, wp_tup, wp_lst, wp_callB, wp_call1, wp_call2, wp_callD, wp_sl, wp_noPart, wpInt_int, wp_part, wpStr_str, wp_m1, wp_seq, wp_next, wp_brk, wp_cnt, wp_never, wp_asg, wp_asgO, wp_drop, wp_ret, wp_ifS, wp_asgT, wp_app, wp_clear, wp_clrFor, wp_thru, wp_iter, wp_rng1, wp_rng2, wp_enum, wp_zip, one1_1, one2_2, wp_rng1V, wp_rng2V, wp_enumV, wp_zipT, wp_zipLL, wp_add, wp_sub, wp_mul, wp_fdiv, wp_mod, wp_pow, wp_lt, wp_le, wp_gt, wp_ge, wp_eqI, wp_neI, wp_eqS, wp_neS, SX.S_len, S_cps, wp_ixT, wp_ixL, wp_ixN, wp_ixS, atI_0, atI_1, atI_2, wp_lenL, wp_lenT, wp_lenN, wp_lenS, wp_tupL, wp_tupT, wp_lstL, wp_lstT, wp_intI, wp_intB, wpT_name, wpT_tup, wpT_cons, wpT_nil, ownL, List.getElem?_cons_zero, List.getElem?_cons_succ, List.set_cons_zero, List.set_cons_succ, List.length_cons, List.length_nil, List.map_cons, List.map_nil, plainL, wipeD, reduceCtorEq, if_true, if_false, decide_true, decide_false, decide_eq_true_eq, Bool.and_true, Bool.true_and, Bool.not_true, Bool.not_false, Bool.not_eq_true', decide_eq_false_iff_not, Bool.false_eq_true, not_true_eq_false, not_false_eq_true, ne_eq, eq_self, and_self, and_true, true_and, D.imm, immL, kidsImm, Option.some.injEq, exists_eq_left', Nat.zero_add, Nat.reduceAdd, Nat.reduceLeDiff, Nat.reduceLT, Int.reduceLT, Int.reduceLE, Int.reduceNeg, Int.reducePow, Int.reduceAdd, Int.reduceMul, Int.reduceSub, Int.reduceToNat, Int.reduceEq, D.int.injEq, D.bl.injEq, Bool.false_eq, Bool.not_eq_eq_eq_not, true_or, or_true, false_or, or_false, Bool.and_false, Bool.false_and]
          refine ⟨⟨e2, by omega⟩, ?_, ⟨_, _, rfl⟩, ?_, ?_⟩
          · have : 0 ≤ k / ((ns.length : Int) - 1) := Int.ediv_nonneg h0 (by omega)
            have : k / ((ns.length : Int) - 1) ≤ k := Int.ediv_le_self _ h0
            omega
          · rintro n Γ d ⟨x, z, rfl⟩ hd
            obtain ⟨_, rfl⟩ := rngL_get hd
            simp only [FinK_nx, FinK_ret, FinK_exc, Nxt_nx, Nxt_ret, Nxt_brk, Nxt_cnt, Nxt_exc, wpE_ok, wpE_exc, wpE_bad, wpL_ok, wpI_ok, wpO_ok, wpF_ok, wpF_exc, wpS_nx, wpS_ret, wpS_brk, wpS_cnt, wpS_exc, wpS_bad, wpB_bl, wp_v0sh, wp_v0ow, wp_v1sh, wp_v1ow, wp_v2sh, wp_v2ow, wp_v3sh, wp_v3ow, wp_v4sh, wp_v4ow, wp_v5sh, wp_v5ow, wp_v6sh, wp_v6ow, wp_v7sh, wp_v7ow, wp_v8sh, wp_v8ow, wp_v9sh, wp_v9ow, wp_v10sh, wp_v10ow, wp_v11sh, wp_v11ow, wp_v12sh, wp_v12ow, wp_v13sh, wp_v13ow, wp_v14sh, wp_v14ow, wp_v15sh, wp_v15ow, wp_v16sh, wp_v16ow, wp_v17sh, wp_v17ow, wp_v18sh, wp_v18ow, wp_v19sh, wp_v19ow, wp_v20sh, wp_v20ow, wp_v21sh, wp_v21ow, wp_v22sh, wp_v22ow, wp_v23sh, wp_v23ow, wp_v24sh, wp_v24ow, wp_v25sh, wp_v25ow, wp_c, wp_op2, wp_op1, wp_and, wp_or, wp_not, wp_if, wp_chain, wp_nil, wp_cons, wp_tup, wp_lst, wp_callB, wp_call1, wp_call2, wp_callD, wp_sl, wp_noPart, wpInt_int, wp_part, wpStr_str, wp_m1, wp_seq, wp_next, wp_brk, wp_cnt, wp_never, wp_asg, wp_asgO, wp_drop, wp_ret, wp_ifS, wp_asgT, wp_app, wp_clear, wp_clrFor, wp_thru, wp_iter, wp_rng1, wp_rng2, wp_enum, wp_zip, one1_1, one2_2, wp_rng1V, wp_rng2V, wp_enumV, wp_zipT, wp_zipLL, wp_add, wp_sub, wp_mul, wp_fdiv, wp_mod, wp_pow, wp_lt, wp_le, wp_gt, wp_ge, wp_eqI, wp_neI, wp_eqS, wp_neS, SX.S_len, S_cps, wp_ixT, wp_ixL, wp_ixN, wp_ixS, atI_0, atI_1, atI_2, wp_lenL, wp_lenT, wp_lenN, wp_lenS, wp_tupL, wp_tupT, wp_lstL, wp_lstT, wp_intI, wp_intB, wpT_name, wpT_tup, wpT_cons, wpT_nil, ownL, List.getElem?_cons_zero, List.getElem?_cons_succ, List.set_cons_zero, List.set_cons_succ, List.length_cons, List.length_nil, List.map_cons, List.map_nil, plainL, wipeD, reduceCtorEq, if_true, if_false, decide_true, decide_false, decide_eq_true_eq, Bool.and_true, Bool.true_and, Bool.not_true, Bool.not_false, Bool.not_eq_true', decide_eq_false_iff_not, Bool.false_eq_true, not_true_eq_false, not_false_eq_true, ne_eq, eq_self, and_self, and_true, true_and, D.imm, immL, kidsImm, Option.some.injEq, exists_eq_left', Nat.zero_add, Nat.reduceAdd, Nat.reduceLeDiff, Nat.reduceLT, Int.reduceLT, Int.reduceLE, Int.reduceNeg, Int.reducePow, Int.reduceAdd, Int.reduceMul, Int.reduceSub, Int.reduceToNat, Int.reduceEq, D.int.injEq, D.bl.injEq, Bool.false_eq, Bool.not_eq_eq_eq_not, true_or, or_true, false_or, or_false, Bool.and_false, Bool.false_and]
            exact ⟨_, _, rfl⟩
          · rintro Γ ⟨x, z, rfl⟩
            simp only [FinK_nx, FinK_ret, FinK_exc, Nxt_nx, Nxt_ret, Nxt_brk, Nxt_cnt, Nxt_exc, wpE_ok, wpE_exc, wpE_bad, wpL_ok, wpI_ok, wpO_ok, wpF_ok, wpF_exc, wpS_nx, wpS_ret, wpS_brk, wpS_cnt, wpS_exc, wpS_bad, wpB_bl, wp_v0sh, wp_v0ow, wp_v1sh, wp_v1ow, wp_v2sh, wp_v2ow, wp_v3sh, wp_v3ow, wp_v4sh, wp_v4ow, wp_v5sh, wp_v5ow, wp_v6sh, wp_v6ow, wp_v7sh, wp_v7ow, wp_v8sh, wp_v8ow, wp_v9sh, wp_v9ow, wp_v10sh, wp_v10ow, wp_v11sh, wp_v11ow, wp_v12sh, wp_v12ow, wp_v13sh, wp_v13ow, wp_v14sh, wp_v14ow, wp_v15sh, wp_v15ow, wp_v16sh, wp_v16ow, wp_v17sh, wp_v17ow, wp_v18sh, wp_v18ow, wp_v19sh, wp_v19ow, wp_v20sh, wp_v20ow, wp_v21sh, wp_v21ow, wp_v22sh, wp_v22ow, wp_v23sh, wp_v23ow, wp_v24sh, wp_v24ow, wp_v25sh, wp_v25ow, wp_c, wp_op2, wp_op1, wp_and, wp_or, wp_not, wp_if, wp_chain, wp_nil, wp_cons, wp_tup, wp_lst, wp_callB, wp_call1, wp_call2, wp_callD, wp_sl, wp_noPart, wpInt_int, wp_part, wpStr_str, wp_m1, wp_seq, wp_next, wp_brk, wp_cnt, wp_never, wp_asg, wp_asgO, wp_drop, wp_ret, wp_ifS, wp_asgT, wp_app, wp_clear, wp_clrFor, wp_thru, wp_iter, wp_rng1, wp_rng2, wp_enum, wp_zip, one1_1, one2_2, wp_rng1V, wp_rng2V, wp_enumV, wp_zipT, wp_zipLL, wp_add, wp_sub, wp_mul, wp_fdiv, wp_mod, wp_pow, wp_lt, wp_le, wp_gt, wp_ge, wp_eqI, wp_neI, wp_eqS, wp_neS, SX.S_len, S_cps, wp_ixT, wp_ixL, wp_ixN, wp_ixS, atI_0, atI_1, atI_2, wp_lenL, wp_lenT, wp_lenN, wp_lenS, wp_tupL, wp_tupT, wp_lstL, wp_lstT, wp_intI, wp_intB, wpT_name, wpT_tup, wpT_cons, wpT_nil, ownL, List.getElem?_cons_zero, List.getElem?_cons_succ, List.set_cons_zero, List.set_cons_succ, List.length_cons, List.length_nil, List.map_cons, List.map_nil, plainL, wipeD, reduceCtorEq, if_true, if_false, decide_true, decide_false, decide_eq_true_eq, Bool.and_true, Bool.true_and, Bool.not_true, Bool.not_false, Bool.not_eq_true', decide_eq_false_iff_not, Bool.false_eq_true, not_true_eq_false, not_false_eq_true, ne_eq, eq_self, and_self, and_true, true_and, D.imm, immL, kidsImm, Option.some.injEq, exists_eq_left', Nat.zero_add, Nat.reduceAdd, Nat.reduceLeDiff, Nat.reduceLT, Int.reduceLT, Int.reduceLE, Int.reduceNeg, Int.reducePow, Int.reduceAdd, Int.reduceMul, Int.reduceSub, Int.reduceToNat, Int.reduceEq, D.int.injEq, D.bl.injEq, Bool.false_eq, Bool.not_eq_eq_eq_not, true_or, or_true, false_or, or_false, Bool.and_false, Bool.false_and]
            exact ⟨_, hz _ _ (by decide), rfl⟩
        · exact ⟨by omega, _, hz _ _ (by decide), rfl⟩
      · exact ⟨by omega, _, hz _ _ (by decide), rfl⟩
  obtain ⟨c, d, e, rfl, m, hm, rfl⟩ := wpF_ex main
  exact ⟨m, hm, e⟩
/-- what a script gives at k -/
def mixV (ns : List Int) (k : Int) : Int := match den_law_mix [.scr ns, .int k] with | .ok _ (.int m) => m | _ => 0
theorem mix_eq {ns : List Int} (h : ns.length ≤ 63) {k : Int} (h0 : 0 ≤ k) (h1 : k ≤ 1000) : den_law_mix [.scr ns, .int k] = .ok false (.int (mixV ns k)) := by
  obtain ⟨m, _, e⟩ := mix_ex ns h k h0 h1
  unfold mixV
  rw [e]
theorem mix_nn {ns : List Int} (h : ns.length ≤ 63) {k : Int} (h0 : 0 ≤ k) (h1 : k ≤ 1000) : 0 ≤ mixV ns k := by
  obtain ⟨m, z, e⟩ := mix_ex ns h k h0 h1
  unfold mixV
  rw [e]
  exact z
theorem wp_mix {ns : List Int} (h : ns.length ≤ 63) {k : Int} (h0 : 0 ≤ k) (h1 : k ≤ 1000) {QF : Bool → D → Prop} {X : Exn → Prop} : wpF (den_law_mix [.scr ns, .int k]) QF X = QF false (.int (mixV ns k)) := by
  rw [mix_eq h h0 h1]
  rfl
open SX (S)
def IsWay (c : Nat) : Prop := c = 114 ∨ c = 108
theorem ways_ex (cell : Int) (h : 0 ≤ cell) : ∃ cs : List Nat, cs.length ≤ 5 ∧ (∀ c ∈ cs, IsWay c) ∧ den_law_ways [.int cell] = .ok false (.str (S cs)) := by
  have main : wpF (den_law_ways [.int cell]) (fun c d => c = false ∧ ∃ cs : List Nat, cs.length ≤ 5 ∧ (∀ c ∈ cs, IsWay c) ∧ d = .str (S cs)) fun _ => False := by
    unfold den_law_ways
    rw [wpF_denOf (Γ := [.sh (.int cell), .no, .no]) rfl]
    simp only [bd_law_ways, FinK_nx, FinK_ret, FinK_exc, Nxt_nx, Nxt_ret, Nxt_brk, Nxt_cnt, Nxt_exc, wpE_ok, wpE_exc, wpE_bad, wpL_ok, wpI_ok, wpO_ok, wpF_ok, wpF_exc, wpS_nx, wpS_ret, wpS_brk, wpS_cnt, wpS_exc, wpS_bad, wpB_bl, wp_v0sh, wp_v0ow, wp_v1sh, wp_v1ow, wp_v2sh, wp_v2ow, wp_v3sh, wp_v3ow, wp_v4sh, wp_v4ow, wp_v5sh, wp_v5ow, wp_v6sh, wp_v6ow, wp_v7sh, wp_v7ow, wp_v8sh, wp_v8ow, wp_v9sh, wp_v9ow, wp_v10sh, wp_v10ow, wp_v11sh, wp_v11ow, wp_v12sh, wp_v12ow, wp_v13sh, wp_v13ow, wp_v14sh, wp_v14ow, wp_v15sh, wp_v15ow, wp_v16sh, wp_v16ow, wp_v17sh, wp_v17ow, wp_v18sh, wp_v18ow, wp_v19sh, wp_v19ow, wp_v20sh, wp_v20ow, wp_v21sh, wp_v21ow, wp_v22sh, wp_v22ow, wp_v23sh, wp_v23ow, wp_v24sh, wp_v24ow, wp_v25sh, wp_v25ow, wp_c, wp_op2, wp_op1, wp_and, wp_or, wp_not, wp_if, wp_chain, wp_nil, wp_cons, wp_tup, wp_lst, wp_callB, wp_call1, wp_call2, wp_callD, wp_sl, wp_noPart, wpInt_int, wp_part, wpStr_str, wp_m1, wp_seq, wp_next, wp_brk, wp_cnt, wp_never, wp_asg, wp_asgO, wp_drop, wp_ret, wp_ifS, wp_asgT, wp_app, wp_clear, wp_clrFor, wp_thru, wp_iter, wp_rng1, wp_rng2, wp_enum, wp_zip, one1_1, one2_2, wp_rng1V, wp_rng2V, wp_enumV, wp_zipT, wp_zipLL, wp_add, wp_sub, wp_mul, wp_fdiv, wp_mod, wp_pow, wp_lt, wp_le, wp_gt, wp_ge, wp_eqI, wp_neI, wp_eqS, wp_neS, SX.S_len, S_cps, wp_ixT, wp_ixL, wp_ixN, wp_ixS, atI_0, atI_1, atI_2, wp_lenL, wp_lenT, wp_lenN, wp_lenS, wp_tupL, wp_tupT, wp_lstL, wp_lstT, wp_intI, wp_intB, wpT_name, wpT_tup, wpT_cons, wpT_nil, ownL, List.getElem?_cons_zero, List.getElem?_cons_succ, List.set_cons_zero, List.set_cons_succ, List.length_cons, List.length_nil, List.map_cons, List.map_nil, plainL, wipeD, reduceCtorEq, if_true, if_false, decide_true, decide_false, decide_eq_true_eq, Bool.and_true, Bool.true_and, Bool.not_true, Bool.not_false, Bool.not_eq_true', decide_eq_false_iff_not, Bool.false_eq_true, not_true_eq_false, not_false_eq_true, ne_eq, eq_self, and_self, and_true, true_and, D.imm, immL, kidsImm, Option.some.injEq, exists_eq_left', Nat.zero_add, Nat.reduceAdd, Nat.reduceLeDiff, Nat.reduceLT, Int.reduceLT, Int.reduceLE, Int.reduceNeg, Int.reducePow, Int.reduceAdd, Int.reduceMul, Int.reduceSub, Int.reduceToNat, Int.reduceEq, D.int.injEq, D.bl.injEq, Bool.false_eq, Bool.not_eq_eq_eq_not, true_or, or_true, false_or, or_false, Bool.and_false, Bool.false_and]
    rw [lit_nil]
    refine wp_lcR (fun _ _ x => ∃ c, IsWay c ∧ x = .str (S [c])) ?_
    have hz : 0 ≤ cell % 6 := Int.emod_nonneg _ (by decide)
    have hl : cell % 6 < 6 := Int.emod_lt_of_pos _ (by decide)
    simp only [FinK_nx, FinK_ret, FinK_exc, Nxt_nx, Nxt_ret, Nxt_brk, Nxt_cnt, Nxt_exc, wpE_ok, wpE_exc, wpE_bad, wpL_ok, wpI_ok, wpO_ok, wpF_ok, wpF_exc, wpS_nx, wpS_ret, wpS_brk, wpS_cnt, wpS_exc, wpS_bad, wpB_bl, wp_v0sh, wp_v0ow, wp_v1sh, wp_v1ow, wp_v2sh, wp_v2ow, wp_v3sh, wp_v3ow, wp_v4sh, wp_v4ow, wp_v5sh, wp_v5ow, wp_v6sh, wp_v6ow, wp_v7sh, wp_v7ow, wp_v8sh, wp_v8ow, wp_v9sh, wp_v9ow, wp_v10sh, wp_v10ow, wp_v11sh, wp_v11ow, wp_v12sh, wp_v12ow, wp_v13sh, wp_v13ow, wp_v14sh, wp_v14ow, wp_v15sh, wp_v15ow, wp_v16sh, wp_v16ow, wp_v17sh, wp_v17ow, wp_v18sh, wp_v18ow, wp_v19sh, wp_v19ow, wp_v20sh, wp_v20ow, wp_v21sh, wp_v21ow, wp_v22sh, wp_v22ow, wp_v23sh, wp_v23ow, wp_v24sh, wp_v24ow, wp_v25sh, wp_v25ow, wp_c, wp_op2, wp_op1, wp_and, wp_or, wp_not, wp_if, wp_chain, wp_nil, wp_cons, wp_tup, wp_lst, wp_callB, wp_call1, wp_call2, wp_callD, wp_sl, wp_noPart, wpInt_int, wp_part, wpStr_str, wp_m1, wp_seq, wp_next, wp_brk, wp_cnt, wp_never, wp_asg, wp_asgO, wp_drop, wp_ret, wp_ifS, wp_asgT, wp_app, wp_clear, wp_clrFor, wp_thru, wp_iter, wp_rng1, wp_rng2, wp_enum, wp_zip, one1_1, one2_2, wp_rng1V, wp_rng2V, wp_enumV, wp_zipT, wp_zipLL, wp_add, wp_sub, wp_mul, wp_fdiv, wp_mod, wp_pow, wp_lt, wp_le, wp_gt, wp_ge, wp_eqI, wp_neI, wp_eqS, wp_neS, SX.S_len, S_cps, wp_ixT, wp_ixL, wp_ixN, wp_ixS, atI_0, atI_1, atI_2, wp_lenL, wp_lenT, wp_lenN, wp_lenS, wp_tupL, wp_tupT, wp_lstL, wp_lstT, wp_intI, wp_intB, wpT_name, wpT_tup, wpT_cons, wpT_nil, ownL, List.getElem?_cons_zero, List.getElem?_cons_succ, List.set_cons_zero, List.set_cons_succ, List.length_cons, List.length_nil, List.map_cons, List.map_nil, plainL, wipeD, reduceCtorEq, if_true, if_false, decide_true, decide_false, decide_eq_true_eq, Bool.and_true, Bool.true_and, Bool.not_true, Bool.not_false, Bool.not_eq_true', decide_eq_false_iff_not, Bool.false_eq_true, not_true_eq_false, not_false_eq_true, ne_eq, eq_self, and_self, and_true, true_and, D.imm, immL, kidsImm, Option.some.injEq, exists_eq_left', Nat.zero_add, Nat.reduceAdd, Nat.reduceLeDiff, Nat.reduceLT, Int.reduceLT, Int.reduceLE, Int.reduceNeg, Int.reducePow, Int.reduceAdd, Int.reduceMul, Int.reduceSub, Int.reduceToNat, Int.reduceEq, D.int.injEq, D.bl.injEq, Bool.false_eq, Bool.not_eq_eq_eq_not, true_or, or_true, false_or, or_false, Bool.and_false, Bool.false_and]
    refine ⟨by omega, fun i d hd => ?_, fun xs hl2 hx => ?_⟩
    · obtain ⟨hi, rfl⟩ := rngL_get hd
      simp only [FinK_nx, FinK_ret, FinK_exc, Nxt_nx, Nxt_ret, Nxt_brk, Nxt_cnt, Nxt_exc, wpE_ok, wpE_exc, wpE_bad, wpL_ok, wpI_ok, wpO_ok, wpF_ok, wpF_exc, wpS_nx, wpS_ret, wpS_brk, wpS_cnt, wpS_exc, wpS_bad, wpB_bl, wp_v0sh, wp_v0ow, wp_v1sh, wp_v1ow, wp_v2sh, wp_v2ow, wp_v3sh, wp_v3ow, wp_v4sh, wp_v4ow, wp_v5sh, wp_v5ow, wp_v6sh, wp_v6ow, wp_v7sh, wp_v7ow, wp_v8sh, wp_v8ow, wp_v9sh, wp_v9ow, wp_v10sh, wp_v10ow, wp_v11sh, wp_v11ow, wp_v12sh, wp_v12ow, wp_v13sh, wp_v13ow, wp_v14sh, wp_v14ow, wp_v15sh, wp_v15ow, wp_v16sh, wp_v16ow, wp_v17sh, wp_v17ow, wp_v18sh, wp_v18ow, wp_v19sh, wp_v19ow, wp_v20sh, wp_v20ow, wp_v21sh, wp_v21ow, wp_v22sh, wp_v22ow, wp_v23sh, wp_v23ow, wp_v24sh, wp_v24ow, wp_v25sh, wp_v25ow, wp_c, wp_op2, wp_op1, wp_and, wp_or, wp_not, wp_if, wp_chain, wp_nil, wp_cons, wp_tup, wp_lst, wp_callB, wp_call1, wp_call2, wp_callD, wp_sl, wp_noPart, wpInt_int, wp_part, wpStr_str, wp_m1, wp_seq, wp_next, wp_brk, wp_cnt, wp_never, wp_asg, wp_asgO, wp_drop, wp_ret, wp_ifS, wp_asgT, wp_app, wp_clear, wp_clrFor, wp_thru, wp_iter, wp_rng1, wp_rng2, wp_enum, wp_zip, one1_1, one2_2, wp_rng1V, wp_rng2V, wp_enumV, wp_zipT, wp_zipLL, wp_add, wp_sub, wp_mul, wp_fdiv, wp_mod, wp_pow, wp_lt, wp_le, wp_gt, wp_ge, wp_eqI, wp_neI, wp_eqS, wp_neS, SX.S_len, S_cps, wp_ixT, wp_ixL, wp_ixN, wp_ixS, atI_0, atI_1, atI_2, wp_lenL, wp_lenT, wp_lenN, wp_lenS, wp_tupL, wp_tupT, wp_lstL, wp_lstT, wp_intI, wp_intB, wpT_name, wpT_tup, wpT_cons, wpT_nil, ownL, List.getElem?_cons_zero, List.getElem?_cons_succ, List.set_cons_zero, List.set_cons_succ, List.length_cons, List.length_nil, List.map_cons, List.map_nil, plainL, wipeD, reduceCtorEq, if_true, if_false, decide_true, decide_false, decide_eq_true_eq, Bool.and_true, Bool.true_and, Bool.not_true, Bool.not_false, Bool.not_eq_true', decide_eq_false_iff_not, Bool.false_eq_true, not_true_eq_false, not_false_eq_true, ne_eq, eq_self, and_self, and_true, true_and, D.imm, immL, kidsImm, Option.some.injEq, exists_eq_left', Nat.zero_add, Nat.reduceAdd, Nat.reduceLeDiff, Nat.reduceLT, Int.reduceLT, Int.reduceLE, Int.reduceNeg, Int.reducePow, Int.reduceAdd, Int.reduceMul, Int.reduceSub, Int.reduceToNat, Int.reduceEq, D.int.injEq, D.bl.injEq, Bool.false_eq, Bool.not_eq_eq_eq_not, true_or, or_true, false_or, or_false, Bool.and_false, Bool.false_and]
      have hi5 : i < 5 := by omega
      have ga : ∃ b : Int, atI [D.int 6, D.int 12, D.int 24, D.int 48, D.int 96] (0 + (i : Int)) = some (.int b) ∧ 0 < b ∧ b < 1073741824 := by
        rcases (by omega : i = 0 ∨ i = 1 ∨ i = 2 ∨ i = 3 ∨ i = 4) with rfl | rfl | rfl | rfl | rfl
        · exact ⟨6, rfl, by decide, by decide⟩
        · exact ⟨12, rfl, by decide, by decide⟩
        · exact ⟨24, rfl, by decide, by decide⟩
        · exact ⟨48, rfl, by decide, by decide⟩
        · exact ⟨96, rfl, by decide, by decide⟩
      obtain ⟨b, h1, h2, h3⟩ := ga
      refine ⟨_, h1, ?_⟩
      simp only [FinK_nx, FinK_ret, FinK_exc, Nxt_nx, Nxt_ret, Nxt_brk, Nxt_cnt, Nxt_exc, wpE_ok, wpE_exc, wpE_bad, wpL_ok, wpI_ok, wpO_ok, wpF_ok, wpF_exc, wpS_nx, wpS_ret, wpS_brk, wpS_cnt, wpS_exc, wpS_bad, wpB_bl, wp_v0sh, wp_v0ow, wp_v1sh, wp_v1ow, wp_v2sh, wp_v2ow, wp_v3sh, wp_v3ow, wp_v4sh, wp_v4ow, wp_v5sh, wp_v5ow, wp_v6sh, wp_v6ow, wp_v7sh, wp_v7ow, wp_v8sh, wp_v8ow, wp_v9sh, wp_v9ow, wp_v10sh, wp_v10ow, wp_v11sh, wp_v11ow, wp_v12sh, wp_v12ow, wp_v13sh, wp_v13ow, wp_v14sh, wp_v14ow, wp_v15sh, wp_v15ow, wp_v16sh, wp_v16ow, wp_v17sh, wp_v17ow, wp_v18sh, wp_v18ow, wp_v19sh, wp_v19ow, wp_v20sh, wp_v20ow, wp_v21sh, wp_v21ow, wp_v22sh, wp_v22ow, wp_v23sh, wp_v23ow, wp_v24sh, wp_v24ow, wp_v25sh, wp_v25ow, wp_c, wp_op2, wp_op1, wp_and, wp_or, wp_not, wp_if, wp_chain, wp_nil, wp_cons, wp_tup, wp_lst, wp_callB, wp_call1, wp_call2, wp_callD, wp_sl, wp_noPart, wpInt_int, wp_part, wpStr_str, wp_m1, wp_seq, wp_next, wp_brk, wp_cnt, wp_never, wp_asg, wp_asgO, wp_drop, wp_ret, wp_ifS, wp_asgT, wp_app, wp_clear, wp_clrFor, wp_thru, wp_iter, wp_rng1, wp_rng2, wp_enum, wp_zip, one1_1, one2_2, wp_rng1V, wp_rng2V, wp_enumV, wp_zipT, wp_zipLL, wp_add, wp_sub, wp_mul, wp_fdiv, wp_mod, wp_pow, wp_lt, wp_le, wp_gt, wp_ge, wp_eqI, wp_neI, wp_eqS, wp_neS, SX.S_len, S_cps, wp_ixT, wp_ixL, wp_ixN, wp_ixS, atI_0, atI_1, atI_2, wp_lenL, wp_lenT, wp_lenN, wp_lenS, wp_tupL, wp_tupT, wp_lstL, wp_lstT, wp_intI, wp_intB, wpT_name, wpT_tup, wpT_cons, wpT_nil, ownL, List.getElem?_cons_zero, List.getElem?_cons_succ, List.set_cons_zero, List.set_cons_succ, List.length_cons, List.length_nil, List.map_cons, List.map_nil, plainL, wipeD, reduceCtorEq, if_true, if_false, decide_true, decide_false, decide_eq_true_eq, Bool.and_true, Bool.true_and, Bool.not_true, Bool.not_false, Bool.not_eq_true', decide_eq_false_iff_not, Bool.false_eq_true, not_true_eq_false, not_false_eq_true, ne_eq, eq_self, and_self, and_true, true_and, D.imm, immL, kidsImm, Option.some.injEq, exists_eq_left', Nat.zero_add, Nat.reduceAdd, Nat.reduceLeDiff, Nat.reduceLT, Int.reduceLT, Int.reduceLE, Int.reduceNeg, Int.reducePow, Int.reduceAdd, Int.reduceMul, Int.reduceSub, Int.reduceToNat, Int.reduceEq, D.int.injEq, D.bl.injEq, Bool.false_eq, Bool.not_eq_eq_eq_not, true_or, or_true, false_or, or_false, Bool.and_false, Bool.false_and]
      rw [lit_rl]
      refine ⟨⟨h2, h3⟩, by decide, ?_⟩
      generalize cell / b = q
      rcases (by omega : q % 2 = 0 ∨ q % 2 = 1) with e | e
      · rw [e]
        exact ⟨114, rfl, 114, .inl rfl, rfl⟩
      · rw [e]
        exact ⟨108, rfl, 108, .inr rfl, rfl⟩
    · rw [rngL_len] at hl2
      obtain ⟨cs, rfl, hc⟩ := ex_map (xs := xs) (f := fun c => D.str (S [c])) (P := IsWay) fun x hx1 => by
        obtain ⟨i, hi, rfl⟩ := List.getElem_of_mem hx1
        exact hx i _ _ (List.getElem?_eq_getElem (by rw [rngL_len, ← hl2]; exact hi)) (List.getElem?_eq_getElem hi)
      rw [List.length_map] at hl2
      rw [wp_joinChars cs (by omega)]
      simp only [FinK_nx, FinK_ret, FinK_exc, Nxt_nx, Nxt_ret, Nxt_brk, Nxt_cnt, Nxt_exc, wpE_ok, wpE_exc, wpE_bad, wpL_ok, wpI_ok, wpO_ok, wpF_ok, wpF_exc, wpS_nx, wpS_ret, wpS_brk, wpS_cnt, wpS_exc, wpS_bad, wpB_bl, wp_v0sh, wp_v0ow, wp_v1sh, wp_v1ow, wp_v2sh, wp_v2ow, wp_v3sh, wp_v3ow, wp_v4sh, wp_v4ow, wp_v5sh, wp_v5ow, wp_v6sh, wp_v6ow, wp_v7sh, wp_v7ow, wp_v8sh, wp_v8ow, wp_v9sh, wp_v9ow, wp_v10sh, wp_v10ow, wp_v11sh, wp_v11ow, wp_v12sh, wp_v12ow, wp_v13sh, wp_v13ow, wp_v14sh, wp_v14ow, wp_v15sh, wp_v15ow, wp_v16sh, wp_v16ow, wp_v17sh, wp_v17ow, wp_v18sh, wp_v18ow, wp_v19sh, wp_v19ow, wp_v20sh, wp_v20ow, wp_v21sh, wp_v21ow, wp_v22sh, wp_v22ow, wp_v23sh, wp_v23ow, wp_v24sh, wp_v24ow, wp_v25sh, wp_v25ow, wp_c, wp_op2, wp_op1, wp_and, wp_or, wp_not, wp_if, wp_chain, wp_nil, wp_cons, wp_tup, wp_lst, wp_callB, wp_call1, wp_call2, wp_callD, wp_sl, wp_noPart, wpInt_int, wp_part, wpStr_str, wp_m1, wp_seq, wp_next, wp_brk, wp_cnt, wp_never, wp_asg, wp_asgO, wp_drop, wp_ret, wp_ifS, wp_asgT, wp_app, wp_clear, wp_clrFor, wp_thru, wp_iter, wp_rng1, wp_rng2, wp_enum, wp_zip, one1_1, one2_2, wp_rng1V, wp_rng2V, wp_enumV, wp_zipT, wp_zipLL, wp_add, wp_sub, wp_mul, wp_fdiv, wp_mod, wp_pow, wp_lt, wp_le, wp_gt, wp_ge, wp_eqI, wp_neI, wp_eqS, wp_neS, SX.S_len, S_cps, wp_ixT, wp_ixL, wp_ixN, wp_ixS, atI_0, atI_1, atI_2, wp_lenL, wp_lenT, wp_lenN, wp_lenS, wp_tupL, wp_tupT, wp_lstL, wp_lstT, wp_intI, wp_intB, wpT_name, wpT_tup, wpT_cons, wpT_nil, ownL, List.getElem?_cons_zero, List.getElem?_cons_succ, List.set_cons_zero, List.set_cons_succ, List.length_cons, List.length_nil, List.map_cons, List.map_nil, plainL, wipeD, reduceCtorEq, if_true, if_false, decide_true, decide_false, decide_eq_true_eq, Bool.and_true, Bool.true_and, Bool.not_true, Bool.not_false, Bool.not_eq_true', decide_eq_false_iff_not, Bool.false_eq_true, not_true_eq_false, not_false_eq_true, ne_eq, eq_self, and_self, and_true, true_and, D.imm, immL, kidsImm, Option.some.injEq, exists_eq_left', Nat.zero_add, Nat.reduceAdd, Nat.reduceLeDiff, Nat.reduceLT, Int.reduceLT, Int.reduceLE, Int.reduceNeg, Int.reducePow, Int.reduceAdd, Int.reduceMul, Int.reduceSub, Int.reduceToNat, Int.reduceEq, D.int.injEq, D.bl.injEq, Bool.false_eq, Bool.not_eq_eq_eq_not, true_or, or_true, false_or, or_false, Bool.and_false, Bool.false_and]
      exact ⟨cs, by omega, hc, rfl⟩
  obtain ⟨c, d, e, rfl, m, hm, hm2, rfl⟩ := wpF_ex main
  exact ⟨m, hm, hm2, e⟩
def rowT (r : List Int) : D := .tup (r.map .int)
def tabE (h w : Int) (rows : List (List Int)) : D := .tup [.int h, .int w, .tup (rows.map rowT)]
structure TabOk (p h w : Int) (rows : List (List Int)) : Prop where
  hl : (rows.length : Int) = h
  wl : ∀ r ∈ rows, (r.length : Int) = w
  rs : ∀ r ∈ rows, ∀ x ∈ r, 0 ≤ x ∧ x < p
theorem table_ex {ns : List Int} (hn : ns.length ≤ 63) {at_ p high wide : Int} (ha : 0 ≤ at_) (ha2 : at_ ≤ 900) (hp : 0 < p) (hp2 : p < 100) (hh : 0 ≤ high) (hh2 : high ≤ 8) (hw : 0 ≤ wide) (hw2 : wide ≤ 8) :
    ∃ rows, TabOk p high wide rows ∧ den_law_table [.scr ns, .int at_, .int p, .int high, .int wide] = .ok false (tabE high wide rows) := by
  have main : wpF (den_law_table [.scr ns, .int at_, .int p, .int high, .int wide]) (fun c d => c = false ∧ ∃ rows, TabOk p high wide rows ∧ d = tabE high wide rows) fun _ => False := by
    unfold den_law_table
    rw [wpF_denOf (Γ := [.sh (.scr ns), .sh (.int at_), .sh (.int p), .sh (.int high), .sh (.int wide), .no, .no, .no, .no, .no]) rfl]
    simp only [bd_law_table, FinK_nx, FinK_ret, FinK_exc, Nxt_nx, Nxt_ret, Nxt_brk, Nxt_cnt, Nxt_exc, wpE_ok, wpE_exc, wpE_bad, wpL_ok, wpI_ok, wpO_ok, wpF_ok, wpF_exc, wpS_nx, wpS_ret, wpS_brk, wpS_cnt, wpS_exc, wpS_bad, wpB_bl, wp_v0sh, wp_v0ow, wp_v1sh, wp_v1ow, wp_v2sh, wp_v2ow, wp_v3sh, wp_v3ow, wp_v4sh, wp_v4ow, wp_v5sh, wp_v5ow, wp_v6sh, wp_v6ow, wp_v7sh, wp_v7ow, wp_v8sh, wp_v8ow, wp_v9sh, wp_v9ow, wp_v10sh, wp_v10ow, wp_v11sh, wp_v11ow, wp_v12sh, wp_v12ow, wp_v13sh, wp_v13ow, wp_v14sh, wp_v14ow, wp_v15sh, wp_v15ow, wp_v16sh, wp_v16ow, wp_v17sh, wp_v17ow, wp_v18sh, wp_v18ow, wp_v19sh, wp_v19ow, wp_v20sh, wp_v20ow, wp_v21sh, wp_v21ow, wp_v22sh, wp_v22ow, wp_v23sh, wp_v23ow, wp_v24sh, wp_v24ow, wp_v25sh, wp_v25ow, wp_c, wp_op2, wp_op1, wp_and, wp_or, wp_not, wp_if, wp_chain, wp_nil, wp_cons, wp_tup, wp_lst, wp_callB, wp_call1, wp_call2, wp_callD, wp_sl, wp_noPart, wpInt_int, wp_part, wpStr_str, wp_m1, wp_seq, wp_next, wp_brk, wp_cnt, wp_never, wp_asg, wp_asgO, wp_drop, wp_ret, wp_ifS, wp_asgT, wp_app, wp_clear, wp_clrFor, wp_thru, wp_iter, wp_rng1, wp_rng2, wp_enum, wp_zip, one1_1, one2_2, wp_rng1V, wp_rng2V, wp_enumV, wp_zipT, wp_zipLL, wp_add, wp_sub, wp_mul, wp_fdiv, wp_mod, wp_pow, wp_lt, wp_le, wp_gt, wp_ge, wp_eqI, wp_neI, wp_eqS, wp_neS, SX.S_len, S_cps, wp_ixT, wp_ixL, wp_ixN, wp_ixS, atI_0, atI_1, atI_2, wp_lenL, wp_lenT, wp_lenN, wp_lenS, wp_tupL, wp_tupT, wp_lstL, wp_lstT, wp_intI, wp_intB, wpT_name, wpT_tup, wpT_cons, wpT_nil, ownL, List.getElem?_cons_zero, List.getElem?_cons_succ, List.set_cons_zero, List.set_cons_succ, List.length_cons, List.length_nil, List.map_cons, List.map_nil, plainL, wipeD, reduceCtorEq, if_true, if_false, decide_true, decide_false, decide_eq_true_eq, Bool.and_true, Bool.true_and, Bool.not_true, Bool.not_false, Bool.not_eq_true', decide_eq_false_iff_not, Bool.false_eq_true, not_true_eq_false, not_false_eq_true, ne_eq, eq_self, and_self, and_true, true_and, D.imm, immL, kidsImm, Option.some.injEq, exists_eq_left', Nat.zero_add, Nat.reduceAdd, Nat.reduceLeDiff, Nat.reduceLT, Int.reduceLT, Int.reduceLE, Int.reduceNeg, Int.reducePow, Int.reduceAdd, Int.reduceMul, Int.reduceSub, Int.reduceToNat, Int.reduceEq, D.int.injEq, D.bl.injEq, Bool.false_eq, Bool.not_eq_eq_eq_not, true_or, or_true, false_or, or_false, Bool.and_false, Bool.false_and]
    refine wp_for (fun n Γ => ∃ (rows : List (List Int)) (z6 z7 z8 z9 : Slot), Γ = [.sh (.scr ns), .sh (.int at_), .sh (.int p), .sh (.int high), .sh (.int wide), .ow (.lst (rows.map rowT)), z6, z7, z8, z9] ∧ rows.length = n ∧ (∀ r ∈ rows, (r.length : Int) = wide) ∧ ∀ r ∈ rows, ∀ x ∈ r, 0 ≤ x ∧ x < p) ?_
    simp only [FinK_nx, FinK_ret, FinK_exc, Nxt_nx, Nxt_ret, Nxt_brk, Nxt_cnt, Nxt_exc, wpE_ok, wpE_exc, wpE_bad, wpL_ok, wpI_ok, wpO_ok, wpF_ok, wpF_exc, wpS_nx, wpS_ret, wpS_brk, wpS_cnt, wpS_exc, wpS_bad, wpB_bl, wp_v0sh, wp_v0ow, wp_v1sh, wp_v1ow, wp_v2sh, wp_v2ow, wp_v3sh, wp_v3ow, wp_v4sh, wp_v4ow, wp_v5sh, wp_v5ow, wp_v6sh, wp_v6ow, wp_v7sh, wp_v7ow, wp_v8sh, wp_v8ow, wp_v9sh, wp_v9ow, wp_v10sh, wp_v10ow, wp_v11sh, wp_v11ow, wp_v12sh, wp_v12ow, wp_v13sh, wp_v13ow, wp_v14sh, wp_v14ow, wp_v15sh, wp_v15ow, wp_v16sh, wp_v16ow, wp_v17sh, wp_v17ow, wp_v18sh, wp_v18ow, wp_v19sh, wp_v19ow, wp_v20sh, wp_v20ow, wp_v21sh, wp_v21ow, wp_v22sh, wp_v22ow, wp_v23sh, wp_v23ow, wp_v24sh, wp_v24ow, wp_v25sh, wp_v25ow, wp_c, wp_op2, wp_op1, wp_and, wp_or, wp_not, wp_if, wp_chain, wp_nil, wp_cons, wp_tup, wp_lst, wp_callB, wp_call1, wp_call2, wp_callD, wp_sl, wp_noPart, wpInt_int, wp_part, wpStr_str, wp_m1, wp_seq, wp_next, wp_brk, wp_cnt, wp_never, wp_asg, wp_asgO, wp_drop, wp_ret, wp_ifS, wp_asgT, wp_app, wp_clear, wp_clrFor, wp_thru, wp_iter, wp_rng1, wp_rng2, wp_enum, wp_zip, one1_1, one2_2, wp_rng1V, wp_rng2V, wp_enumV, wp_zipT, wp_zipLL, wp_add, wp_sub, wp_mul, wp_fdiv, wp_mod, wp_pow, wp_lt, wp_le, wp_gt, wp_ge, wp_eqI, wp_neI, wp_eqS, wp_neS, SX.S_len, S_cps, wp_ixT, wp_ixL, wp_ixN, wp_ixS, atI_0, atI_1, atI_2, wp_lenL, wp_lenT, wp_lenN, wp_lenS, wp_tupL, wp_tupT, wp_lstL, wp_lstT, wp_intI, wp_intB, wpT_name, wpT_tup, wpT_cons, wpT_nil, ownL, List.getElem?_cons_zero, List.getElem?_cons_succ, List.set_cons_zero, List.set_cons_succ, List.length_cons, List.length_nil, List.map_cons, List.map_nil, plainL, wipeD, reduceCtorEq, if_true, if_false, decide_true, decide_false, decide_eq_true_eq, Bool.and_true, Bool.true_and, Bool.not_true, Bool.not_false, Bool.not_eq_true', decide_eq_false_iff_not, Bool.false_eq_true, not_true_eq_false, not_false_eq_true, ne_eq, eq_self, and_self, and_true, true_and, D.imm, immL, kidsImm, Option.some.injEq, exists_eq_left', Nat.zero_add, Nat.reduceAdd, Nat.reduceLeDiff, Nat.reduceLT, Int.reduceLT, Int.reduceLE, Int.reduceNeg, Int.reducePow, Int.reduceAdd, Int.reduceMul, Int.reduceSub, Int.reduceToNat, Int.reduceEq, D.int.injEq, D.bl.injEq, Bool.false_eq, Bool.not_eq_eq_eq_not, true_or, or_true, false_or, or_false, Bool.and_false, Bool.false_and]
    refine ⟨by omega, ⟨[], _, _, _, _, rfl, rfl, (fun _ h => by cases h), (fun _ h => by cases h)⟩, ?_, ?_⟩
    · rintro n Γ d ⟨rows, z6, z7, z8, z9, rfl, hrl, hrw, hrs⟩ hd
      obtain ⟨hin, rfl⟩ := rngL_get hd
      simp only [FinK_nx, FinK_ret, FinK_exc, Nxt_nx, Nxt_ret, Nxt_brk, Nxt_cnt, Nxt_exc, wpE_ok, wpE_exc, wpE_bad, wpL_ok, wpI_ok, wpO_ok, wpF_ok, wpF_exc, wpS_nx, wpS_ret, wpS_brk, wpS_cnt, wpS_exc, wpS_bad, wpB_bl, wp_v0sh, wp_v0ow, wp_v1sh, wp_v1ow, wp_v2sh, wp_v2ow, wp_v3sh, wp_v3ow, wp_v4sh, wp_v4ow, wp_v5sh, wp_v5ow, wp_v6sh, wp_v6ow, wp_v7sh, wp_v7ow, wp_v8sh, wp_v8ow, wp_v9sh, wp_v9ow, wp_v10sh, wp_v10ow, wp_v11sh, wp_v11ow, wp_v12sh, wp_v12ow, wp_v13sh, wp_v13ow, wp_v14sh, wp_v14ow, wp_v15sh, wp_v15ow, wp_v16sh, wp_v16ow, wp_v17sh, wp_v17ow, wp_v18sh, wp_v18ow, wp_v19sh, wp_v19ow, wp_v20sh, wp_v20ow, wp_v21sh, wp_v21ow, wp_v22sh, wp_v22ow, wp_v23sh, wp_v23ow, wp_v24sh, wp_v24ow, wp_v25sh, wp_v25ow, wp_c, wp_op2, wp_op1, wp_and, wp_or, wp_not, wp_if, wp_chain, wp_nil, wp_cons, wp_tup, wp_lst, wp_callB, wp_call1, wp_call2, wp_callD, wp_sl, wp_noPart, wpInt_int, wp_part, wpStr_str, wp_m1, wp_seq, wp_next, wp_brk, wp_cnt, wp_never, wp_asg, wp_asgO, wp_drop, wp_ret, wp_ifS, wp_asgT, wp_app, wp_clear, wp_clrFor, wp_thru, wp_iter, wp_rng1, wp_rng2, wp_enum, wp_zip, one1_1, one2_2, wp_rng1V, wp_rng2V, wp_enumV, wp_zipT, wp_zipLL, wp_add, wp_sub, wp_mul, wp_fdiv, wp_mod, wp_pow, wp_lt, wp_le, wp_gt, wp_ge, wp_eqI, wp_neI, wp_eqS, wp_neS, SX.S_len, S_cps, wp_ixT, wp_ixL, wp_ixN, wp_ixS, atI_0, atI_1, atI_2, wp_lenL, wp_lenT, wp_lenN, wp_lenS, wp_tupL, wp_tupT, wp_lstL, wp_lstT, wp_intI, wp_intB, wpT_name, wpT_tup, wpT_cons, wpT_nil, ownL, List.getElem?_cons_zero, List.getElem?_cons_succ, List.set_cons_zero, List.set_cons_succ, List.length_cons, List.length_nil, List.map_cons, List.map_nil, plainL, wipeD, reduceCtorEq, if_true, if_false, decide_true, decide_false, decide_eq_true_eq, Bool.and_true, Bool.true_and, Bool.not_true, Bool.not_false, Bool.not_eq_true', decide_eq_false_iff_not, Bool.false_eq_true, not_true_eq_false, not_false_eq_true, ne_eq, eq_self, and_self, and_true, true_and, D.imm, immL, kidsImm, Option.some.injEq, exists_eq_left', Nat.zero_add, Nat.reduceAdd, Nat.reduceLeDiff, Nat.reduceLT, Int.reduceLT, Int.reduceLE, Int.reduceNeg, Int.reducePow, Int.reduceAdd, Int.reduceMul, Int.reduceSub, Int.reduceToNat, Int.reduceEq, D.int.injEq, D.bl.injEq, Bool.false_eq, Bool.not_eq_eq_eq_not, true_or, or_true, false_or, or_false, Bool.and_false, Bool.false_and]
      refine wp_for (fun m Γ => ∃ (row : List Int) (z8 z9 : Slot), Γ = [.sh (.scr ns), .sh (.int at_), .sh (.int p), .sh (.int high), .sh (.int wide), .ow (.lst (rows.map rowT)), .sh (.int (0 + (n : Int))), .ow (.lst (row.map .int)), z8, z9] ∧ row.length = m ∧ ∀ x ∈ row, 0 ≤ x ∧ x < p) ?_
      simp only [FinK_nx, FinK_ret, FinK_exc, Nxt_nx, Nxt_ret, Nxt_brk, Nxt_cnt, Nxt_exc, wpE_ok, wpE_exc, wpE_bad, wpL_ok, wpI_ok, wpO_ok, wpF_ok, wpF_exc, wpS_nx, wpS_ret, wpS_brk, wpS_cnt, wpS_exc, wpS_bad, wpB_bl, wp_v0sh, wp_v0ow, wp_v1sh, wp_v1ow, wp_v2sh, wp_v2ow, wp_v3sh, wp_v3ow, wp_v4sh, wp_v4ow, wp_v5sh, wp_v5ow, wp_v6sh, wp_v6ow, wp_v7sh, wp_v7ow, wp_v8sh, wp_v8ow, wp_v9sh, wp_v9ow, wp_v10sh, wp_v10ow, wp_v11sh, wp_v11ow, wp_v12sh, wp_v12ow, wp_v13sh, wp_v13ow, wp_v14sh, wp_v14ow, wp_v15sh, wp_v15ow, wp_v16sh, wp_v16ow, wp_v17sh, wp_v17ow, wp_v18sh, wp_v18ow, wp_v19sh, wp_v19ow, wp_v20sh, wp_v20ow, wp_v21sh, wp_v21ow, wp_v22sh, wp_v22ow, wp_v23sh, wp_v23ow, wp_v24sh, wp_v24ow, wp_v25sh, wp_v25ow, wp_c, wp_op2, wp_op1, wp_and, wp_or, wp_not, wp_if, wp_chain, wp_nil, wp_cons, wp_tup, wp_lst, wp_callB, wp_call1, wp_call2, wp_callD, wp_sl, wp_noPart, wpInt_int, wp_part, wpStr_str, wp_m1, wp_seq, wp_next, wp_brk, wp_cnt, wp_never, wp_asg, wp_asgO, wp_drop, wp_ret, wp_ifS, wp_asgT, wp_app, wp_clear, wp_clrFor, wp_thru, wp_iter, wp_rng1, wp_rng2, wp_enum, wp_zip, one1_1, one2_2, wp_rng1V, wp_rng2V, wp_enumV, wp_zipT, wp_zipLL, wp_add, wp_sub, wp_mul, wp_fdiv, wp_mod, wp_pow, wp_lt, wp_le, wp_gt, wp_ge, wp_eqI, wp_neI, wp_eqS, wp_neS, SX.S_len, S_cps, wp_ixT, wp_ixL, wp_ixN, wp_ixS, atI_0, atI_1, atI_2, wp_lenL, wp_lenT, wp_lenN, wp_lenS, wp_tupL, wp_tupT, wp_lstL, wp_lstT, wp_intI, wp_intB, wpT_name, wpT_tup, wpT_cons, wpT_nil, ownL, List.getElem?_cons_zero, List.getElem?_cons_succ, List.set_cons_zero, List.set_cons_succ, List.length_cons, List.length_nil, List.map_cons, List.map_nil, plainL, wipeD, reduceCtorEq, if_true, if_false, decide_true, decide_false, decide_eq_true_eq, Bool.and_true, Bool.true_and, Bool.not_true, Bool.not_false, Bool.not_eq_true', decide_eq_false_iff_not, Bool.false_eq_true, not_true_eq_false, not_false_eq_true, ne_eq, eq_self, and_self, and_true, true_and, D.imm, immL, kidsImm, Option.some.injEq, exists_eq_left', Nat.zero_add, Nat.reduceAdd, Nat.reduceLeDiff, Nat.reduceLT, Int.reduceLT, Int.reduceLE, Int.reduceNeg, Int.reducePow, Int.reduceAdd, Int.reduceMul, Int.reduceSub, Int.reduceToNat, Int.reduceEq, D.int.injEq, D.bl.injEq, Bool.false_eq, Bool.not_eq_eq_eq_not, true_or, or_true, false_or, or_false, Bool.and_false, Bool.false_and]
      refine ⟨by omega, ⟨[], _, _, rfl, rfl, (fun _ h => by cases h)⟩, ?_, ?_⟩
      · rintro m Γ d ⟨row, z8, z9, rfl, hml, hms⟩ hd
        have hd2 := rngL_get hd
        have him := hd2.1
        have hde := hd2.2
        subst hde
        have hb : 0 ≤ (0 + (n : Int)) * wide ∧ (0 + (n : Int)) * wide ≤ 8 * 8 := ⟨Int.mul_nonneg (by omega) hw, Int.mul_le_mul (by omega) hw2 hw (by decide)⟩
        have hk0 : 0 ≤ at_ + (0 + (n : Int)) * wide + (0 + (m : Int)) := by omega
        have hk1 : at_ + (0 + (n : Int)) * wide + (0 + (m : Int)) ≤ 1000 := by omega
        simp only [FinK_nx, FinK_ret, FinK_exc, Nxt_nx, Nxt_ret, Nxt_brk, Nxt_cnt, Nxt_exc, wpE_ok, wpE_exc, wpE_bad, wpL_ok, wpI_ok, wpO_ok, wpF_ok, wpF_exc, wpS_nx, wpS_ret, wpS_brk, wpS_cnt, wpS_exc, wpS_bad, wpB_bl, wp_v0sh, wp_v0ow, wp_v1sh, wp_v1ow, wp_v2sh, wp_v2ow, wp_v3sh, wp_v3ow, wp_v4sh, wp_v4ow, wp_v5sh, wp_v5ow, wp_v6sh, wp_v6ow, wp_v7sh, wp_v7ow, wp_v8sh, wp_v8ow, wp_v9sh, wp_v9ow, wp_v10sh, wp_v10ow, wp_v11sh, wp_v11ow, wp_v12sh, wp_v12ow, wp_v13sh, wp_v13ow, wp_v14sh, wp_v14ow, wp_v15sh, wp_v15ow, wp_v16sh, wp_v16ow, wp_v17sh, wp_v17ow, wp_v18sh, wp_v18ow, wp_v19sh, wp_v19ow, wp_v20sh, wp_v20ow, wp_v21sh, wp_v21ow, wp_v22sh, wp_v22ow, wp_v23sh, wp_v23ow, wp_v24sh, wp_v24ow, wp_v25sh, wp_v25ow, wp_c, wp_op2, wp_op1, wp_and, wp_or, wp_not, wp_if, wp_chain, wp_nil, wp_cons, wp_tup, wp_lst, wp_callB, wp_call1, wp_call2, wp_callD, wp_sl, wp_noPart, wpInt_int, wp_part, wpStr_str, wp_m1, wp_seq, wp_next, wp_brk, wp_cnt, wp_never, wp_asg, wp_asgO, wp_drop, wp_ret, wp_ifS, wp_asgT, wp_app, wp_clear, wp_clrFor, wp_thru, wp_iter, wp_rng1, wp_rng2, wp_enum, wp_zip, one1_1, one2_2, wp_rng1V, wp_rng2V, wp_enumV, wp_zipT, wp_zipLL, wp_add, wp_sub, wp_mul, wp_fdiv, wp_mod, wp_pow, wp_lt, wp_le, wp_gt, wp_ge, wp_eqI, wp_neI, wp_eqS, wp_neS, SX.S_len, S_cps, wp_ixT, wp_ixL, wp_ixN, wp_ixS, atI_0, atI_1, atI_2, wp_lenL, wp_lenT, wp_lenN, wp_lenS, wp_tupL, wp_tupT, wp_lstL, wp_lstT, wp_intI, wp_intB, wpT_name, wpT_tup, wpT_cons, wpT_nil, ownL, List.getElem?_cons_zero, List.getElem?_cons_succ, List.set_cons_zero, List.set_cons_succ, List.length_cons, List.length_nil, List.map_cons, List.map_nil, plainL, wipeD, reduceCtorEq, if_true, if_false, decide_true, decide_false, decide_eq_true_eq, Bool.and_true, Bool.true_and, Bool.not_true, Bool.not_false, Bool.not_eq_true', decide_eq_false_iff_not, Bool.false_eq_true, not_true_eq_false, not_false_eq_true, ne_eq, eq_self, and_self, and_true, true_and, D.imm, immL, kidsImm, Option.some.injEq, exists_eq_left', Nat.zero_add, Nat.reduceAdd, Nat.reduceLeDiff, Nat.reduceLT, Int.reduceLT, Int.reduceLE, Int.reduceNeg, Int.reducePow, Int.reduceAdd, Int.reduceMul, Int.reduceSub, Int.reduceToNat, Int.reduceEq, D.int.injEq, D.bl.injEq, Bool.false_eq, Bool.not_eq_eq_eq_not, true_or, or_true, false_or, or_false, Bool.and_false, Bool.false_and, wp_mix hn hk0 hk1, List.length_map]
        rw [map_snoc D.int]
        refine ⟨by omega, hp, ?_, by rw [hml]; exact small1 (by omega), _, _, _, rfl, ?_, ?_⟩
        · right
          split <;> decide
        · simp [hml]
        · intro x hx
          rcases List.mem_append.mp hx with h | h
          · exact hms x h
          · rw [List.mem_singleton] at h
            subst h
            have z1 := Int.emod_nonneg (mixV ns (at_ + (0 + (n : Int)) * wide + (0 + (m : Int)))) (b := p) (by omega)
            have z2 := Int.emod_lt_of_pos (mixV ns (at_ + (0 + (n : Int)) * wide + (0 + (m : Int)))) hp
            split
            · omega
            · omega
      · rintro Γ ⟨row, z8, z9, rfl, hml, hms⟩
        simp only [FinK_nx, FinK_ret, FinK_exc, Nxt_nx, Nxt_ret, Nxt_brk, Nxt_cnt, Nxt_exc, wpE_ok, wpE_exc, wpE_bad, wpL_ok, wpI_ok, wpO_ok, wpF_ok, wpF_exc, wpS_nx, wpS_ret, wpS_brk, wpS_cnt, wpS_exc, wpS_bad, wpB_bl, wp_v0sh, wp_v0ow, wp_v1sh, wp_v1ow, wp_v2sh, wp_v2ow, wp_v3sh, wp_v3ow, wp_v4sh, wp_v4ow, wp_v5sh, wp_v5ow, wp_v6sh, wp_v6ow, wp_v7sh, wp_v7ow, wp_v8sh, wp_v8ow, wp_v9sh, wp_v9ow, wp_v10sh, wp_v10ow, wp_v11sh, wp_v11ow, wp_v12sh, wp_v12ow, wp_v13sh, wp_v13ow, wp_v14sh, wp_v14ow, wp_v15sh, wp_v15ow, wp_v16sh, wp_v16ow, wp_v17sh, wp_v17ow, wp_v18sh, wp_v18ow, wp_v19sh, wp_v19ow, wp_v20sh, wp_v20ow, wp_v21sh, wp_v21ow, wp_v22sh, wp_v22ow, wp_v23sh, wp_v23ow, wp_v24sh, wp_v24ow, wp_v25sh, wp_v25ow, wp_c, wp_op2, wp_op1, wp_and, wp_or, wp_not, wp_if, wp_chain, wp_nil, wp_cons, wp_tup, wp_lst, wp_callB, wp_call1, wp_call2, wp_callD, wp_sl, wp_noPart, wpInt_int, wp_part, wpStr_str, wp_m1, wp_seq, wp_next, wp_brk, wp_cnt, wp_never, wp_asg, wp_asgO, wp_drop, wp_ret, wp_ifS, wp_asgT, wp_app, wp_clear, wp_clrFor, wp_thru, wp_iter, wp_rng1, wp_rng2, wp_enum, wp_zip, one1_1, one2_2, wp_rng1V, wp_rng2V, wp_enumV, wp_zipT, wp_zipLL, wp_add, wp_sub, wp_mul, wp_fdiv, wp_mod, wp_pow, wp_lt, wp_le, wp_gt, wp_ge, wp_eqI, wp_neI, wp_eqS, wp_neS, SX.S_len, S_cps, wp_ixT, wp_ixL, wp_ixN, wp_ixS, atI_0, atI_1, atI_2, wp_lenL, wp_lenT, wp_lenN, wp_lenS, wp_tupL, wp_tupT, wp_lstL, wp_lstT, wp_intI, wp_intB, wpT_name, wpT_tup, wpT_cons, wpT_nil, ownL, List.getElem?_cons_zero, List.getElem?_cons_succ, List.set_cons_zero, List.set_cons_succ, List.length_cons, List.length_nil, List.map_cons, List.map_nil, plainL, wipeD, reduceCtorEq, if_true, if_false, decide_true, decide_false, decide_eq_true_eq, Bool.and_true, Bool.true_and, Bool.not_true, Bool.not_false, Bool.not_eq_true', decide_eq_false_iff_not, Bool.false_eq_true, not_true_eq_false, not_false_eq_true, ne_eq, eq_self, and_self, and_true, true_and, D.imm, immL, kidsImm, Option.some.injEq, exists_eq_left', Nat.zero_add, Nat.reduceAdd, Nat.reduceLeDiff, Nat.reduceLT, Int.reduceLT, Int.reduceLE, Int.reduceNeg, Int.reducePow, Int.reduceAdd, Int.reduceMul, Int.reduceSub, Int.reduceToNat, Int.reduceEq, D.int.injEq, D.bl.injEq, Bool.false_eq, Bool.not_eq_eq_eq_not, true_or, or_true, false_or, or_false, Bool.and_false, Bool.false_and, List.length_map]
        rw [show D.tup (row.map D.int) = rowT row from rfl, map_snoc rowT]
        refine ⟨by rw [hrl]; exact small1 (by omega), _, _, _, _, _, rfl, ?_, ?_, ?_⟩
        · simp [hrl]
        · intro r hr
          rcases List.mem_append.mp hr with h | h
          · exact hrw r h
          · rw [List.mem_singleton] at h
            subst h
            rw [rngL_len] at hml
            omega
        · intro r hr
          rcases List.mem_append.mp hr with h | h
          · exact hrs r h
          · rw [List.mem_singleton] at h
            subst h
            exact hms
    · rintro Γ ⟨rows, z6, z7, z8, z9, rfl, hrl, hrw, hrs⟩
      simp only [FinK_nx, FinK_ret, FinK_exc, Nxt_nx, Nxt_ret, Nxt_brk, Nxt_cnt, Nxt_exc, wpE_ok, wpE_exc, wpE_bad, wpL_ok, wpI_ok, wpO_ok, wpF_ok, wpF_exc, wpS_nx, wpS_ret, wpS_brk, wpS_cnt, wpS_exc, wpS_bad, wpB_bl, wp_v0sh, wp_v0ow, wp_v1sh, wp_v1ow, wp_v2sh, wp_v2ow, wp_v3sh, wp_v3ow, wp_v4sh, wp_v4ow, wp_v5sh, wp_v5ow, wp_v6sh, wp_v6ow, wp_v7sh, wp_v7ow, wp_v8sh, wp_v8ow, wp_v9sh, wp_v9ow, wp_v10sh, wp_v10ow, wp_v11sh, wp_v11ow, wp_v12sh, wp_v12ow, wp_v13sh, wp_v13ow, wp_v14sh, wp_v14ow, wp_v15sh, wp_v15ow, wp_v16sh, wp_v16ow, wp_v17sh, wp_v17ow, wp_v18sh, wp_v18ow, wp_v19sh, wp_v19ow, wp_v20sh, wp_v20ow, wp_v21sh, wp_v21ow, wp_v22sh, wp_v22ow, wp_v23sh, wp_v23ow, wp_v24sh, wp_v24ow, wp_v25sh, wp_v25ow, wp_c, wp_op2, wp_op1, wp_and, wp_or, wp_not, wp_if, wp_chain, wp_nil, wp_cons, wp_tup, wp_lst, wp_callB, wp_call1, wp_call2, wp_callD, wp_sl, wp_noPart, wpInt_int, wp_part, wpStr_str, wp_m1, wp_seq, wp_next, wp_brk, wp_cnt, wp_never, wp_asg, wp_asgO, wp_drop, wp_ret, wp_ifS, wp_asgT, wp_app, wp_clear, wp_clrFor, wp_thru, wp_iter, wp_rng1, wp_rng2, wp_enum, wp_zip, one1_1, one2_2, wp_rng1V, wp_rng2V, wp_enumV, wp_zipT, wp_zipLL, wp_add, wp_sub, wp_mul, wp_fdiv, wp_mod, wp_pow, wp_lt, wp_le, wp_gt, wp_ge, wp_eqI, wp_neI, wp_eqS, wp_neS, SX.S_len, S_cps, wp_ixT, wp_ixL, wp_ixN, wp_ixS, atI_0, atI_1, atI_2, wp_lenL, wp_lenT, wp_lenN, wp_lenS, wp_tupL, wp_tupT, wp_lstL, wp_lstT, wp_intI, wp_intB, wpT_name, wpT_tup, wpT_cons, wpT_nil, ownL, List.getElem?_cons_zero, List.getElem?_cons_succ, List.set_cons_zero, List.set_cons_succ, List.length_cons, List.length_nil, List.map_cons, List.map_nil, plainL, wipeD, reduceCtorEq, if_true, if_false, decide_true, decide_false, decide_eq_true_eq, Bool.and_true, Bool.true_and, Bool.not_true, Bool.not_false, Bool.not_eq_true', decide_eq_false_iff_not, Bool.false_eq_true, not_true_eq_false, not_false_eq_true, ne_eq, eq_self, and_self, and_true, true_and, D.imm, immL, kidsImm, Option.some.injEq, exists_eq_left', Nat.zero_add, Nat.reduceAdd, Nat.reduceLeDiff, Nat.reduceLT, Int.reduceLT, Int.reduceLE, Int.reduceNeg, Int.reducePow, Int.reduceAdd, Int.reduceMul, Int.reduceSub, Int.reduceToNat, Int.reduceEq, D.int.injEq, D.bl.injEq, Bool.false_eq, Bool.not_eq_eq_eq_not, true_or, or_true, false_or, or_false, Bool.and_false, Bool.false_and]
      rw [rngL_len] at hrl
      exact ⟨rows, ⟨by omega, hrw, hrs⟩, rfl⟩
  obtain ⟨c, d, e, rfl, m, hm, rfl⟩ := wpF_ex main
  exact ⟨m, hm, e⟩
end My
end

noncomputable section
namespace My
open PySem L2 VL
open SX (S)
structure Arr where
  c : Nat
  h : Int
  w : Int
  t : List (List Int)
def arrE (a : Arr) : D := .tup [.str (S [a.c]), tabE a.h a.w a.t]
def rowE (p : Int) (ws : List Int) (as : List Arr) : D := .tup [.int p, .tup (ws.map .int), .tup (as.map arrE)]
structure ArrOk (p : Int) (cs : List Nat) (ws : List Int) (k : Nat) (a : Arr) : Prop where
  c : cs[k]? = some a.c
  sz : ∃ u v, ws[k]? = some u ∧ ws[k + 1]? = some v ∧ (a.c = 108 → a.h = u ∧ a.w = v) ∧ (a.c ≠ 108 → a.h = v ∧ a.w = u)
  tab : TabOk p a.h a.w a.t
structure RowOk (p : Int) (cs : List Nat) (ws : List Int) (as : List Arr) (most : Int) : Prop where
  wl : ws.length = cs.length + 1
  wb : ∀ w ∈ ws, 0 ≤ w ∧ w < most
  al : as.length = cs.length
  ar : ∀ k a, as[k]? = some a → ArrOk p cs ws k a
theorem inj_S1 {a b : Nat} : (S [a] = S [b]) = (a = b) := propext ⟨fun h => by have := SX.S_inj h; simpa using this, fun h => by rw [h]⟩
theorem ok_way {c : Nat} (h : IsWay c) : PyData.strOk (S [c]) = true := strOk_S fun d hd => by
  rw [List.mem_singleton] at hd
  subst hd
  rcases h with rfl | rfl <;> decide
theorem row_ex {ns : List Int} (hn : ns.length ≤ 63) {at_ p most : Int} {cs : List Nat} (hc : ∀ c ∈ cs, IsWay c) (hcl : cs.length ≤ 5) (ha : 0 ≤ at_) (ha2 : at_ ≤ 200) (hp : 0 < p) (hp2 : p < 100) (hm : 0 < most) (hm2 : most ≤ 8) :
    ∃ ws as, RowOk p cs ws as most ∧ den_law_row [.scr ns, .int at_, .int p, .str (S cs), .int most] = .ok false (rowE p ws as) := by
  have main : wpF (den_law_row [.scr ns, .int at_, .int p, .str (S cs), .int most]) (fun c d => c = false ∧ ∃ ws as, RowOk p cs ws as most ∧ d = rowE p ws as) fun _ => False := by
    unfold den_law_row
    rw [wpF_denOf (Γ := [.sh (.scr ns), .sh (.int at_), .sh (.int p), .sh (.str (S cs)), .sh (.int most), .no, .no, .no, .no]) rfl]
    simp only [bd_law_row, FinK_nx, FinK_ret, FinK_exc, Nxt_nx, Nxt_ret, Nxt_brk, Nxt_cnt, Nxt_exc, wpE_ok, wpE_exc, wpE_bad, wpL_ok, wpI_ok, wpO_ok, wpF_ok, wpF_exc, wpS_nx, wpS_ret, wpS_brk, wpS_cnt, wpS_exc, wpS_bad, wpB_bl, wp_v0sh, wp_v0ow, wp_v1sh, wp_v1ow, wp_v2sh, wp_v2ow, wp_v3sh, wp_v3ow, wp_v4sh, wp_v4ow, wp_v5sh, wp_v5ow, wp_v6sh, wp_v6ow, wp_v7sh, wp_v7ow, wp_v8sh, wp_v8ow, wp_v9sh, wp_v9ow, wp_v10sh, wp_v10ow, wp_v11sh, wp_v11ow, wp_v12sh, wp_v12ow, wp_v13sh, wp_v13ow, wp_v14sh, wp_v14ow, wp_v15sh, wp_v15ow, wp_v16sh, wp_v16ow, wp_v17sh, wp_v17ow, wp_v18sh, wp_v18ow, wp_v19sh, wp_v19ow, wp_v20sh, wp_v20ow, wp_v21sh, wp_v21ow, wp_v22sh, wp_v22ow, wp_v23sh, wp_v23ow, wp_v24sh, wp_v24ow, wp_v25sh, wp_v25ow, wp_c, wp_op2, wp_op1, wp_and, wp_or, wp_not, wp_if, wp_chain, wp_nil, wp_cons, wp_tup, wp_lst, wp_callB, wp_call1, wp_call2, wp_callD, wp_sl, wp_noPart, wpInt_int, wp_part, wpStr_str, wp_m1, wp_seq, wp_next, wp_brk, wp_cnt, wp_never, wp_asg, wp_asgO, wp_drop, wp_ret, wp_ifS, wp_asgT, wp_app, wp_clear, wp_clrFor, wp_thru, wp_iter, wp_rng1, wp_rng2, wp_enum, wp_zip, one1_1, one2_2, wp_rng1V, wp_rng2V, wp_enumV, wp_zipT, wp_zipLL, wp_add, wp_sub, wp_mul, wp_fdiv, wp_mod, wp_pow, wp_lt, wp_le, wp_gt, wp_ge, wp_eqI, wp_neI, wp_eqS, wp_neS, SX.S_len, S_cps, wp_ixT, wp_ixL, wp_ixN, wp_ixS, atI_0, atI_1, atI_2, wp_lenL, wp_lenT, wp_lenN, wp_lenS, wp_tupL, wp_tupT, wp_lstL, wp_lstT, wp_intI, wp_intB, wpT_name, wpT_tup, wpT_cons, wpT_nil, ownL, List.getElem?_cons_zero, List.getElem?_cons_succ, List.set_cons_zero, List.set_cons_succ, List.length_cons, List.length_nil, List.map_cons, List.map_nil, plainL, wipeD, reduceCtorEq, if_true, if_false, decide_true, decide_false, decide_eq_true_eq, Bool.and_true, Bool.true_and, Bool.not_true, Bool.not_false, Bool.not_eq_true', decide_eq_false_iff_not, Bool.false_eq_true, not_true_eq_false, not_false_eq_true, ne_eq, eq_self, and_self, and_true, true_and, D.imm, immL, kidsImm, Option.some.injEq, exists_eq_left', Nat.zero_add, Nat.reduceAdd, Nat.reduceLeDiff, Nat.reduceLT, Int.reduceLT, Int.reduceLE, Int.reduceNeg, Int.reducePow, Int.reduceAdd, Int.reduceMul, Int.reduceSub, Int.reduceToNat, Int.reduceEq, D.int.injEq, D.bl.injEq, Bool.false_eq, Bool.not_eq_eq_eq_not, true_or, or_true, false_or, or_false, Bool.and_false, Bool.false_and]
    refine wp_lcR (fun _ _ x => ∃ v : Int, (0 ≤ v ∧ v < most) ∧ x = .int v) ?_
    simp only [FinK_nx, FinK_ret, FinK_exc, Nxt_nx, Nxt_ret, Nxt_brk, Nxt_cnt, Nxt_exc, wpE_ok, wpE_exc, wpE_bad, wpL_ok, wpI_ok, wpO_ok, wpF_ok, wpF_exc, wpS_nx, wpS_ret, wpS_brk, wpS_cnt, wpS_exc, wpS_bad, wpB_bl, wp_v0sh, wp_v0ow, wp_v1sh, wp_v1ow, wp_v2sh, wp_v2ow, wp_v3sh, wp_v3ow, wp_v4sh, wp_v4ow, wp_v5sh, wp_v5ow, wp_v6sh, wp_v6ow, wp_v7sh, wp_v7ow, wp_v8sh, wp_v8ow, wp_v9sh, wp_v9ow, wp_v10sh, wp_v10ow, wp_v11sh, wp_v11ow, wp_v12sh, wp_v12ow, wp_v13sh, wp_v13ow, wp_v14sh, wp_v14ow, wp_v15sh, wp_v15ow, wp_v16sh, wp_v16ow, wp_v17sh, wp_v17ow, wp_v18sh, wp_v18ow, wp_v19sh, wp_v19ow, wp_v20sh, wp_v20ow, wp_v21sh, wp_v21ow, wp_v22sh, wp_v22ow, wp_v23sh, wp_v23ow, wp_v24sh, wp_v24ow, wp_v25sh, wp_v25ow, wp_c, wp_op2, wp_op1, wp_and, wp_or, wp_not, wp_if, wp_chain, wp_nil, wp_cons, wp_tup, wp_lst, wp_callB, wp_call1, wp_call2, wp_callD, wp_sl, wp_noPart, wpInt_int, wp_part, wpStr_str, wp_m1, wp_seq, wp_next, wp_brk, wp_cnt, wp_never, wp_asg, wp_asgO, wp_drop, wp_ret, wp_ifS, wp_asgT, wp_app, wp_clear, wp_clrFor, wp_thru, wp_iter, wp_rng1, wp_rng2, wp_enum, wp_zip, one1_1, one2_2, wp_rng1V, wp_rng2V, wp_enumV, wp_zipT, wp_zipLL, wp_add, wp_sub, wp_mul, wp_fdiv, wp_mod, wp_pow, wp_lt, wp_le, wp_gt, wp_ge, wp_eqI, wp_neI, wp_eqS, wp_neS, SX.S_len, S_cps, wp_ixT, wp_ixL, wp_ixN, wp_ixS, atI_0, atI_1, atI_2, wp_lenL, wp_lenT, wp_lenN, wp_lenS, wp_tupL, wp_tupT, wp_lstL, wp_lstT, wp_intI, wp_intB, wpT_name, wpT_tup, wpT_cons, wpT_nil, ownL, List.getElem?_cons_zero, List.getElem?_cons_succ, List.set_cons_zero, List.set_cons_succ, List.length_cons, List.length_nil, List.map_cons, List.map_nil, plainL, wipeD, reduceCtorEq, if_true, if_false, decide_true, decide_false, decide_eq_true_eq, Bool.and_true, Bool.true_and, Bool.not_true, Bool.not_false, Bool.not_eq_true', decide_eq_false_iff_not, Bool.false_eq_true, not_true_eq_false, not_false_eq_true, ne_eq, eq_self, and_self, and_true, true_and, D.imm, immL, kidsImm, Option.some.injEq, exists_eq_left', Nat.zero_add, Nat.reduceAdd, Nat.reduceLeDiff, Nat.reduceLT, Int.reduceLT, Int.reduceLE, Int.reduceNeg, Int.reducePow, Int.reduceAdd, Int.reduceMul, Int.reduceSub, Int.reduceToNat, Int.reduceEq, D.int.injEq, D.bl.injEq, Bool.false_eq, Bool.not_eq_eq_eq_not, true_or, or_true, false_or, or_false, Bool.and_false, Bool.false_and]
    refine ⟨small (by omega), by omega, fun i d hd => ?_, fun xs hl2 hx => ?_⟩
    · obtain ⟨hi, rfl⟩ := rngL_get hd
      have hk0 : 0 ≤ at_ + (0 + (i : Int)) := by omega
      have hk1 : at_ + (0 + (i : Int)) ≤ 1000 := by omega
      simp only [FinK_nx, FinK_ret, FinK_exc, Nxt_nx, Nxt_ret, Nxt_brk, Nxt_cnt, Nxt_exc, wpE_ok, wpE_exc, wpE_bad, wpL_ok, wpI_ok, wpO_ok, wpF_ok, wpF_exc, wpS_nx, wpS_ret, wpS_brk, wpS_cnt, wpS_exc, wpS_bad, wpB_bl, wp_v0sh, wp_v0ow, wp_v1sh, wp_v1ow, wp_v2sh, wp_v2ow, wp_v3sh, wp_v3ow, wp_v4sh, wp_v4ow, wp_v5sh, wp_v5ow, wp_v6sh, wp_v6ow, wp_v7sh, wp_v7ow, wp_v8sh, wp_v8ow, wp_v9sh, wp_v9ow, wp_v10sh, wp_v10ow, wp_v11sh, wp_v11ow, wp_v12sh, wp_v12ow, wp_v13sh, wp_v13ow, wp_v14sh, wp_v14ow, wp_v15sh, wp_v15ow, wp_v16sh, wp_v16ow, wp_v17sh, wp_v17ow, wp_v18sh, wp_v18ow, wp_v19sh, wp_v19ow, wp_v20sh, wp_v20ow, wp_v21sh, wp_v21ow, wp_v22sh, wp_v22ow, wp_v23sh, wp_v23ow, wp_v24sh, wp_v24ow, wp_v25sh, wp_v25ow, wp_c, wp_op2, wp_op1, wp_and, wp_or, wp_not, wp_if, wp_chain, wp_nil, wp_cons, wp_tup, wp_lst, wp_callB, wp_call1, wp_call2, wp_callD, wp_sl, wp_noPart, wpInt_int, wp_part, wpStr_str, wp_m1, wp_seq, wp_next, wp_brk, wp_cnt, wp_never, wp_asg, wp_asgO, wp_drop, wp_ret, wp_ifS, wp_asgT, wp_app, wp_clear, wp_clrFor, wp_thru, wp_iter, wp_rng1, wp_rng2, wp_enum, wp_zip, one1_1, one2_2, wp_rng1V, wp_rng2V, wp_enumV, wp_zipT, wp_zipLL, wp_add, wp_sub, wp_mul, wp_fdiv, wp_mod, wp_pow, wp_lt, wp_le, wp_gt, wp_ge, wp_eqI, wp_neI, wp_eqS, wp_neS, SX.S_len, S_cps, wp_ixT, wp_ixL, wp_ixN, wp_ixS, atI_0, atI_1, atI_2, wp_lenL, wp_lenT, wp_lenN, wp_lenS, wp_tupL, wp_tupT, wp_lstL, wp_lstT, wp_intI, wp_intB, wpT_name, wpT_tup, wpT_cons, wpT_nil, ownL, List.getElem?_cons_zero, List.getElem?_cons_succ, List.set_cons_zero, List.set_cons_succ, List.length_cons, List.length_nil, List.map_cons, List.map_nil, plainL, wipeD, reduceCtorEq, if_true, if_false, decide_true, decide_false, decide_eq_true_eq, Bool.and_true, Bool.true_and, Bool.not_true, Bool.not_false, Bool.not_eq_true', decide_eq_false_iff_not, Bool.false_eq_true, not_true_eq_false, not_false_eq_true, ne_eq, eq_self, and_self, and_true, true_and, D.imm, immL, kidsImm, Option.some.injEq, exists_eq_left', Nat.zero_add, Nat.reduceAdd, Nat.reduceLeDiff, Nat.reduceLT, Int.reduceLT, Int.reduceLE, Int.reduceNeg, Int.reducePow, Int.reduceAdd, Int.reduceMul, Int.reduceSub, Int.reduceToNat, Int.reduceEq, D.int.injEq, D.bl.injEq, Bool.false_eq, Bool.not_eq_eq_eq_not, true_or, or_true, false_or, or_false, Bool.and_false, Bool.false_and, wp_mix hn hk0 hk1]
      exact ⟨hm, _, ⟨Int.emod_nonneg _ (by omega), Int.emod_lt_of_pos _ hm⟩, rfl⟩
    · rw [rngL_len] at hl2
      obtain ⟨ws, rfl, hw⟩ := ex_map (xs := xs) (f := D.int) (P := fun v => 0 ≤ v ∧ v < most) fun x hx1 => by
        obtain ⟨i, hi, rfl⟩ := List.getElem_of_mem hx1
        exact hx i _ _ (List.getElem?_eq_getElem (by rw [rngL_len, ← hl2]; exact hi)) (List.getElem?_eq_getElem hi)
      rw [List.length_map] at hl2
      have hwl : ws.length = cs.length + 1 := by omega
      clear hx hl2
      refine wp_for (fun n Γ => ∃ (as : List Arr) (z7 z8 : Slot), Γ = [.sh (.scr ns), .sh (.int at_), .sh (.int p), .sh (.str (S cs)), .sh (.int most), .sh (.tup (ws.map .int)), .ow (.lst (as.map arrE)), z7, z8] ∧ as.length = n ∧ ∀ k a, as[k]? = some a → ArrOk p cs ws k a) ?_
      simp only [FinK_nx, FinK_ret, FinK_exc, Nxt_nx, Nxt_ret, Nxt_brk, Nxt_cnt, Nxt_exc, wpE_ok, wpE_exc, wpE_bad, wpL_ok, wpI_ok, wpO_ok, wpF_ok, wpF_exc, wpS_nx, wpS_ret, wpS_brk, wpS_cnt, wpS_exc, wpS_bad, wpB_bl, wp_v0sh, wp_v0ow, wp_v1sh, wp_v1ow, wp_v2sh, wp_v2ow, wp_v3sh, wp_v3ow, wp_v4sh, wp_v4ow, wp_v5sh, wp_v5ow, wp_v6sh, wp_v6ow, wp_v7sh, wp_v7ow, wp_v8sh, wp_v8ow, wp_v9sh, wp_v9ow, wp_v10sh, wp_v10ow, wp_v11sh, wp_v11ow, wp_v12sh, wp_v12ow, wp_v13sh, wp_v13ow, wp_v14sh, wp_v14ow, wp_v15sh, wp_v15ow, wp_v16sh, wp_v16ow, wp_v17sh, wp_v17ow, wp_v18sh, wp_v18ow, wp_v19sh, wp_v19ow, wp_v20sh, wp_v20ow, wp_v21sh, wp_v21ow, wp_v22sh, wp_v22ow, wp_v23sh, wp_v23ow, wp_v24sh, wp_v24ow, wp_v25sh, wp_v25ow, wp_c, wp_op2, wp_op1, wp_and, wp_or, wp_not, wp_if, wp_chain, wp_nil, wp_cons, wp_tup, wp_lst, wp_callB, wp_call1, wp_call2, wp_callD, wp_sl, wp_noPart, wpInt_int, wp_part, wpStr_str, wp_m1, wp_seq, wp_next, wp_brk, wp_cnt, wp_never, wp_asg, wp_asgO, wp_drop, wp_ret, wp_ifS, wp_asgT, wp_app, wp_clear, wp_clrFor, wp_thru, wp_iter, wp_rng1, wp_rng2, wp_enum, wp_zip, one1_1, one2_2, wp_rng1V, wp_rng2V, wp_enumV, wp_zipT, wp_zipLL, wp_add, wp_sub, wp_mul, wp_fdiv, wp_mod, wp_pow, wp_lt, wp_le, wp_gt, wp_ge, wp_eqI, wp_neI, wp_eqS, wp_neS, SX.S_len, S_cps, wp_ixT, wp_ixL, wp_ixN, wp_ixS, atI_0, atI_1, atI_2, wp_lenL, wp_lenT, wp_lenN, wp_lenS, wp_tupL, wp_tupT, wp_lstL, wp_lstT, wp_intI, wp_intB, wpT_name, wpT_tup, wpT_cons, wpT_nil, ownL, List.getElem?_cons_zero, List.getElem?_cons_succ, List.set_cons_zero, List.set_cons_succ, List.length_cons, List.length_nil, List.map_cons, List.map_nil, plainL, wipeD, reduceCtorEq, if_true, if_false, decide_true, decide_false, decide_eq_true_eq, Bool.and_true, Bool.true_and, Bool.not_true, Bool.not_false, Bool.not_eq_true', decide_eq_false_iff_not, Bool.false_eq_true, not_true_eq_false, not_false_eq_true, ne_eq, eq_self, and_self, and_true, true_and, D.imm, immL, kidsImm, Option.some.injEq, exists_eq_left', Nat.zero_add, Nat.reduceAdd, Nat.reduceLeDiff, Nat.reduceLT, Int.reduceLT, Int.reduceLE, Int.reduceNeg, Int.reducePow, Int.reduceAdd, Int.reduceMul, Int.reduceSub, Int.reduceToNat, Int.reduceEq, D.int.injEq, D.bl.injEq, Bool.false_eq, Bool.not_eq_eq_eq_not, true_or, or_true, false_or, or_false, Bool.and_false, Bool.false_and]
      refine ⟨small (by omega), by omega, ⟨[], _, _, rfl, rfl, fun _ _ h => by simp at h⟩, ?_, ?_⟩
      · rintro n Γ d ⟨as, z7, z8, rfl, hal, har⟩ hd
        have hd2 := rngL_get hd
        have hin := hd2.1
        have hde := hd2.2
        subst hde
        have hnc : n < cs.length := by omega
        obtain ⟨u, hu⟩ := get_lt (xs := ws) (n := n) (by omega)
        obtain ⟨v, hv⟩ := get_lt (xs := ws) (n := n + 1) (by omega)
        obtain ⟨c, hcc⟩ := get_lt hnc
        have hcw : IsWay c := hc c (List.mem_of_getElem? hcc)
        have hub := hw u (List.mem_of_getElem? hu)
        have hvb := hw v (List.mem_of_getElem? hv)
        simp only [FinK_nx, FinK_ret, FinK_exc, Nxt_nx, Nxt_ret, Nxt_brk, Nxt_cnt, Nxt_exc, wpE_ok, wpE_exc, wpE_bad, wpL_ok, wpI_ok, wpO_ok, wpF_ok, wpF_exc, wpS_nx, wpS_ret, wpS_brk, wpS_cnt, wpS_exc, wpS_bad, wpB_bl, wp_v0sh, wp_v0ow, wp_v1sh, wp_v1ow, wp_v2sh, wp_v2ow, wp_v3sh, wp_v3ow, wp_v4sh, wp_v4ow, wp_v5sh, wp_v5ow, wp_v6sh, wp_v6ow, wp_v7sh, wp_v7ow, wp_v8sh, wp_v8ow, wp_v9sh, wp_v9ow, wp_v10sh, wp_v10ow, wp_v11sh, wp_v11ow, wp_v12sh, wp_v12ow, wp_v13sh, wp_v13ow, wp_v14sh, wp_v14ow, wp_v15sh, wp_v15ow, wp_v16sh, wp_v16ow, wp_v17sh, wp_v17ow, wp_v18sh, wp_v18ow, wp_v19sh, wp_v19ow, wp_v20sh, wp_v20ow, wp_v21sh, wp_v21ow, wp_v22sh, wp_v22ow, wp_v23sh, wp_v23ow, wp_v24sh, wp_v24ow, wp_v25sh, wp_v25ow, wp_c, wp_op2, wp_op1, wp_and, wp_or, wp_not, wp_if, wp_chain, wp_nil, wp_cons, wp_tup, wp_lst, wp_callB, wp_call1, wp_call2, wp_callD, wp_sl, wp_noPart, wpInt_int, wp_part, wpStr_str, wp_m1, wp_seq, wp_next, wp_brk, wp_cnt, wp_never, wp_asg, wp_asgO, wp_drop, wp_ret, wp_ifS, wp_asgT, wp_app, wp_clear, wp_clrFor, wp_thru, wp_iter, wp_rng1, wp_rng2, wp_enum, wp_zip, one1_1, one2_2, wp_rng1V, wp_rng2V, wp_enumV, wp_zipT, wp_zipLL, wp_add, wp_sub, wp_mul, wp_fdiv, wp_mod, wp_pow, wp_lt, wp_le, wp_gt, wp_ge, wp_eqI, wp_neI, wp_eqS, wp_neS, SX.S_len, S_cps, wp_ixT, wp_ixL, wp_ixN, wp_ixS, atI_0, atI_1, atI_2, wp_lenL, wp_lenT, wp_lenN, wp_lenS, wp_tupL, wp_tupT, wp_lstL, wp_lstT, wp_intI, wp_intB, wpT_name, wpT_tup, wpT_cons, wpT_nil, ownL, List.getElem?_cons_zero, List.getElem?_cons_succ, List.set_cons_zero, List.set_cons_succ, List.length_cons, List.length_nil, List.map_cons, List.map_nil, plainL, wipeD, reduceCtorEq, if_true, if_false, decide_true, decide_false, decide_eq_true_eq, Bool.and_true, Bool.true_and, Bool.not_true, Bool.not_false, Bool.not_eq_true', decide_eq_false_iff_not, Bool.false_eq_true, not_true_eq_false, not_false_eq_true, ne_eq, eq_self, and_self, and_true, true_and, D.imm, immL, kidsImm, Option.some.injEq, exists_eq_left', Nat.zero_add, Nat.reduceAdd, Nat.reduceLeDiff, Nat.reduceLT, Int.reduceLT, Int.reduceLE, Int.reduceNeg, Int.reducePow, Int.reduceAdd, Int.reduceMul, Int.reduceSub, Int.reduceToNat, Int.reduceEq, D.int.injEq, D.bl.injEq, Bool.false_eq, Bool.not_eq_eq_eq_not, true_or, or_true, false_or, or_false, Bool.and_false, Bool.false_and]
        refine ⟨_, atM (n := n + 1) (by omega) hv, _, atM (n := n) (by omega) hu, small (by omega), c, atI_of (n := n) (by omega) hcc, ?_⟩
        simp only [lit_l, inj_S1]
        refine ⟨⟨ok_way hcw, ok_way (.inr rfl)⟩, ?_⟩
        have go : ∀ hh ww : Int, 0 ≤ hh → hh ≤ 8 → 0 ≤ ww → ww ≤ 8 → ∃ rows, TabOk p hh ww rows ∧ den_law_table [.scr ns, .int (at_ + 10 + 17 * (0 + (n : Int))), .int p, .int hh, .int ww] = .ok false (tabE hh ww rows) := fun hh ww h1 h2 h3 h4 =>
          table_ex hn (by omega) (by omega) hp hp2 h1 h2 h3 h4
        split
        · rename_i h
          refine ⟨_, atM (n := n) (by omega) hu, _, atM (n := n + 1) (by omega) hv, small (by omega), c, atI_of (n := n) (by omega) hcc, ?_⟩
          obtain ⟨rows, ok, e⟩ := go u v hub.1 (by omega) hvb.1 (by omega)
          simp only [FinK_nx, FinK_ret, FinK_exc, Nxt_nx, Nxt_ret, Nxt_brk, Nxt_cnt, Nxt_exc, wpE_ok, wpE_exc, wpE_bad, wpL_ok, wpI_ok, wpO_ok, wpF_ok, wpF_exc, wpS_nx, wpS_ret, wpS_brk, wpS_cnt, wpS_exc, wpS_bad, wpB_bl, wp_v0sh, wp_v0ow, wp_v1sh, wp_v1ow, wp_v2sh, wp_v2ow, wp_v3sh, wp_v3ow, wp_v4sh, wp_v4ow, wp_v5sh, wp_v5ow, wp_v6sh, wp_v6ow, wp_v7sh, wp_v7ow, wp_v8sh, wp_v8ow, wp_v9sh, wp_v9ow, wp_v10sh, wp_v10ow, wp_v11sh, wp_v11ow, wp_v12sh, wp_v12ow, wp_v13sh, wp_v13ow, wp_v14sh, wp_v14ow, wp_v15sh, wp_v15ow, wp_v16sh, wp_v16ow, wp_v17sh, wp_v17ow, wp_v18sh, wp_v18ow, wp_v19sh, wp_v19ow, wp_v20sh, wp_v20ow, wp_v21sh, wp_v21ow, wp_v22sh, wp_v22ow, wp_v23sh, wp_v23ow, wp_v24sh, wp_v24ow, wp_v25sh, wp_v25ow, wp_c, wp_op2, wp_op1, wp_and, wp_or, wp_not, wp_if, wp_chain, wp_nil, wp_cons, wp_tup, wp_lst, wp_callB, wp_call1, wp_call2, wp_callD, wp_sl, wp_noPart, wpInt_int, wp_part, wpStr_str, wp_m1, wp_seq, wp_next, wp_brk, wp_cnt, wp_never, wp_asg, wp_asgO, wp_drop, wp_ret, wp_ifS, wp_asgT, wp_app, wp_clear, wp_clrFor, wp_thru, wp_iter, wp_rng1, wp_rng2, wp_enum, wp_zip, one1_1, one2_2, wp_rng1V, wp_rng2V, wp_enumV, wp_zipT, wp_zipLL, wp_add, wp_sub, wp_mul, wp_fdiv, wp_mod, wp_pow, wp_lt, wp_le, wp_gt, wp_ge, wp_eqI, wp_neI, wp_eqS, wp_neS, SX.S_len, S_cps, wp_ixT, wp_ixL, wp_ixN, wp_ixS, atI_0, atI_1, atI_2, wp_lenL, wp_lenT, wp_lenN, wp_lenS, wp_tupL, wp_tupT, wp_lstL, wp_lstT, wp_intI, wp_intB, wpT_name, wpT_tup, wpT_cons, wpT_nil, ownL, List.getElem?_cons_zero, List.getElem?_cons_succ, List.set_cons_zero, List.set_cons_succ, List.length_cons, List.length_nil, List.map_cons, List.map_nil, plainL, wipeD, reduceCtorEq, if_true, if_false, decide_true, decide_false, decide_eq_true_eq, Bool.and_true, Bool.true_and, Bool.not_true, Bool.not_false, Bool.not_eq_true', decide_eq_false_iff_not, Bool.false_eq_true, not_true_eq_false, not_false_eq_true, ne_eq, eq_self, and_self, and_true, true_and, D.imm, immL, kidsImm, Option.some.injEq, exists_eq_left', Nat.zero_add, Nat.reduceAdd, Nat.reduceLeDiff, Nat.reduceLT, Int.reduceLT, Int.reduceLE, Int.reduceNeg, Int.reducePow, Int.reduceAdd, Int.reduceMul, Int.reduceSub, Int.reduceToNat, Int.reduceEq, D.int.injEq, D.bl.injEq, Bool.false_eq, Bool.not_eq_eq_eq_not, true_or, or_true, false_or, or_false, Bool.and_false, Bool.false_and, e, List.length_map]
          rw [show D.tup [.str ⟨#[c]⟩, tabE u v rows] = arrE ⟨c, u, v, rows⟩ from rfl, map_snoc arrE]
          refine ⟨by rw [hal]; exact small1 (by omega), _, _, _, rfl, by simp [hal], fun k a hka => ?_⟩
          by_cases hk : k < n
          · rw [List.getElem?_append_left (by omega)] at hka
            exact har k a hka
          · have : k = n := by
              have := (List.getElem?_eq_some_iff.mp hka).1
              rw [List.length_append, hal] at this
              simp at this
              omega
            subst this
            rw [← hal, List.getElem?_concat_length] at hka
            cases hka
            have h' : c = 108 := by simpa using h
            exact ⟨hcc, ⟨u, v, hu, hv, fun _ => ⟨rfl, rfl⟩, fun z => absurd h' z⟩, ok⟩
        · rename_i h
          refine ⟨small (by omega), c, atI_of (n := n) (by omega) hcc, ?_⟩
          obtain ⟨rows, ok, e⟩ := go v u hvb.1 (by omega) hub.1 (by omega)
          simp only [FinK_nx, FinK_ret, FinK_exc, Nxt_nx, Nxt_ret, Nxt_brk, Nxt_cnt, Nxt_exc, wpE_ok, wpE_exc, wpE_bad, wpL_ok, wpI_ok, wpO_ok, wpF_ok, wpF_exc, wpS_nx, wpS_ret, wpS_brk, wpS_cnt, wpS_exc, wpS_bad, wpB_bl, wp_v0sh, wp_v0ow, wp_v1sh, wp_v1ow, wp_v2sh, wp_v2ow, wp_v3sh, wp_v3ow, wp_v4sh, wp_v4ow, wp_v5sh, wp_v5ow, wp_v6sh, wp_v6ow, wp_v7sh, wp_v7ow, wp_v8sh, wp_v8ow, wp_v9sh, wp_v9ow, wp_v10sh, wp_v10ow, wp_v11sh, wp_v11ow, wp_v12sh, wp_v12ow, wp_v13sh, wp_v13ow, wp_v14sh, wp_v14ow, wp_v15sh, wp_v15ow, wp_v16sh, wp_v16ow, wp_v17sh, wp_v17ow, wp_v18sh, wp_v18ow, wp_v19sh, wp_v19ow, wp_v20sh, wp_v20ow, wp_v21sh, wp_v21ow, wp_v22sh, wp_v22ow, wp_v23sh, wp_v23ow, wp_v24sh, wp_v24ow, wp_v25sh, wp_v25ow, wp_c, wp_op2, wp_op1, wp_and, wp_or, wp_not, wp_if, wp_chain, wp_nil, wp_cons, wp_tup, wp_lst, wp_callB, wp_call1, wp_call2, wp_callD, wp_sl, wp_noPart, wpInt_int, wp_part, wpStr_str, wp_m1, wp_seq, wp_next, wp_brk, wp_cnt, wp_never, wp_asg, wp_asgO, wp_drop, wp_ret, wp_ifS, wp_asgT, wp_app, wp_clear, wp_clrFor, wp_thru, wp_iter, wp_rng1, wp_rng2, wp_enum, wp_zip, one1_1, one2_2, wp_rng1V, wp_rng2V, wp_enumV, wp_zipT, wp_zipLL, wp_add, wp_sub, wp_mul, wp_fdiv, wp_mod, wp_pow, wp_lt, wp_le, wp_gt, wp_ge, wp_eqI, wp_neI, wp_eqS, wp_neS, SX.S_len, S_cps, wp_ixT, wp_ixL, wp_ixN, wp_ixS, atI_0, atI_1, atI_2, wp_lenL, wp_lenT, wp_lenN, wp_lenS, wp_tupL, wp_tupT, wp_lstL, wp_lstT, wp_intI, wp_intB, wpT_name, wpT_tup, wpT_cons, wpT_nil, ownL, List.getElem?_cons_zero, List.getElem?_cons_succ, List.set_cons_zero, List.set_cons_succ, List.length_cons, List.length_nil, List.map_cons, List.map_nil, plainL, wipeD, reduceCtorEq, if_true, if_false, decide_true, decide_false, decide_eq_true_eq, Bool.and_true, Bool.true_and, Bool.not_true, Bool.not_false, Bool.not_eq_true', decide_eq_false_iff_not, Bool.false_eq_true, not_true_eq_false, not_false_eq_true, ne_eq, eq_self, and_self, and_true, true_and, D.imm, immL, kidsImm, Option.some.injEq, exists_eq_left', Nat.zero_add, Nat.reduceAdd, Nat.reduceLeDiff, Nat.reduceLT, Int.reduceLT, Int.reduceLE, Int.reduceNeg, Int.reducePow, Int.reduceAdd, Int.reduceMul, Int.reduceSub, Int.reduceToNat, Int.reduceEq, D.int.injEq, D.bl.injEq, Bool.false_eq, Bool.not_eq_eq_eq_not, true_or, or_true, false_or, or_false, Bool.and_false, Bool.false_and, e, List.length_map]
          rw [show D.tup [.str ⟨#[c]⟩, tabE v u rows] = arrE ⟨c, v, u, rows⟩ from rfl, map_snoc arrE]
          refine ⟨by rw [hal]; exact small1 (by omega), _, _, _, rfl, by simp [hal], fun k a hka => ?_⟩
          by_cases hk : k < n
          · rw [List.getElem?_append_left (by omega)] at hka
            exact har k a hka
          · have : k = n := by
              have := (List.getElem?_eq_some_iff.mp hka).1
              rw [List.length_append, hal] at this
              simp at this
              omega
            subst this
            rw [← hal, List.getElem?_concat_length] at hka
            cases hka
            have h' : c ≠ 108 := by simpa using h
            exact ⟨hcc, ⟨u, v, hu, hv, fun z => absurd z h', fun _ => ⟨rfl, rfl⟩⟩, ok⟩
      · rintro Γ ⟨as, z7, z8, rfl, hal, har⟩
        rw [rngL_len] at hal
        simp only [FinK_nx, FinK_ret, FinK_exc, Nxt_nx, Nxt_ret, Nxt_brk, Nxt_cnt, Nxt_exc, wpE_ok, wpE_exc, wpE_bad, wpL_ok, wpI_ok, wpO_ok, wpF_ok, wpF_exc, wpS_nx, wpS_ret, wpS_brk, wpS_cnt, wpS_exc, wpS_bad, wpB_bl, wp_v0sh, wp_v0ow, wp_v1sh, wp_v1ow, wp_v2sh, wp_v2ow, wp_v3sh, wp_v3ow, wp_v4sh, wp_v4ow, wp_v5sh, wp_v5ow, wp_v6sh, wp_v6ow, wp_v7sh, wp_v7ow, wp_v8sh, wp_v8ow, wp_v9sh, wp_v9ow, wp_v10sh, wp_v10ow, wp_v11sh, wp_v11ow, wp_v12sh, wp_v12ow, wp_v13sh, wp_v13ow, wp_v14sh, wp_v14ow, wp_v15sh, wp_v15ow, wp_v16sh, wp_v16ow, wp_v17sh, wp_v17ow, wp_v18sh, wp_v18ow, wp_v19sh, wp_v19ow, wp_v20sh, wp_v20ow, wp_v21sh, wp_v21ow, wp_v22sh, wp_v22ow, wp_v23sh, wp_v23ow, wp_v24sh, wp_v24ow, wp_v25sh, wp_v25ow, wp_c, wp_op2, wp_op1, wp_and, wp_or, wp_not, wp_if, wp_chain, wp_nil, wp_cons, wp_tup, wp_lst, wp_callB, wp_call1, wp_call2, wp_callD, wp_sl, wp_noPart, wpInt_int, wp_part, wpStr_str, wp_m1, wp_seq, wp_next, wp_brk, wp_cnt, wp_never, wp_asg, wp_asgO, wp_drop, wp_ret, wp_ifS, wp_asgT, wp_app, wp_clear, wp_clrFor, wp_thru, wp_iter, wp_rng1, wp_rng2, wp_enum, wp_zip, one1_1, one2_2, wp_rng1V, wp_rng2V, wp_enumV, wp_zipT, wp_zipLL, wp_add, wp_sub, wp_mul, wp_fdiv, wp_mod, wp_pow, wp_lt, wp_le, wp_gt, wp_ge, wp_eqI, wp_neI, wp_eqS, wp_neS, SX.S_len, S_cps, wp_ixT, wp_ixL, wp_ixN, wp_ixS, atI_0, atI_1, atI_2, wp_lenL, wp_lenT, wp_lenN, wp_lenS, wp_tupL, wp_tupT, wp_lstL, wp_lstT, wp_intI, wp_intB, wpT_name, wpT_tup, wpT_cons, wpT_nil, ownL, List.getElem?_cons_zero, List.getElem?_cons_succ, List.set_cons_zero, List.set_cons_succ, List.length_cons, List.length_nil, List.map_cons, List.map_nil, plainL, wipeD, reduceCtorEq, if_true, if_false, decide_true, decide_false, decide_eq_true_eq, Bool.and_true, Bool.true_and, Bool.not_true, Bool.not_false, Bool.not_eq_true', decide_eq_false_iff_not, Bool.false_eq_true, not_true_eq_false, not_false_eq_true, ne_eq, eq_self, and_self, and_true, true_and, D.imm, immL, kidsImm, Option.some.injEq, exists_eq_left', Nat.zero_add, Nat.reduceAdd, Nat.reduceLeDiff, Nat.reduceLT, Int.reduceLT, Int.reduceLE, Int.reduceNeg, Int.reducePow, Int.reduceAdd, Int.reduceMul, Int.reduceSub, Int.reduceToNat, Int.reduceEq, D.int.injEq, D.bl.injEq, Bool.false_eq, Bool.not_eq_eq_eq_not, true_or, or_true, false_or, or_false, Bool.and_false, Bool.false_and]
        exact ⟨ws, as, ⟨hwl, hw, by omega, har⟩, rfl⟩
  obtain ⟨c, d, e, rfl, ws, as, ok, rfl⟩ := wpF_ex main
  exact ⟨ws, as, ok, e⟩
end My
end

noncomputable section
namespace My
open PySem L2 VL
open SX (S)
def IsP (p : Int) : Prop := p = 2 ∨ p = 3 ∨ p = 5 ∨ p = 7
theorem IsP.pos {p : Int} (h : IsP p) : 0 < p ∧ p < 100 := by
  rcases h with rfl | rfl | rfl | rfl <;> decide
theorem inP {p : Int} (h : IsP p) : inD true (.int p) (.tup [.int 2, .int 3, .int 5, .int 7]) = .ok .shr (.bl false) := by
  rcases h with rfl | rfl | rfl | rfl <;> rfl
def offR (p off : Int) (r : List Int) : D := .lst (r.map fun x => .int (x + p * off))
def offT (p off : Int) (t : List (List Int)) : D := .lst (t.map (offR p off))
def pairE (p : Int) (x : Arr × Int) : D := .tup [.str (S [x.1.c]), offT p x.2 x.1.t]
theorem handed_ex {ns : List Int} (hn : ns.length ≤ 63) {p : Int} (hp : IsP p) {ws : List Int} {as : List Arr} (hal : as.length ≤ 5) :
    ∃ ps : List (Arr × Int), ps.map Prod.fst = as ∧ den_law_handed [.scr ns, rowE p ws as] = .ok true (.lst (ps.map (pairE p))) := by
  have main : wpF (den_law_handed [.scr ns, rowE p ws as]) (fun c d => c = true ∧ ∃ ps : List (Arr × Int), ps.map Prod.fst = as ∧ d = .lst (ps.map (pairE p))) fun _ => False := by
    unfold den_law_handed rowE
    rw [wpF_denOf (Γ := [.sh (.scr ns), .sh (.tup [.int p, .tup (ws.map .int), .tup (as.map arrE)]), .no, .no, .no, .no, .no, .no, .no]) rfl]
    simp only [bd_law_handed, FinK_nx, FinK_ret, FinK_exc, Nxt_nx, Nxt_ret, Nxt_brk, Nxt_cnt, Nxt_exc, wpE_ok, wpE_exc, wpE_bad, wpL_ok, wpI_ok, wpO_ok, wpF_ok, wpF_exc, wpS_nx, wpS_ret, wpS_brk, wpS_cnt, wpS_exc, wpS_bad, wpB_bl, wp_v0sh, wp_v0ow, wp_v1sh, wp_v1ow, wp_v2sh, wp_v2ow, wp_v3sh, wp_v3ow, wp_v4sh, wp_v4ow, wp_v5sh, wp_v5ow, wp_v6sh, wp_v6ow, wp_v7sh, wp_v7ow, wp_v8sh, wp_v8ow, wp_v9sh, wp_v9ow, wp_v10sh, wp_v10ow, wp_v11sh, wp_v11ow, wp_v12sh, wp_v12ow, wp_v13sh, wp_v13ow, wp_v14sh, wp_v14ow, wp_v15sh, wp_v15ow, wp_v16sh, wp_v16ow, wp_v17sh, wp_v17ow, wp_v18sh, wp_v18ow, wp_v19sh, wp_v19ow, wp_v20sh, wp_v20ow, wp_v21sh, wp_v21ow, wp_v22sh, wp_v22ow, wp_v23sh, wp_v23ow, wp_v24sh, wp_v24ow, wp_v25sh, wp_v25ow, wp_c, wp_op2, wp_op1, wp_and, wp_or, wp_not, wp_if, wp_chain, wp_nil, wp_cons, wp_tup, wp_lst, wp_callB, wp_call1, wp_call2, wp_callD, wp_sl, wp_noPart, wpInt_int, wp_part, wpStr_str, wp_m1, wp_seq, wp_next, wp_brk, wp_cnt, wp_never, wp_asg, wp_asgO, wp_drop, wp_ret, wp_ifS, wp_asgT, wp_app, wp_clear, wp_clrFor, wp_thru, wp_iter, wp_rng1, wp_rng2, wp_enum, wp_zip, one1_1, one2_2, wp_rng1V, wp_rng2V, wp_enumV, wp_zipT, wp_zipLL, wp_add, wp_sub, wp_mul, wp_fdiv, wp_mod, wp_pow, wp_lt, wp_le, wp_gt, wp_ge, wp_eqI, wp_neI, wp_eqS, wp_neS, SX.S_len, S_cps, wp_ixT, wp_ixL, wp_ixN, wp_ixS, atI_0, atI_1, atI_2, wp_lenL, wp_lenT, wp_lenN, wp_lenS, wp_tupL, wp_tupT, wp_lstL, wp_lstT, wp_intI, wp_intB, wpT_name, wpT_tup, wpT_cons, wpT_nil, ownL, List.getElem?_cons_zero, List.getElem?_cons_succ, List.set_cons_zero, List.set_cons_succ, List.length_cons, List.length_nil, List.map_cons, List.map_nil, plainL, wipeD, reduceCtorEq, if_true, if_false, decide_true, decide_false, decide_eq_true_eq, Bool.and_true, Bool.true_and, Bool.not_true, Bool.not_false, Bool.not_eq_true', decide_eq_false_iff_not, Bool.false_eq_true, not_true_eq_false, not_false_eq_true, ne_eq, eq_self, and_self, and_true, true_and, D.imm, immL, kidsImm, Option.some.injEq, exists_eq_left', Nat.zero_add, Nat.reduceAdd, Nat.reduceLeDiff, Nat.reduceLT, Int.reduceLT, Int.reduceLE, Int.reduceNeg, Int.reducePow, Int.reduceAdd, Int.reduceMul, Int.reduceSub, Int.reduceToNat, Int.reduceEq, D.int.injEq, D.bl.injEq, Bool.false_eq, Bool.not_eq_eq_eq_not, true_or, or_true, false_or, or_false, Bool.and_false, Bool.false_and]
    refine wp_for (fun n Γ => ∃ (ps : List (Arr × Int)) (z3 z4 z5 z6 z7 z8 : Slot), Γ = [.sh (.scr ns), .sh (.tup [.int p, .tup (ws.map .int), .tup (as.map arrE)]), .ow (.lst (ps.map (pairE p))), z3, z4, z5, z6, z7, z8] ∧ ps.map Prod.fst = as.take n) ?_
    simp only [FinK_nx, FinK_ret, FinK_exc, Nxt_nx, Nxt_ret, Nxt_brk, Nxt_cnt, Nxt_exc, wpE_ok, wpE_exc, wpE_bad, wpL_ok, wpI_ok, wpO_ok, wpF_ok, wpF_exc, wpS_nx, wpS_ret, wpS_brk, wpS_cnt, wpS_exc, wpS_bad, wpB_bl, wp_v0sh, wp_v0ow, wp_v1sh, wp_v1ow, wp_v2sh, wp_v2ow, wp_v3sh, wp_v3ow, wp_v4sh, wp_v4ow, wp_v5sh, wp_v5ow, wp_v6sh, wp_v6ow, wp_v7sh, wp_v7ow, wp_v8sh, wp_v8ow, wp_v9sh, wp_v9ow, wp_v10sh, wp_v10ow, wp_v11sh, wp_v11ow, wp_v12sh, wp_v12ow, wp_v13sh, wp_v13ow, wp_v14sh, wp_v14ow, wp_v15sh, wp_v15ow, wp_v16sh, wp_v16ow, wp_v17sh, wp_v17ow, wp_v18sh, wp_v18ow, wp_v19sh, wp_v19ow, wp_v20sh, wp_v20ow, wp_v21sh, wp_v21ow, wp_v22sh, wp_v22ow, wp_v23sh, wp_v23ow, wp_v24sh, wp_v24ow, wp_v25sh, wp_v25ow, wp_c, wp_op2, wp_op1, wp_and, wp_or, wp_not, wp_if, wp_chain, wp_nil, wp_cons, wp_tup, wp_lst, wp_callB, wp_call1, wp_call2, wp_callD, wp_sl, wp_noPart, wpInt_int, wp_part, wpStr_str, wp_m1, wp_seq, wp_next, wp_brk, wp_cnt, wp_never, wp_asg, wp_asgO, wp_drop, wp_ret, wp_ifS, wp_asgT, wp_app, wp_clear, wp_clrFor, wp_thru, wp_iter, wp_rng1, wp_rng2, wp_enum, wp_zip, one1_1, one2_2, wp_rng1V, wp_rng2V, wp_enumV, wp_zipT, wp_zipLL, wp_add, wp_sub, wp_mul, wp_fdiv, wp_mod, wp_pow, wp_lt, wp_le, wp_gt, wp_ge, wp_eqI, wp_neI, wp_eqS, wp_neS, SX.S_len, S_cps, wp_ixT, wp_ixL, wp_ixN, wp_ixS, atI_0, atI_1, atI_2, wp_lenL, wp_lenT, wp_lenN, wp_lenS, wp_tupL, wp_tupT, wp_lstL, wp_lstT, wp_intI, wp_intB, wpT_name, wpT_tup, wpT_cons, wpT_nil, ownL, List.getElem?_cons_zero, List.getElem?_cons_succ, List.set_cons_zero, List.set_cons_succ, List.length_cons, List.length_nil, List.map_cons, List.map_nil, plainL, wipeD, reduceCtorEq, if_true, if_false, decide_true, decide_false, decide_eq_true_eq, Bool.and_true, Bool.true_and, Bool.not_true, Bool.not_false, Bool.not_eq_true', decide_eq_false_iff_not, Bool.false_eq_true, not_true_eq_false, not_false_eq_true, ne_eq, eq_self, and_self, and_true, true_and, D.imm, immL, kidsImm, Option.some.injEq, exists_eq_left', Nat.zero_add, Nat.reduceAdd, Nat.reduceLeDiff, Nat.reduceLT, Int.reduceLT, Int.reduceLE, Int.reduceNeg, Int.reducePow, Int.reduceAdd, Int.reduceMul, Int.reduceSub, Int.reduceToNat, Int.reduceEq, D.int.injEq, D.bl.injEq, Bool.false_eq, Bool.not_eq_eq_eq_not, true_or, or_true, false_or, or_false, Bool.and_false, Bool.false_and, List.length_map]
    refine ⟨by omega, ⟨[], _, _, _, _, _, _, rfl, rfl⟩, ?_, ?_⟩
    · rintro n Γ d ⟨ps, z3, z4, z5, z6, z7, z8, rfl, hps⟩ hd
      have hd2 := rngL_get hd
      have hin := hd2.1
      have hde := hd2.2
      subst hde
      have hna : n < as.length := by omega
      obtain ⟨a, haa⟩ := get_lt hna
      have hpl : ps.length = n := by
        have := congrArg List.length hps
        rw [List.length_map, List.length_take] at this
        omega
      have hk0 : 0 ≤ 120 + (0 + (n : Int)) := by omega
      have hk1 : 120 + (0 + (n : Int)) ≤ 1000 := by omega
      simp only [FinK_nx, FinK_ret, FinK_exc, Nxt_nx, Nxt_ret, Nxt_brk, Nxt_cnt, Nxt_exc, wpE_ok, wpE_exc, wpE_bad, wpL_ok, wpI_ok, wpO_ok, wpF_ok, wpF_exc, wpS_nx, wpS_ret, wpS_brk, wpS_cnt, wpS_exc, wpS_bad, wpB_bl, wp_v0sh, wp_v0ow, wp_v1sh, wp_v1ow, wp_v2sh, wp_v2ow, wp_v3sh, wp_v3ow, wp_v4sh, wp_v4ow, wp_v5sh, wp_v5ow, wp_v6sh, wp_v6ow, wp_v7sh, wp_v7ow, wp_v8sh, wp_v8ow, wp_v9sh, wp_v9ow, wp_v10sh, wp_v10ow, wp_v11sh, wp_v11ow, wp_v12sh, wp_v12ow, wp_v13sh, wp_v13ow, wp_v14sh, wp_v14ow, wp_v15sh, wp_v15ow, wp_v16sh, wp_v16ow, wp_v17sh, wp_v17ow, wp_v18sh, wp_v18ow, wp_v19sh, wp_v19ow, wp_v20sh, wp_v20ow, wp_v21sh, wp_v21ow, wp_v22sh, wp_v22ow, wp_v23sh, wp_v23ow, wp_v24sh, wp_v24ow, wp_v25sh, wp_v25ow, wp_c, wp_op2, wp_op1, wp_and, wp_or, wp_not, wp_if, wp_chain, wp_nil, wp_cons, wp_tup, wp_lst, wp_callB, wp_call1, wp_call2, wp_callD, wp_sl, wp_noPart, wpInt_int, wp_part, wpStr_str, wp_m1, wp_seq, wp_next, wp_brk, wp_cnt, wp_never, wp_asg, wp_asgO, wp_drop, wp_ret, wp_ifS, wp_asgT, wp_app, wp_clear, wp_clrFor, wp_thru, wp_iter, wp_rng1, wp_rng2, wp_enum, wp_zip, one1_1, one2_2, wp_rng1V, wp_rng2V, wp_enumV, wp_zipT, wp_zipLL, wp_add, wp_sub, wp_mul, wp_fdiv, wp_mod, wp_pow, wp_lt, wp_le, wp_gt, wp_ge, wp_eqI, wp_neI, wp_eqS, wp_neS, SX.S_len, S_cps, wp_ixT, wp_ixL, wp_ixN, wp_ixS, atI_0, atI_1, atI_2, wp_lenL, wp_lenT, wp_lenN, wp_lenS, wp_tupL, wp_tupT, wp_lstL, wp_lstT, wp_intI, wp_intB, wpT_name, wpT_tup, wpT_cons, wpT_nil, ownL, List.getElem?_cons_zero, List.getElem?_cons_succ, List.set_cons_zero, List.set_cons_succ, List.length_cons, List.length_nil, List.map_cons, List.map_nil, plainL, wipeD, reduceCtorEq, if_true, if_false, decide_true, decide_false, decide_eq_true_eq, Bool.and_true, Bool.true_and, Bool.not_true, Bool.not_false, Bool.not_eq_true', decide_eq_false_iff_not, Bool.false_eq_true, not_true_eq_false, not_false_eq_true, ne_eq, eq_self, and_self, and_true, true_and, D.imm, immL, kidsImm, Option.some.injEq, exists_eq_left', Nat.zero_add, Nat.reduceAdd, Nat.reduceLeDiff, Nat.reduceLT, Int.reduceLT, Int.reduceLE, Int.reduceNeg, Int.reducePow, Int.reduceAdd, Int.reduceMul, Int.reduceSub, Int.reduceToNat, Int.reduceEq, D.int.injEq, D.bl.injEq, Bool.false_eq, Bool.not_eq_eq_eq_not, true_or, or_true, false_or, or_false, Bool.and_false, Bool.false_and]
      refine ⟨_, atM (n := n) (by omega) haa, ?_⟩
      have hpp := hp.pos
      have hm : ∀ o : Int, -1000 ≤ o → o ≤ 1001 → ((-18446744073709551616 < p ∧ p < 18446744073709551616) ∨ (-18446744073709551616 < o ∧ o < 18446744073709551616)) := fun o _ _ => .inl ⟨by omega, by omega⟩
      have z1 := Int.emod_nonneg (mixV ns (120 + (0 + (n : Int)))) (b := 2001) (by decide)
      have z2 := Int.emod_lt_of_pos (mixV ns (120 + (0 + (n : Int)))) (b := 2001) (by decide)
      simp only [arrE, FinK_nx, FinK_ret, FinK_exc, Nxt_nx, Nxt_ret, Nxt_brk, Nxt_cnt, Nxt_exc, wpE_ok, wpE_exc, wpE_bad, wpL_ok, wpI_ok, wpO_ok, wpF_ok, wpF_exc, wpS_nx, wpS_ret, wpS_brk, wpS_cnt, wpS_exc, wpS_bad, wpB_bl, wp_v0sh, wp_v0ow, wp_v1sh, wp_v1ow, wp_v2sh, wp_v2ow, wp_v3sh, wp_v3ow, wp_v4sh, wp_v4ow, wp_v5sh, wp_v5ow, wp_v6sh, wp_v6ow, wp_v7sh, wp_v7ow, wp_v8sh, wp_v8ow, wp_v9sh, wp_v9ow, wp_v10sh, wp_v10ow, wp_v11sh, wp_v11ow, wp_v12sh, wp_v12ow, wp_v13sh, wp_v13ow, wp_v14sh, wp_v14ow, wp_v15sh, wp_v15ow, wp_v16sh, wp_v16ow, wp_v17sh, wp_v17ow, wp_v18sh, wp_v18ow, wp_v19sh, wp_v19ow, wp_v20sh, wp_v20ow, wp_v21sh, wp_v21ow, wp_v22sh, wp_v22ow, wp_v23sh, wp_v23ow, wp_v24sh, wp_v24ow, wp_v25sh, wp_v25ow, wp_c, wp_op2, wp_op1, wp_and, wp_or, wp_not, wp_if, wp_chain, wp_nil, wp_cons, wp_tup, wp_lst, wp_callB, wp_call1, wp_call2, wp_callD, wp_sl, wp_noPart, wpInt_int, wp_part, wpStr_str, wp_m1, wp_seq, wp_next, wp_brk, wp_cnt, wp_never, wp_asg, wp_asgO, wp_drop, wp_ret, wp_ifS, wp_asgT, wp_app, wp_clear, wp_clrFor, wp_thru, wp_iter, wp_rng1, wp_rng2, wp_enum, wp_zip, one1_1, one2_2, wp_rng1V, wp_rng2V, wp_enumV, wp_zipT, wp_zipLL, wp_add, wp_sub, wp_mul, wp_fdiv, wp_mod, wp_pow, wp_lt, wp_le, wp_gt, wp_ge, wp_eqI, wp_neI, wp_eqS, wp_neS, SX.S_len, S_cps, wp_ixT, wp_ixL, wp_ixN, wp_ixS, atI_0, atI_1, atI_2, wp_lenL, wp_lenT, wp_lenN, wp_lenS, wp_tupL, wp_tupT, wp_lstL, wp_lstT, wp_intI, wp_intB, wpT_name, wpT_tup, wpT_cons, wpT_nil, ownL, List.getElem?_cons_zero, List.getElem?_cons_succ, List.set_cons_zero, List.set_cons_succ, List.length_cons, List.length_nil, List.map_cons, List.map_nil, plainL, wipeD, reduceCtorEq, if_true, if_false, decide_true, decide_false, decide_eq_true_eq, Bool.and_true, Bool.true_and, Bool.not_true, Bool.not_false, Bool.not_eq_true', decide_eq_false_iff_not, Bool.false_eq_true, not_true_eq_false, not_false_eq_true, ne_eq, eq_self, and_self, and_true, true_and, D.imm, immL, kidsImm, Option.some.injEq, exists_eq_left', Nat.zero_add, Nat.reduceAdd, Nat.reduceLeDiff, Nat.reduceLT, Int.reduceLT, Int.reduceLE, Int.reduceNeg, Int.reducePow, Int.reduceAdd, Int.reduceMul, Int.reduceSub, Int.reduceToNat, Int.reduceEq, D.int.injEq, D.bl.injEq, Bool.false_eq, Bool.not_eq_eq_eq_not, true_or, or_true, false_or, or_false, Bool.and_false, Bool.false_and, wp_mix hn hk0 hk1]
      generalize mixV ns (120 + (0 + (n : Int))) % 2001 = m at z1 z2
      refine wp_lcMap (fun d => match d with | .tup ds => .lst (ds.map fun x => match x with | .int i => .int (i + p * (m - 1000)) | x => x) | d => d) ?_
      simp only [tabE, FinK_nx, FinK_ret, FinK_exc, Nxt_nx, Nxt_ret, Nxt_brk, Nxt_cnt, Nxt_exc, wpE_ok, wpE_exc, wpE_bad, wpL_ok, wpI_ok, wpO_ok, wpF_ok, wpF_exc, wpS_nx, wpS_ret, wpS_brk, wpS_cnt, wpS_exc, wpS_bad, wpB_bl, wp_v0sh, wp_v0ow, wp_v1sh, wp_v1ow, wp_v2sh, wp_v2ow, wp_v3sh, wp_v3ow, wp_v4sh, wp_v4ow, wp_v5sh, wp_v5ow, wp_v6sh, wp_v6ow, wp_v7sh, wp_v7ow, wp_v8sh, wp_v8ow, wp_v9sh, wp_v9ow, wp_v10sh, wp_v10ow, wp_v11sh, wp_v11ow, wp_v12sh, wp_v12ow, wp_v13sh, wp_v13ow, wp_v14sh, wp_v14ow, wp_v15sh, wp_v15ow, wp_v16sh, wp_v16ow, wp_v17sh, wp_v17ow, wp_v18sh, wp_v18ow, wp_v19sh, wp_v19ow, wp_v20sh, wp_v20ow, wp_v21sh, wp_v21ow, wp_v22sh, wp_v22ow, wp_v23sh, wp_v23ow, wp_v24sh, wp_v24ow, wp_v25sh, wp_v25ow, wp_c, wp_op2, wp_op1, wp_and, wp_or, wp_not, wp_if, wp_chain, wp_nil, wp_cons, wp_tup, wp_lst, wp_callB, wp_call1, wp_call2, wp_callD, wp_sl, wp_noPart, wpInt_int, wp_part, wpStr_str, wp_m1, wp_seq, wp_next, wp_brk, wp_cnt, wp_never, wp_asg, wp_asgO, wp_drop, wp_ret, wp_ifS, wp_asgT, wp_app, wp_clear, wp_clrFor, wp_thru, wp_iter, wp_rng1, wp_rng2, wp_enum, wp_zip, one1_1, one2_2, wp_rng1V, wp_rng2V, wp_enumV, wp_zipT, wp_zipLL, wp_add, wp_sub, wp_mul, wp_fdiv, wp_mod, wp_pow, wp_lt, wp_le, wp_gt, wp_ge, wp_eqI, wp_neI, wp_eqS, wp_neS, SX.S_len, S_cps, wp_ixT, wp_ixL, wp_ixN, wp_ixS, atI_0, atI_1, atI_2, wp_lenL, wp_lenT, wp_lenN, wp_lenS, wp_tupL, wp_tupT, wp_lstL, wp_lstT, wp_intI, wp_intB, wpT_name, wpT_tup, wpT_cons, wpT_nil, ownL, List.getElem?_cons_zero, List.getElem?_cons_succ, List.set_cons_zero, List.set_cons_succ, List.length_cons, List.length_nil, List.map_cons, List.map_nil, plainL, wipeD, reduceCtorEq, if_true, if_false, decide_true, decide_false, decide_eq_true_eq, Bool.and_true, Bool.true_and, Bool.not_true, Bool.not_false, Bool.not_eq_true', decide_eq_false_iff_not, Bool.false_eq_true, not_true_eq_false, not_false_eq_true, ne_eq, eq_self, and_self, and_true, true_and, D.imm, immL, kidsImm, Option.some.injEq, exists_eq_left', Nat.zero_add, Nat.reduceAdd, Nat.reduceLeDiff, Nat.reduceLT, Int.reduceLT, Int.reduceLE, Int.reduceNeg, Int.reducePow, Int.reduceAdd, Int.reduceMul, Int.reduceSub, Int.reduceToNat, Int.reduceEq, D.int.injEq, D.bl.injEq, Bool.false_eq, Bool.not_eq_eq_eq_not, true_or, or_true, false_or, or_false, Bool.and_false, Bool.false_and]
      refine ⟨fun d hd => ?_, ?_⟩
      · obtain ⟨r, hr, rfl⟩ := List.mem_map.mp hd
        refine wp_lcMap (fun x => match x with | .int i => .int (i + p * (m - 1000)) | x => x) ?_
        simp only [rowT, FinK_nx, FinK_ret, FinK_exc, Nxt_nx, Nxt_ret, Nxt_brk, Nxt_cnt, Nxt_exc, wpE_ok, wpE_exc, wpE_bad, wpL_ok, wpI_ok, wpO_ok, wpF_ok, wpF_exc, wpS_nx, wpS_ret, wpS_brk, wpS_cnt, wpS_exc, wpS_bad, wpB_bl, wp_v0sh, wp_v0ow, wp_v1sh, wp_v1ow, wp_v2sh, wp_v2ow, wp_v3sh, wp_v3ow, wp_v4sh, wp_v4ow, wp_v5sh, wp_v5ow, wp_v6sh, wp_v6ow, wp_v7sh, wp_v7ow, wp_v8sh, wp_v8ow, wp_v9sh, wp_v9ow, wp_v10sh, wp_v10ow, wp_v11sh, wp_v11ow, wp_v12sh, wp_v12ow, wp_v13sh, wp_v13ow, wp_v14sh, wp_v14ow, wp_v15sh, wp_v15ow, wp_v16sh, wp_v16ow, wp_v17sh, wp_v17ow, wp_v18sh, wp_v18ow, wp_v19sh, wp_v19ow, wp_v20sh, wp_v20ow, wp_v21sh, wp_v21ow, wp_v22sh, wp_v22ow, wp_v23sh, wp_v23ow, wp_v24sh, wp_v24ow, wp_v25sh, wp_v25ow, wp_c, wp_op2, wp_op1, wp_and, wp_or, wp_not, wp_if, wp_chain, wp_nil, wp_cons, wp_tup, wp_lst, wp_callB, wp_call1, wp_call2, wp_callD, wp_sl, wp_noPart, wpInt_int, wp_part, wpStr_str, wp_m1, wp_seq, wp_next, wp_brk, wp_cnt, wp_never, wp_asg, wp_asgO, wp_drop, wp_ret, wp_ifS, wp_asgT, wp_app, wp_clear, wp_clrFor, wp_thru, wp_iter, wp_rng1, wp_rng2, wp_enum, wp_zip, one1_1, one2_2, wp_rng1V, wp_rng2V, wp_enumV, wp_zipT, wp_zipLL, wp_add, wp_sub, wp_mul, wp_fdiv, wp_mod, wp_pow, wp_lt, wp_le, wp_gt, wp_ge, wp_eqI, wp_neI, wp_eqS, wp_neS, SX.S_len, S_cps, wp_ixT, wp_ixL, wp_ixN, wp_ixS, atI_0, atI_1, atI_2, wp_lenL, wp_lenT, wp_lenN, wp_lenS, wp_tupL, wp_tupT, wp_lstL, wp_lstT, wp_intI, wp_intB, wpT_name, wpT_tup, wpT_cons, wpT_nil, ownL, List.getElem?_cons_zero, List.getElem?_cons_succ, List.set_cons_zero, List.set_cons_succ, List.length_cons, List.length_nil, List.map_cons, List.map_nil, plainL, wipeD, reduceCtorEq, if_true, if_false, decide_true, decide_false, decide_eq_true_eq, Bool.and_true, Bool.true_and, Bool.not_true, Bool.not_false, Bool.not_eq_true', decide_eq_false_iff_not, Bool.false_eq_true, not_true_eq_false, not_false_eq_true, ne_eq, eq_self, and_self, and_true, true_and, D.imm, immL, kidsImm, Option.some.injEq, exists_eq_left', Nat.zero_add, Nat.reduceAdd, Nat.reduceLeDiff, Nat.reduceLT, Int.reduceLT, Int.reduceLE, Int.reduceNeg, Int.reducePow, Int.reduceAdd, Int.reduceMul, Int.reduceSub, Int.reduceToNat, Int.reduceEq, D.int.injEq, D.bl.injEq, Bool.false_eq, Bool.not_eq_eq_eq_not, true_or, or_true, false_or, or_false, Bool.and_false, Bool.false_and]
        intro d hd
        obtain ⟨x, hx, rfl⟩ := List.mem_map.mp hd
        simp only [FinK_nx, FinK_ret, FinK_exc, Nxt_nx, Nxt_ret, Nxt_brk, Nxt_cnt, Nxt_exc, wpE_ok, wpE_exc, wpE_bad, wpL_ok, wpI_ok, wpO_ok, wpF_ok, wpF_exc, wpS_nx, wpS_ret, wpS_brk, wpS_cnt, wpS_exc, wpS_bad, wpB_bl, wp_v0sh, wp_v0ow, wp_v1sh, wp_v1ow, wp_v2sh, wp_v2ow, wp_v3sh, wp_v3ow, wp_v4sh, wp_v4ow, wp_v5sh, wp_v5ow, wp_v6sh, wp_v6ow, wp_v7sh, wp_v7ow, wp_v8sh, wp_v8ow, wp_v9sh, wp_v9ow, wp_v10sh, wp_v10ow, wp_v11sh, wp_v11ow, wp_v12sh, wp_v12ow, wp_v13sh, wp_v13ow, wp_v14sh, wp_v14ow, wp_v15sh, wp_v15ow, wp_v16sh, wp_v16ow, wp_v17sh, wp_v17ow, wp_v18sh, wp_v18ow, wp_v19sh, wp_v19ow, wp_v20sh, wp_v20ow, wp_v21sh, wp_v21ow, wp_v22sh, wp_v22ow, wp_v23sh, wp_v23ow, wp_v24sh, wp_v24ow, wp_v25sh, wp_v25ow, wp_c, wp_op2, wp_op1, wp_and, wp_or, wp_not, wp_if, wp_chain, wp_nil, wp_cons, wp_tup, wp_lst, wp_callB, wp_call1, wp_call2, wp_callD, wp_sl, wp_noPart, wpInt_int, wp_part, wpStr_str, wp_m1, wp_seq, wp_next, wp_brk, wp_cnt, wp_never, wp_asg, wp_asgO, wp_drop, wp_ret, wp_ifS, wp_asgT, wp_app, wp_clear, wp_clrFor, wp_thru, wp_iter, wp_rng1, wp_rng2, wp_enum, wp_zip, one1_1, one2_2, wp_rng1V, wp_rng2V, wp_enumV, wp_zipT, wp_zipLL, wp_add, wp_sub, wp_mul, wp_fdiv, wp_mod, wp_pow, wp_lt, wp_le, wp_gt, wp_ge, wp_eqI, wp_neI, wp_eqS, wp_neS, SX.S_len, S_cps, wp_ixT, wp_ixL, wp_ixN, wp_ixS, atI_0, atI_1, atI_2, wp_lenL, wp_lenT, wp_lenN, wp_lenS, wp_tupL, wp_tupT, wp_lstL, wp_lstT, wp_intI, wp_intB, wpT_name, wpT_tup, wpT_cons, wpT_nil, ownL, List.getElem?_cons_zero, List.getElem?_cons_succ, List.set_cons_zero, List.set_cons_succ, List.length_cons, List.length_nil, List.map_cons, List.map_nil, plainL, wipeD, reduceCtorEq, if_true, if_false, decide_true, decide_false, decide_eq_true_eq, Bool.and_true, Bool.true_and, Bool.not_true, Bool.not_false, Bool.not_eq_true', decide_eq_false_iff_not, Bool.false_eq_true, not_true_eq_false, not_false_eq_true, ne_eq, eq_self, and_self, and_true, true_and, D.imm, immL, kidsImm, Option.some.injEq, exists_eq_left', Nat.zero_add, Nat.reduceAdd, Nat.reduceLeDiff, Nat.reduceLT, Int.reduceLT, Int.reduceLE, Int.reduceNeg, Int.reducePow, Int.reduceAdd, Int.reduceMul, Int.reduceSub, Int.reduceToNat, Int.reduceEq, D.int.injEq, D.bl.injEq, Bool.false_eq, Bool.not_eq_eq_eq_not, true_or, or_true, false_or, or_false, Bool.and_false, Bool.false_and]
        exact hm _ (by omega) (by omega)
      · simp only [FinK_nx, FinK_ret, FinK_exc, Nxt_nx, Nxt_ret, Nxt_brk, Nxt_cnt, Nxt_exc, wpE_ok, wpE_exc, wpE_bad, wpL_ok, wpI_ok, wpO_ok, wpF_ok, wpF_exc, wpS_nx, wpS_ret, wpS_brk, wpS_cnt, wpS_exc, wpS_bad, wpB_bl, wp_v0sh, wp_v0ow, wp_v1sh, wp_v1ow, wp_v2sh, wp_v2ow, wp_v3sh, wp_v3ow, wp_v4sh, wp_v4ow, wp_v5sh, wp_v5ow, wp_v6sh, wp_v6ow, wp_v7sh, wp_v7ow, wp_v8sh, wp_v8ow, wp_v9sh, wp_v9ow, wp_v10sh, wp_v10ow, wp_v11sh, wp_v11ow, wp_v12sh, wp_v12ow, wp_v13sh, wp_v13ow, wp_v14sh, wp_v14ow, wp_v15sh, wp_v15ow, wp_v16sh, wp_v16ow, wp_v17sh, wp_v17ow, wp_v18sh, wp_v18ow, wp_v19sh, wp_v19ow, wp_v20sh, wp_v20ow, wp_v21sh, wp_v21ow, wp_v22sh, wp_v22ow, wp_v23sh, wp_v23ow, wp_v24sh, wp_v24ow, wp_v25sh, wp_v25ow, wp_c, wp_op2, wp_op1, wp_and, wp_or, wp_not, wp_if, wp_chain, wp_nil, wp_cons, wp_tup, wp_lst, wp_callB, wp_call1, wp_call2, wp_callD, wp_sl, wp_noPart, wpInt_int, wp_part, wpStr_str, wp_m1, wp_seq, wp_next, wp_brk, wp_cnt, wp_never, wp_asg, wp_asgO, wp_drop, wp_ret, wp_ifS, wp_asgT, wp_app, wp_clear, wp_clrFor, wp_thru, wp_iter, wp_rng1, wp_rng2, wp_enum, wp_zip, one1_1, one2_2, wp_rng1V, wp_rng2V, wp_enumV, wp_zipT, wp_zipLL, wp_add, wp_sub, wp_mul, wp_fdiv, wp_mod, wp_pow, wp_lt, wp_le, wp_gt, wp_ge, wp_eqI, wp_neI, wp_eqS, wp_neS, SX.S_len, S_cps, wp_ixT, wp_ixL, wp_ixN, wp_ixS, atI_0, atI_1, atI_2, wp_lenL, wp_lenT, wp_lenN, wp_lenS, wp_tupL, wp_tupT, wp_lstL, wp_lstT, wp_intI, wp_intB, wpT_name, wpT_tup, wpT_cons, wpT_nil, ownL, List.getElem?_cons_zero, List.getElem?_cons_succ, List.set_cons_zero, List.set_cons_succ, List.length_cons, List.length_nil, List.map_cons, List.map_nil, plainL, wipeD, reduceCtorEq, if_true, if_false, decide_true, decide_false, decide_eq_true_eq, Bool.and_true, Bool.true_and, Bool.not_true, Bool.not_false, Bool.not_eq_true', decide_eq_false_iff_not, Bool.false_eq_true, not_true_eq_false, not_false_eq_true, ne_eq, eq_self, and_self, and_true, true_and, D.imm, immL, kidsImm, Option.some.injEq, exists_eq_left', Nat.zero_add, Nat.reduceAdd, Nat.reduceLeDiff, Nat.reduceLT, Int.reduceLT, Int.reduceLE, Int.reduceNeg, Int.reducePow, Int.reduceAdd, Int.reduceMul, Int.reduceSub, Int.reduceToNat, Int.reduceEq, D.int.injEq, D.bl.injEq, Bool.false_eq, Bool.not_eq_eq_eq_not, true_or, or_true, false_or, or_false, Bool.and_false, Bool.false_and, List.length_map]
        have e : List.map (fun d => match d with | .tup ds => D.lst (ds.map fun x => match x with | .int i => .int (i + p * (m - 1000)) | x => x) | d => d) (a.t.map rowT) = a.t.map (offR p (m - 1000)) := by
          rw [List.map_map]
          apply List.map_congr_left
          intro r _
          simp only [Function.comp, rowT, offR, List.map_map]
          rfl
        rw [e, show D.tup [.str ⟨#[a.c]⟩, .lst (a.t.map (offR p (m - 1000)))] = pairE p (a, m - 1000) from rfl, map_snoc (pairE p)]
        refine ⟨by rw [hpl]; exact small1 (by omega), _, _, _, _, _, _, _, rfl, ?_⟩
        rw [List.map_append, hps, List.take_succ, haa]
        rfl
    · rintro Γ ⟨ps, z3, z4, z5, z6, z7, z8, rfl, hps⟩
      simp only [FinK_nx, FinK_ret, FinK_exc, Nxt_nx, Nxt_ret, Nxt_brk, Nxt_cnt, Nxt_exc, wpE_ok, wpE_exc, wpE_bad, wpL_ok, wpI_ok, wpO_ok, wpF_ok, wpF_exc, wpS_nx, wpS_ret, wpS_brk, wpS_cnt, wpS_exc, wpS_bad, wpB_bl, wp_v0sh, wp_v0ow, wp_v1sh, wp_v1ow, wp_v2sh, wp_v2ow, wp_v3sh, wp_v3ow, wp_v4sh, wp_v4ow, wp_v5sh, wp_v5ow, wp_v6sh, wp_v6ow, wp_v7sh, wp_v7ow, wp_v8sh, wp_v8ow, wp_v9sh, wp_v9ow, wp_v10sh, wp_v10ow, wp_v11sh, wp_v11ow, wp_v12sh, wp_v12ow, wp_v13sh, wp_v13ow, wp_v14sh, wp_v14ow, wp_v15sh, wp_v15ow, wp_v16sh, wp_v16ow, wp_v17sh, wp_v17ow, wp_v18sh, wp_v18ow, wp_v19sh, wp_v19ow, wp_v20sh, wp_v20ow, wp_v21sh, wp_v21ow, wp_v22sh, wp_v22ow, wp_v23sh, wp_v23ow, wp_v24sh, wp_v24ow, wp_v25sh, wp_v25ow, wp_c, wp_op2, wp_op1, wp_and, wp_or, wp_not, wp_if, wp_chain, wp_nil, wp_cons, wp_tup, wp_lst, wp_callB, wp_call1, wp_call2, wp_callD, wp_sl, wp_noPart, wpInt_int, wp_part, wpStr_str, wp_m1, wp_seq, wp_next, wp_brk, wp_cnt, wp_never, wp_asg, wp_asgO, wp_drop, wp_ret, wp_ifS, wp_asgT, wp_app, wp_clear, wp_clrFor, wp_thru, wp_iter, wp_rng1, wp_rng2, wp_enum, wp_zip, one1_1, one2_2, wp_rng1V, wp_rng2V, wp_enumV, wp_zipT, wp_zipLL, wp_add, wp_sub, wp_mul, wp_fdiv, wp_mod, wp_pow, wp_lt, wp_le, wp_gt, wp_ge, wp_eqI, wp_neI, wp_eqS, wp_neS, SX.S_len, S_cps, wp_ixT, wp_ixL, wp_ixN, wp_ixS, atI_0, atI_1, atI_2, wp_lenL, wp_lenT, wp_lenN, wp_lenS, wp_tupL, wp_tupT, wp_lstL, wp_lstT, wp_intI, wp_intB, wpT_name, wpT_tup, wpT_cons, wpT_nil, ownL, List.getElem?_cons_zero, List.getElem?_cons_succ, List.set_cons_zero, List.set_cons_succ, List.length_cons, List.length_nil, List.map_cons, List.map_nil, plainL, wipeD, reduceCtorEq, if_true, if_false, decide_true, decide_false, decide_eq_true_eq, Bool.and_true, Bool.true_and, Bool.not_true, Bool.not_false, Bool.not_eq_true', decide_eq_false_iff_not, Bool.false_eq_true, not_true_eq_false, not_false_eq_true, ne_eq, eq_self, and_self, and_true, true_and, D.imm, immL, kidsImm, Option.some.injEq, exists_eq_left', Nat.zero_add, Nat.reduceAdd, Nat.reduceLeDiff, Nat.reduceLT, Int.reduceLT, Int.reduceLE, Int.reduceNeg, Int.reducePow, Int.reduceAdd, Int.reduceMul, Int.reduceSub, Int.reduceToNat, Int.reduceEq, D.int.injEq, D.bl.injEq, Bool.false_eq, Bool.not_eq_eq_eq_not, true_or, or_true, false_or, or_false, Bool.and_false, Bool.false_and]
      refine ⟨ps, ?_, rfl⟩
      rw [hps, rngL_len]
      apply List.take_of_length_le
      omega
  obtain ⟨c, d, e, rfl, ps, h1, rfl⟩ := wpF_ex main
  exact ⟨ps, h1, e⟩
theorem size_eq {ws : List Int} {n : Nat} {c : Nat} (hc : IsWay c) {h w u v : Int} (hu : ws[n]? = some u) (hv : ws[n + 1]? = some v) (h1 : c = 108 → h = u ∧ w = v) (h2 : c ≠ 108 → h = v ∧ w = u) : den_size_at [.lst (ws.map .int), .int n, .str (S [c])] = .ok false (.tup [.int h, .int w]) := by
  apply wpF_eq
  unfold den_size_at
  rw [wpF_denOf (Γ := [.sh (.lst (ws.map .int)), .sh (.int n), .sh (.str (S [c]))]) rfl]
  simp only [bd_size_at, FinK_nx, FinK_ret, FinK_exc, Nxt_nx, Nxt_ret, Nxt_brk, Nxt_cnt, Nxt_exc, wpE_ok, wpE_exc, wpE_bad, wpL_ok, wpI_ok, wpO_ok, wpF_ok, wpF_exc, wpS_nx, wpS_ret, wpS_brk, wpS_cnt, wpS_exc, wpS_bad, wpB_bl, wp_v0sh, wp_v0ow, wp_v1sh, wp_v1ow, wp_v2sh, wp_v2ow, wp_v3sh, wp_v3ow, wp_v4sh, wp_v4ow, wp_v5sh, wp_v5ow, wp_v6sh, wp_v6ow, wp_v7sh, wp_v7ow, wp_v8sh, wp_v8ow, wp_v9sh, wp_v9ow, wp_v10sh, wp_v10ow, wp_v11sh, wp_v11ow, wp_v12sh, wp_v12ow, wp_v13sh, wp_v13ow, wp_v14sh, wp_v14ow, wp_v15sh, wp_v15ow, wp_v16sh, wp_v16ow, wp_v17sh, wp_v17ow, wp_v18sh, wp_v18ow, wp_v19sh, wp_v19ow, wp_v20sh, wp_v20ow, wp_v21sh, wp_v21ow, wp_v22sh, wp_v22ow, wp_v23sh, wp_v23ow, wp_v24sh, wp_v24ow, wp_v25sh, wp_v25ow, wp_c, wp_op2, wp_op1, wp_and, wp_or, wp_not, wp_if, wp_chain, wp_nil, wp_cons, wp_tup, wp_lst, wp_callB, wp_call1, wp_call2, wp_callD, wp_sl, wp_noPart, wpInt_int, wp_part, wpStr_str, wp_m1, wp_seq, wp_next, wp_brk, wp_cnt, wp_never, wp_asg, wp_asgO, wp_drop, wp_ret, wp_ifS, wp_asgT, wp_app, wp_clear, wp_clrFor, wp_thru, wp_iter, wp_rng1, wp_rng2, wp_enum, wp_zip, one1_1, one2_2, wp_rng1V, wp_rng2V, wp_enumV, wp_zipT, wp_zipLL, wp_add, wp_sub, wp_mul, wp_fdiv, wp_mod, wp_pow, wp_lt, wp_le, wp_gt, wp_ge, wp_eqI, wp_neI, wp_eqS, wp_neS, SX.S_len, S_cps, wp_ixT, wp_ixL, wp_ixN, wp_ixS, atI_0, atI_1, atI_2, wp_lenL, wp_lenT, wp_lenN, wp_lenS, wp_tupL, wp_tupT, wp_lstL, wp_lstT, wp_intI, wp_intB, wpT_name, wpT_tup, wpT_cons, wpT_nil, ownL, List.getElem?_cons_zero, List.getElem?_cons_succ, List.set_cons_zero, List.set_cons_succ, List.length_cons, List.length_nil, List.map_cons, List.map_nil, plainL, wipeD, reduceCtorEq, if_true, if_false, decide_true, decide_false, decide_eq_true_eq, Bool.and_true, Bool.true_and, Bool.not_true, Bool.not_false, Bool.not_eq_true', decide_eq_false_iff_not, Bool.false_eq_true, not_true_eq_false, not_false_eq_true, ne_eq, eq_self, and_self, and_true, true_and, D.imm, immL, kidsImm, Option.some.injEq, exists_eq_left', Nat.zero_add, Nat.reduceAdd, Nat.reduceLeDiff, Nat.reduceLT, Int.reduceLT, Int.reduceLE, Int.reduceNeg, Int.reducePow, Int.reduceAdd, Int.reduceMul, Int.reduceSub, Int.reduceToNat, Int.reduceEq, D.int.injEq, D.bl.injEq, Bool.false_eq, Bool.not_eq_eq_eq_not, true_or, or_true, false_or, or_false, Bool.and_false, Bool.false_and]
  simp only [lit_r, inj_S1]
  refine ⟨⟨ok_way hc, ok_way (.inl rfl)⟩, ?_⟩
  rcases hc with rfl | rfl
  · obtain ⟨rfl, rfl⟩ := h2 (by decide)
    simp only [FinK_nx, FinK_ret, FinK_exc, Nxt_nx, Nxt_ret, Nxt_brk, Nxt_cnt, Nxt_exc, wpE_ok, wpE_exc, wpE_bad, wpL_ok, wpI_ok, wpO_ok, wpF_ok, wpF_exc, wpS_nx, wpS_ret, wpS_brk, wpS_cnt, wpS_exc, wpS_bad, wpB_bl, wp_v0sh, wp_v0ow, wp_v1sh, wp_v1ow, wp_v2sh, wp_v2ow, wp_v3sh, wp_v3ow, wp_v4sh, wp_v4ow, wp_v5sh, wp_v5ow, wp_v6sh, wp_v6ow, wp_v7sh, wp_v7ow, wp_v8sh, wp_v8ow, wp_v9sh, wp_v9ow, wp_v10sh, wp_v10ow, wp_v11sh, wp_v11ow, wp_v12sh, wp_v12ow, wp_v13sh, wp_v13ow, wp_v14sh, wp_v14ow, wp_v15sh, wp_v15ow, wp_v16sh, wp_v16ow, wp_v17sh, wp_v17ow, wp_v18sh, wp_v18ow, wp_v19sh, wp_v19ow, wp_v20sh, wp_v20ow, wp_v21sh, wp_v21ow, wp_v22sh, wp_v22ow, wp_v23sh, wp_v23ow, wp_v24sh, wp_v24ow, wp_v25sh, wp_v25ow, wp_c, wp_op2, wp_op1, wp_and, wp_or, wp_not, wp_if, wp_chain, wp_nil, wp_cons, wp_tup, wp_lst, wp_callB, wp_call1, wp_call2, wp_callD, wp_sl, wp_noPart, wpInt_int, wp_part, wpStr_str, wp_m1, wp_seq, wp_next, wp_brk, wp_cnt, wp_never, wp_asg, wp_asgO, wp_drop, wp_ret, wp_ifS, wp_asgT, wp_app, wp_clear, wp_clrFor, wp_thru, wp_iter, wp_rng1, wp_rng2, wp_enum, wp_zip, one1_1, one2_2, wp_rng1V, wp_rng2V, wp_enumV, wp_zipT, wp_zipLL, wp_add, wp_sub, wp_mul, wp_fdiv, wp_mod, wp_pow, wp_lt, wp_le, wp_gt, wp_ge, wp_eqI, wp_neI, wp_eqS, wp_neS, SX.S_len, S_cps, wp_ixT, wp_ixL, wp_ixN, wp_ixS, atI_0, atI_1, atI_2, wp_lenL, wp_lenT, wp_lenN, wp_lenS, wp_tupL, wp_tupT, wp_lstL, wp_lstT, wp_intI, wp_intB, wpT_name, wpT_tup, wpT_cons, wpT_nil, ownL, List.getElem?_cons_zero, List.getElem?_cons_succ, List.set_cons_zero, List.set_cons_succ, List.length_cons, List.length_nil, List.map_cons, List.map_nil, plainL, wipeD, reduceCtorEq, if_true, if_false, decide_true, decide_false, decide_eq_true_eq, Bool.and_true, Bool.true_and, Bool.not_true, Bool.not_false, Bool.not_eq_true', decide_eq_false_iff_not, Bool.false_eq_true, not_true_eq_false, not_false_eq_true, ne_eq, eq_self, and_self, and_true, true_and, D.imm, immL, kidsImm, Option.some.injEq, exists_eq_left', Nat.zero_add, Nat.reduceAdd, Nat.reduceLeDiff, Nat.reduceLT, Int.reduceLT, Int.reduceLE, Int.reduceNeg, Int.reducePow, Int.reduceAdd, Int.reduceMul, Int.reduceSub, Int.reduceToNat, Int.reduceEq, D.int.injEq, D.bl.injEq, Bool.false_eq, Bool.not_eq_eq_eq_not, true_or, or_true, false_or, or_false, Bool.and_false, Bool.false_and]
    exact ⟨_, atM (n := n + 1) (by omega) hv, _, atM (n := n) rfl hu, rfl⟩
  · obtain ⟨rfl, rfl⟩ := h1 rfl
    rw [if_neg (by decide)]
    exact ⟨_, atM (n := n) rfl hu, _, atM (n := n + 1) (by omega) hv, rfl⟩
theorem emod_off {p x off : Int} (h0 : 0 ≤ x) (h1 : x < p) : (x + p * off) % p = x := by
  rw [Int.add_mul_emod_self_left, Int.emod_eq_of_lt h0 h1]
theorem tableof_eq {p h w off : Int} (hp : IsP p) (h0 : 0 ≤ h) (h30 : h ≤ 30) (w0 : 0 ≤ w) (w30 : w ≤ 30) {t : List (List Int)} (ok : TabOk p h w t) : den_table_of [.int p, .int h, .int w, offT p off t] = .ok false (tabE h w t) := by
  apply wpF_eq
  unfold den_table_of
  rw [wpF_denOf (Γ := [.sh (.int p), .sh (.int h), .sh (.int w), .sh (offT p off t), .no, .no, .no]) rfl]
  have hl : (t.length : Int) = h := ok.hl
  have hpp := hp.pos.1
  simp only [bd_table_of, FinK_nx, FinK_ret, FinK_exc, Nxt_nx, Nxt_ret, Nxt_brk, Nxt_cnt, Nxt_exc, wpE_ok, wpE_exc, wpE_bad, wpL_ok, wpI_ok, wpO_ok, wpF_ok, wpF_exc, wpS_nx, wpS_ret, wpS_brk, wpS_cnt, wpS_exc, wpS_bad, wpB_bl, wp_v0sh, wp_v0ow, wp_v1sh, wp_v1ow, wp_v2sh, wp_v2ow, wp_v3sh, wp_v3ow, wp_v4sh, wp_v4ow, wp_v5sh, wp_v5ow, wp_v6sh, wp_v6ow, wp_v7sh, wp_v7ow, wp_v8sh, wp_v8ow, wp_v9sh, wp_v9ow, wp_v10sh, wp_v10ow, wp_v11sh, wp_v11ow, wp_v12sh, wp_v12ow, wp_v13sh, wp_v13ow, wp_v14sh, wp_v14ow, wp_v15sh, wp_v15ow, wp_v16sh, wp_v16ow, wp_v17sh, wp_v17ow, wp_v18sh, wp_v18ow, wp_v19sh, wp_v19ow, wp_v20sh, wp_v20ow, wp_v21sh, wp_v21ow, wp_v22sh, wp_v22ow, wp_v23sh, wp_v23ow, wp_v24sh, wp_v24ow, wp_v25sh, wp_v25ow, wp_c, wp_op2, wp_op1, wp_and, wp_or, wp_not, wp_if, wp_chain, wp_nil, wp_cons, wp_tup, wp_lst, wp_callB, wp_call1, wp_call2, wp_callD, wp_sl, wp_noPart, wpInt_int, wp_part, wpStr_str, wp_m1, wp_seq, wp_next, wp_brk, wp_cnt, wp_never, wp_asg, wp_asgO, wp_drop, wp_ret, wp_ifS, wp_asgT, wp_app, wp_clear, wp_clrFor, wp_thru, wp_iter, wp_rng1, wp_rng2, wp_enum, wp_zip, one1_1, one2_2, wp_rng1V, wp_rng2V, wp_enumV, wp_zipT, wp_zipLL, wp_add, wp_sub, wp_mul, wp_fdiv, wp_mod, wp_pow, wp_lt, wp_le, wp_gt, wp_ge, wp_eqI, wp_neI, wp_eqS, wp_neS, SX.S_len, S_cps, wp_ixT, wp_ixL, wp_ixN, wp_ixS, atI_0, atI_1, atI_2, wp_lenL, wp_lenT, wp_lenN, wp_lenS, wp_tupL, wp_tupT, wp_lstL, wp_lstT, wp_intI, wp_intB, wpT_name, wpT_tup, wpT_cons, wpT_nil, ownL, List.getElem?_cons_zero, List.getElem?_cons_succ, List.set_cons_zero, List.set_cons_succ, List.length_cons, List.length_nil, List.map_cons, List.map_nil, plainL, wipeD, reduceCtorEq, if_true, if_false, decide_true, decide_false, decide_eq_true_eq, Bool.and_true, Bool.true_and, Bool.not_true, Bool.not_false, Bool.not_eq_true', decide_eq_false_iff_not, Bool.false_eq_true, not_true_eq_false, not_false_eq_true, ne_eq, eq_self, and_self, and_true, true_and, D.imm, immL, kidsImm, Option.some.injEq, exists_eq_left', Nat.zero_add, Nat.reduceAdd, Nat.reduceLeDiff, Nat.reduceLT, Int.reduceLT, Int.reduceLE, Int.reduceNeg, Int.reducePow, Int.reduceAdd, Int.reduceMul, Int.reduceSub, Int.reduceToNat, Int.reduceEq, D.int.injEq, D.bl.injEq, Bool.false_eq, Bool.not_eq_eq_eq_not, true_or, or_true, false_or, or_false, Bool.and_false, Bool.false_and, inP hp, h0, h30, w0, w30, offT, List.length_map, hl]
  refine wp_for (fun n Γ => ∃ z5 z6 : Slot, Γ = [.sh (.int p), .sh (.int h), .sh (.int w), .sh (offT p off t), .ow (.lst ((t.take n).map rowT)), z5, z6]) ?_
  simp only [offT, FinK_nx, FinK_ret, FinK_exc, Nxt_nx, Nxt_ret, Nxt_brk, Nxt_cnt, Nxt_exc, wpE_ok, wpE_exc, wpE_bad, wpL_ok, wpI_ok, wpO_ok, wpF_ok, wpF_exc, wpS_nx, wpS_ret, wpS_brk, wpS_cnt, wpS_exc, wpS_bad, wpB_bl, wp_v0sh, wp_v0ow, wp_v1sh, wp_v1ow, wp_v2sh, wp_v2ow, wp_v3sh, wp_v3ow, wp_v4sh, wp_v4ow, wp_v5sh, wp_v5ow, wp_v6sh, wp_v6ow, wp_v7sh, wp_v7ow, wp_v8sh, wp_v8ow, wp_v9sh, wp_v9ow, wp_v10sh, wp_v10ow, wp_v11sh, wp_v11ow, wp_v12sh, wp_v12ow, wp_v13sh, wp_v13ow, wp_v14sh, wp_v14ow, wp_v15sh, wp_v15ow, wp_v16sh, wp_v16ow, wp_v17sh, wp_v17ow, wp_v18sh, wp_v18ow, wp_v19sh, wp_v19ow, wp_v20sh, wp_v20ow, wp_v21sh, wp_v21ow, wp_v22sh, wp_v22ow, wp_v23sh, wp_v23ow, wp_v24sh, wp_v24ow, wp_v25sh, wp_v25ow, wp_c, wp_op2, wp_op1, wp_and, wp_or, wp_not, wp_if, wp_chain, wp_nil, wp_cons, wp_tup, wp_lst, wp_callB, wp_call1, wp_call2, wp_callD, wp_sl, wp_noPart, wpInt_int, wp_part, wpStr_str, wp_m1, wp_seq, wp_next, wp_brk, wp_cnt, wp_never, wp_asg, wp_asgO, wp_drop, wp_ret, wp_ifS, wp_asgT, wp_app, wp_clear, wp_clrFor, wp_thru, wp_iter, wp_rng1, wp_rng2, wp_enum, wp_zip, one1_1, one2_2, wp_rng1V, wp_rng2V, wp_enumV, wp_zipT, wp_zipLL, wp_add, wp_sub, wp_mul, wp_fdiv, wp_mod, wp_pow, wp_lt, wp_le, wp_gt, wp_ge, wp_eqI, wp_neI, wp_eqS, wp_neS, SX.S_len, S_cps, wp_ixT, wp_ixL, wp_ixN, wp_ixS, atI_0, atI_1, atI_2, wp_lenL, wp_lenT, wp_lenN, wp_lenS, wp_tupL, wp_tupT, wp_lstL, wp_lstT, wp_intI, wp_intB, wpT_name, wpT_tup, wpT_cons, wpT_nil, ownL, List.getElem?_cons_zero, List.getElem?_cons_succ, List.set_cons_zero, List.set_cons_succ, List.length_cons, List.length_nil, List.map_cons, List.map_nil, plainL, wipeD, reduceCtorEq, if_true, if_false, decide_true, decide_false, decide_eq_true_eq, Bool.and_true, Bool.true_and, Bool.not_true, Bool.not_false, Bool.not_eq_true', decide_eq_false_iff_not, Bool.false_eq_true, not_true_eq_false, not_false_eq_true, ne_eq, eq_self, and_self, and_true, true_and, D.imm, immL, kidsImm, Option.some.injEq, exists_eq_left', Nat.zero_add, Nat.reduceAdd, Nat.reduceLeDiff, Nat.reduceLT, Int.reduceLT, Int.reduceLE, Int.reduceNeg, Int.reducePow, Int.reduceAdd, Int.reduceMul, Int.reduceSub, Int.reduceToNat, Int.reduceEq, D.int.injEq, D.bl.injEq, Bool.false_eq, Bool.not_eq_eq_eq_not, true_or, or_true, false_or, or_false, Bool.and_false, Bool.false_and, List.length_map]
  refine ⟨⟨_, _, rfl⟩, ?_, ?_⟩
  · rintro n Γ d ⟨z5, z6, rfl⟩ hd
    rw [List.getElem?_map] at hd
    cases hr : t[n]? with
    | none => rw [hr] at hd; cases hd
    | some r =>
      rw [hr] at hd
      cases hd
      have hrm := List.mem_of_getElem? hr
      have hw := ok.wl r hrm
      have hs := ok.rs r hrm
      simp only [FinK_nx, FinK_ret, FinK_exc, Nxt_nx, Nxt_ret, Nxt_brk, Nxt_cnt, Nxt_exc, wpE_ok, wpE_exc, wpE_bad, wpL_ok, wpI_ok, wpO_ok, wpF_ok, wpF_exc, wpS_nx, wpS_ret, wpS_brk, wpS_cnt, wpS_exc, wpS_bad, wpB_bl, wp_v0sh, wp_v0ow, wp_v1sh, wp_v1ow, wp_v2sh, wp_v2ow, wp_v3sh, wp_v3ow, wp_v4sh, wp_v4ow, wp_v5sh, wp_v5ow, wp_v6sh, wp_v6ow, wp_v7sh, wp_v7ow, wp_v8sh, wp_v8ow, wp_v9sh, wp_v9ow, wp_v10sh, wp_v10ow, wp_v11sh, wp_v11ow, wp_v12sh, wp_v12ow, wp_v13sh, wp_v13ow, wp_v14sh, wp_v14ow, wp_v15sh, wp_v15ow, wp_v16sh, wp_v16ow, wp_v17sh, wp_v17ow, wp_v18sh, wp_v18ow, wp_v19sh, wp_v19ow, wp_v20sh, wp_v20ow, wp_v21sh, wp_v21ow, wp_v22sh, wp_v22ow, wp_v23sh, wp_v23ow, wp_v24sh, wp_v24ow, wp_v25sh, wp_v25ow, wp_c, wp_op2, wp_op1, wp_and, wp_or, wp_not, wp_if, wp_chain, wp_nil, wp_cons, wp_tup, wp_lst, wp_callB, wp_call1, wp_call2, wp_callD, wp_sl, wp_noPart, wpInt_int, wp_part, wpStr_str, wp_m1, wp_seq, wp_next, wp_brk, wp_cnt, wp_never, wp_asg, wp_asgO, wp_drop, wp_ret, wp_ifS, wp_asgT, wp_app, wp_clear, wp_clrFor, wp_thru, wp_iter, wp_rng1, wp_rng2, wp_enum, wp_zip, one1_1, one2_2, wp_rng1V, wp_rng2V, wp_enumV, wp_zipT, wp_zipLL, wp_add, wp_sub, wp_mul, wp_fdiv, wp_mod, wp_pow, wp_lt, wp_le, wp_gt, wp_ge, wp_eqI, wp_neI, wp_eqS, wp_neS, SX.S_len, S_cps, wp_ixT, wp_ixL, wp_ixN, wp_ixS, atI_0, atI_1, atI_2, wp_lenL, wp_lenT, wp_lenN, wp_lenS, wp_tupL, wp_tupT, wp_lstL, wp_lstT, wp_intI, wp_intB, wpT_name, wpT_tup, wpT_cons, wpT_nil, ownL, List.getElem?_cons_zero, List.getElem?_cons_succ, List.set_cons_zero, List.set_cons_succ, List.length_cons, List.length_nil, List.map_cons, List.map_nil, plainL, wipeD, reduceCtorEq, if_true, if_false, decide_true, decide_false, decide_eq_true_eq, Bool.and_true, Bool.true_and, Bool.not_true, Bool.not_false, Bool.not_eq_true', decide_eq_false_iff_not, Bool.false_eq_true, not_true_eq_false, not_false_eq_true, ne_eq, eq_self, and_self, and_true, true_and, D.imm, immL, kidsImm, Option.some.injEq, exists_eq_left', Nat.zero_add, Nat.reduceAdd, Nat.reduceLeDiff, Nat.reduceLT, Int.reduceLT, Int.reduceLE, Int.reduceNeg, Int.reducePow, Int.reduceAdd, Int.reduceMul, Int.reduceSub, Int.reduceToNat, Int.reduceEq, D.int.injEq, D.bl.injEq, Bool.false_eq, Bool.not_eq_eq_eq_not, true_or, or_true, false_or, or_false, Bool.and_false, Bool.false_and, offR, List.length_map, hw]
      refine wp_lcMap (fun x => match x with | .int i => .int (i % p) | x => x) ?_
      simp only [FinK_nx, FinK_ret, FinK_exc, Nxt_nx, Nxt_ret, Nxt_brk, Nxt_cnt, Nxt_exc, wpE_ok, wpE_exc, wpE_bad, wpL_ok, wpI_ok, wpO_ok, wpF_ok, wpF_exc, wpS_nx, wpS_ret, wpS_brk, wpS_cnt, wpS_exc, wpS_bad, wpB_bl, wp_v0sh, wp_v0ow, wp_v1sh, wp_v1ow, wp_v2sh, wp_v2ow, wp_v3sh, wp_v3ow, wp_v4sh, wp_v4ow, wp_v5sh, wp_v5ow, wp_v6sh, wp_v6ow, wp_v7sh, wp_v7ow, wp_v8sh, wp_v8ow, wp_v9sh, wp_v9ow, wp_v10sh, wp_v10ow, wp_v11sh, wp_v11ow, wp_v12sh, wp_v12ow, wp_v13sh, wp_v13ow, wp_v14sh, wp_v14ow, wp_v15sh, wp_v15ow, wp_v16sh, wp_v16ow, wp_v17sh, wp_v17ow, wp_v18sh, wp_v18ow, wp_v19sh, wp_v19ow, wp_v20sh, wp_v20ow, wp_v21sh, wp_v21ow, wp_v22sh, wp_v22ow, wp_v23sh, wp_v23ow, wp_v24sh, wp_v24ow, wp_v25sh, wp_v25ow, wp_c, wp_op2, wp_op1, wp_and, wp_or, wp_not, wp_if, wp_chain, wp_nil, wp_cons, wp_tup, wp_lst, wp_callB, wp_call1, wp_call2, wp_callD, wp_sl, wp_noPart, wpInt_int, wp_part, wpStr_str, wp_m1, wp_seq, wp_next, wp_brk, wp_cnt, wp_never, wp_asg, wp_asgO, wp_drop, wp_ret, wp_ifS, wp_asgT, wp_app, wp_clear, wp_clrFor, wp_thru, wp_iter, wp_rng1, wp_rng2, wp_enum, wp_zip, one1_1, one2_2, wp_rng1V, wp_rng2V, wp_enumV, wp_zipT, wp_zipLL, wp_add, wp_sub, wp_mul, wp_fdiv, wp_mod, wp_pow, wp_lt, wp_le, wp_gt, wp_ge, wp_eqI, wp_neI, wp_eqS, wp_neS, SX.S_len, S_cps, wp_ixT, wp_ixL, wp_ixN, wp_ixS, atI_0, atI_1, atI_2, wp_lenL, wp_lenT, wp_lenN, wp_lenS, wp_tupL, wp_tupT, wp_lstL, wp_lstT, wp_intI, wp_intB, wpT_name, wpT_tup, wpT_cons, wpT_nil, ownL, List.getElem?_cons_zero, List.getElem?_cons_succ, List.set_cons_zero, List.set_cons_succ, List.length_cons, List.length_nil, List.map_cons, List.map_nil, plainL, wipeD, reduceCtorEq, if_true, if_false, decide_true, decide_false, decide_eq_true_eq, Bool.and_true, Bool.true_and, Bool.not_true, Bool.not_false, Bool.not_eq_true', decide_eq_false_iff_not, Bool.false_eq_true, not_true_eq_false, not_false_eq_true, ne_eq, eq_self, and_self, and_true, true_and, D.imm, immL, kidsImm, Option.some.injEq, exists_eq_left', Nat.zero_add, Nat.reduceAdd, Nat.reduceLeDiff, Nat.reduceLT, Int.reduceLT, Int.reduceLE, Int.reduceNeg, Int.reducePow, Int.reduceAdd, Int.reduceMul, Int.reduceSub, Int.reduceToNat, Int.reduceEq, D.int.injEq, D.bl.injEq, Bool.false_eq, Bool.not_eq_eq_eq_not, true_or, or_true, false_or, or_false, Bool.and_false, Bool.false_and]
      refine ⟨fun d hd => ?_, ?_⟩
      · obtain ⟨x, hx, rfl⟩ := List.mem_map.mp hd
        simp only [FinK_nx, FinK_ret, FinK_exc, Nxt_nx, Nxt_ret, Nxt_brk, Nxt_cnt, Nxt_exc, wpE_ok, wpE_exc, wpE_bad, wpL_ok, wpI_ok, wpO_ok, wpF_ok, wpF_exc, wpS_nx, wpS_ret, wpS_brk, wpS_cnt, wpS_exc, wpS_bad, wpB_bl, wp_v0sh, wp_v0ow, wp_v1sh, wp_v1ow, wp_v2sh, wp_v2ow, wp_v3sh, wp_v3ow, wp_v4sh, wp_v4ow, wp_v5sh, wp_v5ow, wp_v6sh, wp_v6ow, wp_v7sh, wp_v7ow, wp_v8sh, wp_v8ow, wp_v9sh, wp_v9ow, wp_v10sh, wp_v10ow, wp_v11sh, wp_v11ow, wp_v12sh, wp_v12ow, wp_v13sh, wp_v13ow, wp_v14sh, wp_v14ow, wp_v15sh, wp_v15ow, wp_v16sh, wp_v16ow, wp_v17sh, wp_v17ow, wp_v18sh, wp_v18ow, wp_v19sh, wp_v19ow, wp_v20sh, wp_v20ow, wp_v21sh, wp_v21ow, wp_v22sh, wp_v22ow, wp_v23sh, wp_v23ow, wp_v24sh, wp_v24ow, wp_v25sh, wp_v25ow, wp_c, wp_op2, wp_op1, wp_and, wp_or, wp_not, wp_if, wp_chain, wp_nil, wp_cons, wp_tup, wp_lst, wp_callB, wp_call1, wp_call2, wp_callD, wp_sl, wp_noPart, wpInt_int, wp_part, wpStr_str, wp_m1, wp_seq, wp_next, wp_brk, wp_cnt, wp_never, wp_asg, wp_asgO, wp_drop, wp_ret, wp_ifS, wp_asgT, wp_app, wp_clear, wp_clrFor, wp_thru, wp_iter, wp_rng1, wp_rng2, wp_enum, wp_zip, one1_1, one2_2, wp_rng1V, wp_rng2V, wp_enumV, wp_zipT, wp_zipLL, wp_add, wp_sub, wp_mul, wp_fdiv, wp_mod, wp_pow, wp_lt, wp_le, wp_gt, wp_ge, wp_eqI, wp_neI, wp_eqS, wp_neS, SX.S_len, S_cps, wp_ixT, wp_ixL, wp_ixN, wp_ixS, atI_0, atI_1, atI_2, wp_lenL, wp_lenT, wp_lenN, wp_lenS, wp_tupL, wp_tupT, wp_lstL, wp_lstT, wp_intI, wp_intB, wpT_name, wpT_tup, wpT_cons, wpT_nil, ownL, List.getElem?_cons_zero, List.getElem?_cons_succ, List.set_cons_zero, List.set_cons_succ, List.length_cons, List.length_nil, List.map_cons, List.map_nil, plainL, wipeD, reduceCtorEq, if_true, if_false, decide_true, decide_false, decide_eq_true_eq, Bool.and_true, Bool.true_and, Bool.not_true, Bool.not_false, Bool.not_eq_true', decide_eq_false_iff_not, Bool.false_eq_true, not_true_eq_false, not_false_eq_true, ne_eq, eq_self, and_self, and_true, true_and, D.imm, immL, kidsImm, Option.some.injEq, exists_eq_left', Nat.zero_add, Nat.reduceAdd, Nat.reduceLeDiff, Nat.reduceLT, Int.reduceLT, Int.reduceLE, Int.reduceNeg, Int.reducePow, Int.reduceAdd, Int.reduceMul, Int.reduceSub, Int.reduceToNat, Int.reduceEq, D.int.injEq, D.bl.injEq, Bool.false_eq, Bool.not_eq_eq_eq_not, true_or, or_true, false_or, or_false, Bool.and_false, Bool.false_and]
        exact hpp
      · have e : List.map (fun x => match x with | .int i => D.int (i % p) | x => x) (r.map fun x => D.int (x + p * off)) = r.map D.int := by
          rw [List.map_map]
          apply List.map_congr_left
          intro x hx
          have := hs x hx
          simp only [Function.comp, emod_off this.1 this.2]
        rw [e, show D.tup (r.map D.int) = rowT r from rfl, map_snoc rowT]
        have hnl : n < t.length := (List.getElem?_eq_some_iff.mp hr).1
        have e3 : t.take n ++ [r] = t.take (n + 1) := by
          rw [List.take_succ, hr]
          rfl
        rw [e3]
        refine ⟨?_, _, _, rfl⟩
        rw [List.length_take]
        exact small1 (by omega)
  · rintro Γ ⟨z5, z6, rfl⟩
    simp only [FinK_nx, FinK_ret, FinK_exc, Nxt_nx, Nxt_ret, Nxt_brk, Nxt_cnt, Nxt_exc, wpE_ok, wpE_exc, wpE_bad, wpL_ok, wpI_ok, wpO_ok, wpF_ok, wpF_exc, wpS_nx, wpS_ret, wpS_brk, wpS_cnt, wpS_exc, wpS_bad, wpB_bl, wp_v0sh, wp_v0ow, wp_v1sh, wp_v1ow, wp_v2sh, wp_v2ow, wp_v3sh, wp_v3ow, wp_v4sh, wp_v4ow, wp_v5sh, wp_v5ow, wp_v6sh, wp_v6ow, wp_v7sh, wp_v7ow, wp_v8sh, wp_v8ow, wp_v9sh, wp_v9ow, wp_v10sh, wp_v10ow, wp_v11sh, wp_v11ow, wp_v12sh, wp_v12ow, wp_v13sh, wp_v13ow, wp_v14sh, wp_v14ow, wp_v15sh, wp_v15ow, wp_v16sh, wp_v16ow, wp_v17sh, wp_v17ow, wp_v18sh, wp_v18ow, wp_v19sh, wp_v19ow, wp_v20sh, wp_v20ow, wp_v21sh, wp_v21ow, wp_v22sh, wp_v22ow, wp_v23sh, wp_v23ow, wp_v24sh, wp_v24ow, wp_v25sh, wp_v25ow, wp_c, wp_op2, wp_op1, wp_and, wp_or, wp_not, wp_if, wp_chain, wp_nil, wp_cons, wp_tup, wp_lst, wp_callB, wp_call1, wp_call2, wp_callD, wp_sl, wp_noPart, wpInt_int, wp_part, wpStr_str, wp_m1, wp_seq, wp_next, wp_brk, wp_cnt, wp_never, wp_asg, wp_asgO, wp_drop, wp_ret, wp_ifS, wp_asgT, wp_app, wp_clear, wp_clrFor, wp_thru, wp_iter, wp_rng1, wp_rng2, wp_enum, wp_zip, one1_1, one2_2, wp_rng1V, wp_rng2V, wp_enumV, wp_zipT, wp_zipLL, wp_add, wp_sub, wp_mul, wp_fdiv, wp_mod, wp_pow, wp_lt, wp_le, wp_gt, wp_ge, wp_eqI, wp_neI, wp_eqS, wp_neS, SX.S_len, S_cps, wp_ixT, wp_ixL, wp_ixN, wp_ixS, atI_0, atI_1, atI_2, wp_lenL, wp_lenT, wp_lenN, wp_lenS, wp_tupL, wp_tupT, wp_lstL, wp_lstT, wp_intI, wp_intB, wpT_name, wpT_tup, wpT_cons, wpT_nil, ownL, List.getElem?_cons_zero, List.getElem?_cons_succ, List.set_cons_zero, List.set_cons_succ, List.length_cons, List.length_nil, List.map_cons, List.map_nil, plainL, wipeD, reduceCtorEq, if_true, if_false, decide_true, decide_false, decide_eq_true_eq, Bool.and_true, Bool.true_and, Bool.not_true, Bool.not_false, Bool.not_eq_true', decide_eq_false_iff_not, Bool.false_eq_true, not_true_eq_false, not_false_eq_true, ne_eq, eq_self, and_self, and_true, true_and, D.imm, immL, kidsImm, Option.some.injEq, exists_eq_left', Nat.zero_add, Nat.reduceAdd, Nat.reduceLeDiff, Nat.reduceLT, Int.reduceLT, Int.reduceLE, Int.reduceNeg, Int.reducePow, Int.reduceAdd, Int.reduceMul, Int.reduceSub, Int.reduceToNat, Int.reduceEq, D.int.injEq, D.bl.injEq, Bool.false_eq, Bool.not_eq_eq_eq_not, true_or, or_true, false_or, or_false, Bool.and_false, Bool.false_and]
    rw [List.take_of_length_le (Nat.le_refl _)]
    rfl
end My
end

noncomputable section
namespace My
open PySem L2 VL
open SX (S)
section
variable {Q : Rt → D → Prop} {X : Exn → Prop}
theorem wp_sum (ws : List Int) : wpE (sumD (.lst (ws.map .int))) Q X = Q .shr (.int ws.sum) := by
  show wpE (match intsOf (ws.map D.int) with | some ns => .ok .shr (.int ns.sum) | none => .bad) Q X = _
  rw [intsOf_map]
  rfl
theorem wp_all (bs : List Bool) : wpE (allD (.lst (bs.map .bl))) Q X = Q .shr (.bl (bs.all id)) := by
  show wpE (match blsOf (bs.map D.bl) with | some ns => .ok .shr (.bl (ns.all id)) | none => .bad) Q X = _
  rw [blsOf_map]
  rfl
theorem wp_allT {α : Type} (xs : List α) : wpE (allD (.lst (xs.map fun _ => .bl true))) Q X = Q .shr (.bl true) := by
  have e : xs.map (fun _ => D.bl true) = (xs.map fun _ => true).map D.bl := by rw [List.map_map]; rfl
  rw [e, wp_all]
  have : (xs.map fun _ => true).all id = true := List.all_eq_true.mpr fun b hb => by
    obtain ⟨_, _, rfl⟩ := List.mem_map.mp hb
    rfl
  rw [this]
theorem wp_isI (i : Int) : wpE (isiD (.int i) (.ty "int")) Q X = Q .shr (.bl true) := id rfl
theorem wp_isIB (i : Int) : wpE (isiD (.int i) (.ty "bool")) Q X = Q .shr (.bl false) := id rfl
theorem wp_isB (i : Bool) : wpE (isiD (.bl i) (.ty "bool")) Q X = Q .shr (.bl true) := id rfl
theorem wp_isT (ds : List D) : wpE (isiD (.tup ds) (.ty "tuple")) Q X = Q .shr (.bl true) := id rfl
theorem wp_isS (x : Str) : wpE (isiD (.str x) (.ty "str")) Q X = Q .shr (.bl true) := id rfl
theorem wp_cut2 (a b c : D) : wpE (cutX (.tup [a, b, c]) none (some 2)) Q X = Q .shr (.tup [a, b]) := id rfl
end
theorem sum_le {m : Int} : ∀ {ws : List Int}, (∀ w ∈ ws, 0 ≤ w ∧ w < m) → ws.sum ≤ m * ws.length
  | [], _ => by simp
  | w :: ws, h => by
    have := sum_le (ws := ws) fun x hx => h x (List.mem_cons_of_mem _ hx)
    have := h w List.mem_cons_self
    rw [List.sum_cons, List.length_cons]
    have e : m * ((ws.length + 1 : Nat) : Int) = m * ws.length + m := by
      rw [Int.natCast_add, Int.mul_add]
      simp
    rw [e]
    omega
theorem look_eq {ws : List Int} {m : Int} (h1 : 1 ≤ ws.length) (h6 : ws.length ≤ 6) (hm : m ≤ 5) (hm0 : 0 < m) (hw : ∀ w ∈ ws, 0 ≤ w ∧ w < m) : den_look_at_widths [.lst (ws.map .int)] = .ok false .non := by
  apply wpF_eq
  unfold den_look_at_widths
  rw [wpF_denOf (Γ := [.sh (.lst (ws.map .int)), .no]) rfl]
  have hs := sum_le hw
  have hs2 : ¬ 30 < ws.sum := by
    have : m * (ws.length : Int) ≤ 5 * 6 := Int.mul_le_mul hm (by omega) (by omega) (by decide)
    omega
  have a1 : (1 : Int) ≤ (ws.length : Int) := by omega
  have a2 : (ws.length : Int) ≤ 6 := by omega
  simp only [bd_look_at_widths, FinK_nx, FinK_ret, FinK_exc, Nxt_nx, Nxt_ret, Nxt_brk, Nxt_cnt, Nxt_exc, wpE_ok, wpE_exc, wpE_bad, wpL_ok, wpI_ok, wpO_ok, wpF_ok, wpF_exc, wpS_nx, wpS_ret, wpS_brk, wpS_cnt, wpS_exc, wpS_bad, wpB_bl, wp_v0sh, wp_v0ow, wp_v1sh, wp_v1ow, wp_v2sh, wp_v2ow, wp_v3sh, wp_v3ow, wp_v4sh, wp_v4ow, wp_v5sh, wp_v5ow, wp_v6sh, wp_v6ow, wp_v7sh, wp_v7ow, wp_v8sh, wp_v8ow, wp_v9sh, wp_v9ow, wp_v10sh, wp_v10ow, wp_v11sh, wp_v11ow, wp_v12sh, wp_v12ow, wp_v13sh, wp_v13ow, wp_v14sh, wp_v14ow, wp_v15sh, wp_v15ow, wp_v16sh, wp_v16ow, wp_v17sh, wp_v17ow, wp_v18sh, wp_v18ow, wp_v19sh, wp_v19ow, wp_v20sh, wp_v20ow, wp_v21sh, wp_v21ow, wp_v22sh, wp_v22ow, wp_v23sh, wp_v23ow, wp_v24sh, wp_v24ow, wp_v25sh, wp_v25ow, wp_c, wp_op2, wp_op1, wp_and, wp_or, wp_not, wp_if, wp_chain, wp_nil, wp_cons, wp_tup, wp_lst, wp_callB, wp_call1, wp_call2, wp_callD, wp_sl, wp_noPart, wpInt_int, wp_part, wpStr_str, wp_m1, wp_seq, wp_next, wp_brk, wp_cnt, wp_never, wp_asg, wp_asgO, wp_drop, wp_ret, wp_ifS, wp_asgT, wp_app, wp_clear, wp_clrFor, wp_thru, wp_iter, wp_rng1, wp_rng2, wp_enum, wp_zip, one1_1, one2_2, wp_rng1V, wp_rng2V, wp_enumV, wp_zipT, wp_zipLL, wp_add, wp_sub, wp_mul, wp_fdiv, wp_mod, wp_pow, wp_lt, wp_le, wp_gt, wp_ge, wp_eqI, wp_neI, wp_eqS, wp_neS, SX.S_len, S_cps, wp_ixT, wp_ixL, wp_ixN, wp_ixS, atI_0, atI_1, atI_2, wp_lenL, wp_lenT, wp_lenN, wp_lenS, wp_tupL, wp_tupT, wp_lstL, wp_lstT, wp_intI, wp_intB, wpT_name, wpT_tup, wpT_cons, wpT_nil, ownL, List.getElem?_cons_zero, List.getElem?_cons_succ, List.set_cons_zero, List.set_cons_succ, List.length_cons, List.length_nil, List.map_cons, List.map_nil, plainL, wipeD, reduceCtorEq, if_true, if_false, decide_true, decide_false, decide_eq_true_eq, Bool.and_true, Bool.true_and, Bool.not_true, Bool.not_false, Bool.not_eq_true', decide_eq_false_iff_not, Bool.false_eq_true, not_true_eq_false, not_false_eq_true, ne_eq, eq_self, and_self, and_true, true_and, D.imm, immL, kidsImm, Option.some.injEq, exists_eq_left', Nat.zero_add, Nat.reduceAdd, Nat.reduceLeDiff, Nat.reduceLT, Int.reduceLT, Int.reduceLE, Int.reduceNeg, Int.reducePow, Int.reduceAdd, Int.reduceMul, Int.reduceSub, Int.reduceToNat, Int.reduceEq, D.int.injEq, D.bl.injEq, Bool.false_eq, Bool.not_eq_eq_eq_not, true_or, or_true, false_or, or_false, Bool.and_false, Bool.false_and, List.length_map, wp_sum, a1, a2, hs2]
  refine wp_for (fun n Γ => ∃ z : Slot, Γ = [.sh (.lst (ws.map .int)), z]) ?_
  simp only [FinK_nx, FinK_ret, FinK_exc, Nxt_nx, Nxt_ret, Nxt_brk, Nxt_cnt, Nxt_exc, wpE_ok, wpE_exc, wpE_bad, wpL_ok, wpI_ok, wpO_ok, wpF_ok, wpF_exc, wpS_nx, wpS_ret, wpS_brk, wpS_cnt, wpS_exc, wpS_bad, wpB_bl, wp_v0sh, wp_v0ow, wp_v1sh, wp_v1ow, wp_v2sh, wp_v2ow, wp_v3sh, wp_v3ow, wp_v4sh, wp_v4ow, wp_v5sh, wp_v5ow, wp_v6sh, wp_v6ow, wp_v7sh, wp_v7ow, wp_v8sh, wp_v8ow, wp_v9sh, wp_v9ow, wp_v10sh, wp_v10ow, wp_v11sh, wp_v11ow, wp_v12sh, wp_v12ow, wp_v13sh, wp_v13ow, wp_v14sh, wp_v14ow, wp_v15sh, wp_v15ow, wp_v16sh, wp_v16ow, wp_v17sh, wp_v17ow, wp_v18sh, wp_v18ow, wp_v19sh, wp_v19ow, wp_v20sh, wp_v20ow, wp_v21sh, wp_v21ow, wp_v22sh, wp_v22ow, wp_v23sh, wp_v23ow, wp_v24sh, wp_v24ow, wp_v25sh, wp_v25ow, wp_c, wp_op2, wp_op1, wp_and, wp_or, wp_not, wp_if, wp_chain, wp_nil, wp_cons, wp_tup, wp_lst, wp_callB, wp_call1, wp_call2, wp_callD, wp_sl, wp_noPart, wpInt_int, wp_part, wpStr_str, wp_m1, wp_seq, wp_next, wp_brk, wp_cnt, wp_never, wp_asg, wp_asgO, wp_drop, wp_ret, wp_ifS, wp_asgT, wp_app, wp_clear, wp_clrFor, wp_thru, wp_iter, wp_rng1, wp_rng2, wp_enum, wp_zip, one1_1, one2_2, wp_rng1V, wp_rng2V, wp_enumV, wp_zipT, wp_zipLL, wp_add, wp_sub, wp_mul, wp_fdiv, wp_mod, wp_pow, wp_lt, wp_le, wp_gt, wp_ge, wp_eqI, wp_neI, wp_eqS, wp_neS, SX.S_len, S_cps, wp_ixT, wp_ixL, wp_ixN, wp_ixS, atI_0, atI_1, atI_2, wp_lenL, wp_lenT, wp_lenN, wp_lenS, wp_tupL, wp_tupT, wp_lstL, wp_lstT, wp_intI, wp_intB, wpT_name, wpT_tup, wpT_cons, wpT_nil, ownL, List.getElem?_cons_zero, List.getElem?_cons_succ, List.set_cons_zero, List.set_cons_succ, List.length_cons, List.length_nil, List.map_cons, List.map_nil, plainL, wipeD, reduceCtorEq, if_true, if_false, decide_true, decide_false, decide_eq_true_eq, Bool.and_true, Bool.true_and, Bool.not_true, Bool.not_false, Bool.not_eq_true', decide_eq_false_iff_not, Bool.false_eq_true, not_true_eq_false, not_false_eq_true, ne_eq, eq_self, and_self, and_true, true_and, D.imm, immL, kidsImm, Option.some.injEq, exists_eq_left', Nat.zero_add, Nat.reduceAdd, Nat.reduceLeDiff, Nat.reduceLT, Int.reduceLT, Int.reduceLE, Int.reduceNeg, Int.reducePow, Int.reduceAdd, Int.reduceMul, Int.reduceSub, Int.reduceToNat, Int.reduceEq, D.int.injEq, D.bl.injEq, Bool.false_eq, Bool.not_eq_eq_eq_not, true_or, or_true, false_or, or_false, Bool.and_false, Bool.false_and]
  refine ⟨⟨_, rfl⟩, ?_, ?_⟩
  · rintro n Γ d ⟨z, rfl⟩ hd
    obtain ⟨w, hw1, rfl⟩ := List.mem_map.mp (List.mem_of_getElem? hd)
    have : ¬ w < 0 := by have := hw w hw1; omega
    simp only [FinK_nx, FinK_ret, FinK_exc, Nxt_nx, Nxt_ret, Nxt_brk, Nxt_cnt, Nxt_exc, wpE_ok, wpE_exc, wpE_bad, wpL_ok, wpI_ok, wpO_ok, wpF_ok, wpF_exc, wpS_nx, wpS_ret, wpS_brk, wpS_cnt, wpS_exc, wpS_bad, wpB_bl, wp_v0sh, wp_v0ow, wp_v1sh, wp_v1ow, wp_v2sh, wp_v2ow, wp_v3sh, wp_v3ow, wp_v4sh, wp_v4ow, wp_v5sh, wp_v5ow, wp_v6sh, wp_v6ow, wp_v7sh, wp_v7ow, wp_v8sh, wp_v8ow, wp_v9sh, wp_v9ow, wp_v10sh, wp_v10ow, wp_v11sh, wp_v11ow, wp_v12sh, wp_v12ow, wp_v13sh, wp_v13ow, wp_v14sh, wp_v14ow, wp_v15sh, wp_v15ow, wp_v16sh, wp_v16ow, wp_v17sh, wp_v17ow, wp_v18sh, wp_v18ow, wp_v19sh, wp_v19ow, wp_v20sh, wp_v20ow, wp_v21sh, wp_v21ow, wp_v22sh, wp_v22ow, wp_v23sh, wp_v23ow, wp_v24sh, wp_v24ow, wp_v25sh, wp_v25ow, wp_c, wp_op2, wp_op1, wp_and, wp_or, wp_not, wp_if, wp_chain, wp_nil, wp_cons, wp_tup, wp_lst, wp_callB, wp_call1, wp_call2, wp_callD, wp_sl, wp_noPart, wpInt_int, wp_part, wpStr_str, wp_m1, wp_seq, wp_next, wp_brk, wp_cnt, wp_never, wp_asg, wp_asgO, wp_drop, wp_ret, wp_ifS, wp_asgT, wp_app, wp_clear, wp_clrFor, wp_thru, wp_iter, wp_rng1, wp_rng2, wp_enum, wp_zip, one1_1, one2_2, wp_rng1V, wp_rng2V, wp_enumV, wp_zipT, wp_zipLL, wp_add, wp_sub, wp_mul, wp_fdiv, wp_mod, wp_pow, wp_lt, wp_le, wp_gt, wp_ge, wp_eqI, wp_neI, wp_eqS, wp_neS, SX.S_len, S_cps, wp_ixT, wp_ixL, wp_ixN, wp_ixS, atI_0, atI_1, atI_2, wp_lenL, wp_lenT, wp_lenN, wp_lenS, wp_tupL, wp_tupT, wp_lstL, wp_lstT, wp_intI, wp_intB, wpT_name, wpT_tup, wpT_cons, wpT_nil, ownL, List.getElem?_cons_zero, List.getElem?_cons_succ, List.set_cons_zero, List.set_cons_succ, List.length_cons, List.length_nil, List.map_cons, List.map_nil, plainL, wipeD, reduceCtorEq, if_true, if_false, decide_true, decide_false, decide_eq_true_eq, Bool.and_true, Bool.true_and, Bool.not_true, Bool.not_false, Bool.not_eq_true', decide_eq_false_iff_not, Bool.false_eq_true, not_true_eq_false, not_false_eq_true, ne_eq, eq_self, and_self, and_true, true_and, D.imm, immL, kidsImm, Option.some.injEq, exists_eq_left', Nat.zero_add, Nat.reduceAdd, Nat.reduceLeDiff, Nat.reduceLT, Int.reduceLT, Int.reduceLE, Int.reduceNeg, Int.reducePow, Int.reduceAdd, Int.reduceMul, Int.reduceSub, Int.reduceToNat, Int.reduceEq, D.int.injEq, D.bl.injEq, Bool.false_eq, Bool.not_eq_eq_eq_not, true_or, or_true, false_or, or_false, Bool.and_false, Bool.false_and, this]
    exact ⟨_, rfl⟩
  · rintro Γ ⟨z, rfl⟩
    simp only [FinK_nx, FinK_ret, FinK_exc, Nxt_nx, Nxt_ret, Nxt_brk, Nxt_cnt, Nxt_exc, wpE_ok, wpE_exc, wpE_bad, wpL_ok, wpI_ok, wpO_ok, wpF_ok, wpF_exc, wpS_nx, wpS_ret, wpS_brk, wpS_cnt, wpS_exc, wpS_bad, wpB_bl, wp_v0sh, wp_v0ow, wp_v1sh, wp_v1ow, wp_v2sh, wp_v2ow, wp_v3sh, wp_v3ow, wp_v4sh, wp_v4ow, wp_v5sh, wp_v5ow, wp_v6sh, wp_v6ow, wp_v7sh, wp_v7ow, wp_v8sh, wp_v8ow, wp_v9sh, wp_v9ow, wp_v10sh, wp_v10ow, wp_v11sh, wp_v11ow, wp_v12sh, wp_v12ow, wp_v13sh, wp_v13ow, wp_v14sh, wp_v14ow, wp_v15sh, wp_v15ow, wp_v16sh, wp_v16ow, wp_v17sh, wp_v17ow, wp_v18sh, wp_v18ow, wp_v19sh, wp_v19ow, wp_v20sh, wp_v20ow, wp_v21sh, wp_v21ow, wp_v22sh, wp_v22ow, wp_v23sh, wp_v23ow, wp_v24sh, wp_v24ow, wp_v25sh, wp_v25ow, wp_c, wp_op2, wp_op1, wp_and, wp_or, wp_not, wp_if, wp_chain, wp_nil, wp_cons, wp_tup, wp_lst, wp_callB, wp_call1, wp_call2, wp_callD, wp_sl, wp_noPart, wpInt_int, wp_part, wpStr_str, wp_m1, wp_seq, wp_next, wp_brk, wp_cnt, wp_never, wp_asg, wp_asgO, wp_drop, wp_ret, wp_ifS, wp_asgT, wp_app, wp_clear, wp_clrFor, wp_thru, wp_iter, wp_rng1, wp_rng2, wp_enum, wp_zip, one1_1, one2_2, wp_rng1V, wp_rng2V, wp_enumV, wp_zipT, wp_zipLL, wp_add, wp_sub, wp_mul, wp_fdiv, wp_mod, wp_pow, wp_lt, wp_le, wp_gt, wp_ge, wp_eqI, wp_neI, wp_eqS, wp_neS, SX.S_len, S_cps, wp_ixT, wp_ixL, wp_ixN, wp_ixS, atI_0, atI_1, atI_2, wp_lenL, wp_lenT, wp_lenN, wp_lenS, wp_tupL, wp_tupT, wp_lstL, wp_lstT, wp_intI, wp_intB, wpT_name, wpT_tup, wpT_cons, wpT_nil, ownL, List.getElem?_cons_zero, List.getElem?_cons_succ, List.set_cons_zero, List.set_cons_succ, List.length_cons, List.length_nil, List.map_cons, List.map_nil, plainL, wipeD, reduceCtorEq, if_true, if_false, decide_true, decide_false, decide_eq_true_eq, Bool.and_true, Bool.true_and, Bool.not_true, Bool.not_false, Bool.not_eq_true', decide_eq_false_iff_not, Bool.false_eq_true, not_true_eq_false, not_false_eq_true, ne_eq, eq_self, and_self, and_true, true_and, D.imm, immL, kidsImm, Option.some.injEq, exists_eq_left', Nat.zero_add, Nat.reduceAdd, Nat.reduceLeDiff, Nat.reduceLT, Int.reduceLT, Int.reduceLE, Int.reduceNeg, Int.reducePow, Int.reduceAdd, Int.reduceMul, Int.reduceSub, Int.reduceToNat, Int.reduceEq, D.int.injEq, D.bl.injEq, Bool.false_eq, Bool.not_eq_eq_eq_not, true_or, or_true, false_or, or_false, Bool.and_false, Bool.false_and]
theorem arrow_eq {p m : Int} (hp : IsP p) {cs : List Nat} (hc : ∀ c ∈ cs, IsWay c) {ws : List Int} (hw : ∀ w ∈ ws, 0 ≤ w ∧ w < m) (hm : m ≤ 8) {n : Nat} {a : Arr} (ok : ArrOk p cs ws n a) (off : Int) :
    den_arrow_of [.int p, .lst (ws.map .int), .int n, pairE p (a, off)] = .ok false (arrE a) := by
  apply wpF_eq
  unfold den_arrow_of
  rw [wpF_denOf (Γ := [.sh (.int p), .sh (.lst (ws.map .int)), .sh (.int n), .sh (pairE p (a, off)), .no, .no, .no, .no, .no]) rfl]
  obtain ⟨u, v, hu, hv, h1, h2⟩ := ok.sz
  have hcw : IsWay a.c := hc _ (List.mem_of_getElem? ok.c)
  have hin : inD true (.str (S [a.c])) (.tup [.str (S [114]), .str (S [108])]) = .ok .shr (.bl false) := by
    rcases hcw with e | e <;> (rw [e]; rfl)
  have hub := hw u (List.mem_of_getElem? hu)
  have hvb := hw v (List.mem_of_getElem? hv)
  have hsz : (0 ≤ a.h ∧ a.h ≤ 30) ∧ 0 ≤ a.w ∧ a.w ≤ 30 := by
    by_cases e : a.c = 108
    · obtain ⟨e1, e2⟩ := h1 e; omega
    · obtain ⟨e1, e2⟩ := h2 e; omega
  simp only [bd_arrow_of, pairE, FinK_nx, FinK_ret, FinK_exc, Nxt_nx, Nxt_ret, Nxt_brk, Nxt_cnt, Nxt_exc, wpE_ok, wpE_exc, wpE_bad, wpL_ok, wpI_ok, wpO_ok, wpF_ok, wpF_exc, wpS_nx, wpS_ret, wpS_brk, wpS_cnt, wpS_exc, wpS_bad, wpB_bl, wp_v0sh, wp_v0ow, wp_v1sh, wp_v1ow, wp_v2sh, wp_v2ow, wp_v3sh, wp_v3ow, wp_v4sh, wp_v4ow, wp_v5sh, wp_v5ow, wp_v6sh, wp_v6ow, wp_v7sh, wp_v7ow, wp_v8sh, wp_v8ow, wp_v9sh, wp_v9ow, wp_v10sh, wp_v10ow, wp_v11sh, wp_v11ow, wp_v12sh, wp_v12ow, wp_v13sh, wp_v13ow, wp_v14sh, wp_v14ow, wp_v15sh, wp_v15ow, wp_v16sh, wp_v16ow, wp_v17sh, wp_v17ow, wp_v18sh, wp_v18ow, wp_v19sh, wp_v19ow, wp_v20sh, wp_v20ow, wp_v21sh, wp_v21ow, wp_v22sh, wp_v22ow, wp_v23sh, wp_v23ow, wp_v24sh, wp_v24ow, wp_v25sh, wp_v25ow, wp_c, wp_op2, wp_op1, wp_and, wp_or, wp_not, wp_if, wp_chain, wp_nil, wp_cons, wp_tup, wp_lst, wp_callB, wp_call1, wp_call2, wp_callD, wp_sl, wp_noPart, wpInt_int, wp_part, wpStr_str, wp_m1, wp_seq, wp_next, wp_brk, wp_cnt, wp_never, wp_asg, wp_asgO, wp_drop, wp_ret, wp_ifS, wp_asgT, wp_app, wp_clear, wp_clrFor, wp_thru, wp_iter, wp_rng1, wp_rng2, wp_enum, wp_zip, one1_1, one2_2, wp_rng1V, wp_rng2V, wp_enumV, wp_zipT, wp_zipLL, wp_add, wp_sub, wp_mul, wp_fdiv, wp_mod, wp_pow, wp_lt, wp_le, wp_gt, wp_ge, wp_eqI, wp_neI, wp_eqS, wp_neS, SX.S_len, S_cps, wp_ixT, wp_ixL, wp_ixN, wp_ixS, atI_0, atI_1, atI_2, wp_lenL, wp_lenT, wp_lenN, wp_lenS, wp_tupL, wp_tupT, wp_lstL, wp_lstT, wp_intI, wp_intB, wpT_name, wpT_tup, wpT_cons, wpT_nil, ownL, List.getElem?_cons_zero, List.getElem?_cons_succ, List.set_cons_zero, List.set_cons_succ, List.length_cons, List.length_nil, List.map_cons, List.map_nil, plainL, wipeD, reduceCtorEq, if_true, if_false, decide_true, decide_false, decide_eq_true_eq, Bool.and_true, Bool.true_and, Bool.not_true, Bool.not_false, Bool.not_eq_true', decide_eq_false_iff_not, Bool.false_eq_true, not_true_eq_false, not_false_eq_true, ne_eq, eq_self, and_self, and_true, true_and, D.imm, immL, kidsImm, Option.some.injEq, exists_eq_left', Nat.zero_add, Nat.reduceAdd, Nat.reduceLeDiff, Nat.reduceLT, Int.reduceLT, Int.reduceLE, Int.reduceNeg, Int.reducePow, Int.reduceAdd, Int.reduceMul, Int.reduceSub, Int.reduceToNat, Int.reduceEq, D.int.injEq, D.bl.injEq, Bool.false_eq, Bool.not_eq_eq_eq_not, true_or, or_true, false_or, or_false, Bool.and_false, Bool.false_and, lit_r, lit_l, hin, size_eq hcw hu hv h1 h2, tableof_eq hp hsz.1.1 hsz.1.2 hsz.2.1 hsz.2.2 ok.tab]
  rfl
theorem rowof_eq {p m : Int} (hp : IsP p) {cs : List Nat} (hc : ∀ c ∈ cs, IsWay c) (hcl : cs.length ≤ 5) {ws : List Int} {as : List Arr} (ok : RowOk p cs ws as m) (hm : m ≤ 5) (hm0 : 0 < m) {ps : List (Arr × Int)} (hps : ps.map Prod.fst = as) :
    den_row_of [.int p, .lst (ws.map .int), .lst (ps.map (pairE p))] = .ok false (rowE p ws as) := by
  apply wpF_eq
  unfold den_row_of
  rw [wpF_denOf (Γ := [.sh (.int p), .sh (.lst (ws.map .int)), .sh (.lst (ps.map (pairE p))), .no, .no, .no]) rfl]
  have hpl : ps.length = as.length := by rw [← hps, List.length_map]
  have hl : (ps.length : Int) = (ws.length : Int) - 1 := by
    have := ok.wl
    have := ok.al
    omega
  have hlook := look_eq (ws := ws) (m := m) (by have := ok.wl; omega) (by have := ok.wl; omega) hm hm0 ok.wb
  simp only [bd_row_of, FinK_nx, FinK_ret, FinK_exc, Nxt_nx, Nxt_ret, Nxt_brk, Nxt_cnt, Nxt_exc, wpE_ok, wpE_exc, wpE_bad, wpL_ok, wpI_ok, wpO_ok, wpF_ok, wpF_exc, wpS_nx, wpS_ret, wpS_brk, wpS_cnt, wpS_exc, wpS_bad, wpB_bl, wp_v0sh, wp_v0ow, wp_v1sh, wp_v1ow, wp_v2sh, wp_v2ow, wp_v3sh, wp_v3ow, wp_v4sh, wp_v4ow, wp_v5sh, wp_v5ow, wp_v6sh, wp_v6ow, wp_v7sh, wp_v7ow, wp_v8sh, wp_v8ow, wp_v9sh, wp_v9ow, wp_v10sh, wp_v10ow, wp_v11sh, wp_v11ow, wp_v12sh, wp_v12ow, wp_v13sh, wp_v13ow, wp_v14sh, wp_v14ow, wp_v15sh, wp_v15ow, wp_v16sh, wp_v16ow, wp_v17sh, wp_v17ow, wp_v18sh, wp_v18ow, wp_v19sh, wp_v19ow, wp_v20sh, wp_v20ow, wp_v21sh, wp_v21ow, wp_v22sh, wp_v22ow, wp_v23sh, wp_v23ow, wp_v24sh, wp_v24ow, wp_v25sh, wp_v25ow, wp_c, wp_op2, wp_op1, wp_and, wp_or, wp_not, wp_if, wp_chain, wp_nil, wp_cons, wp_tup, wp_lst, wp_callB, wp_call1, wp_call2, wp_callD, wp_sl, wp_noPart, wpInt_int, wp_part, wpStr_str, wp_m1, wp_seq, wp_next, wp_brk, wp_cnt, wp_never, wp_asg, wp_asgO, wp_drop, wp_ret, wp_ifS, wp_asgT, wp_app, wp_clear, wp_clrFor, wp_thru, wp_iter, wp_rng1, wp_rng2, wp_enum, wp_zip, one1_1, one2_2, wp_rng1V, wp_rng2V, wp_enumV, wp_zipT, wp_zipLL, wp_add, wp_sub, wp_mul, wp_fdiv, wp_mod, wp_pow, wp_lt, wp_le, wp_gt, wp_ge, wp_eqI, wp_neI, wp_eqS, wp_neS, SX.S_len, S_cps, wp_ixT, wp_ixL, wp_ixN, wp_ixS, atI_0, atI_1, atI_2, wp_lenL, wp_lenT, wp_lenN, wp_lenS, wp_tupL, wp_tupT, wp_lstL, wp_lstT, wp_intI, wp_intB, wpT_name, wpT_tup, wpT_cons, wpT_nil, ownL, List.getElem?_cons_zero, List.getElem?_cons_succ, List.set_cons_zero, List.set_cons_succ, List.length_cons, List.length_nil, List.map_cons, List.map_nil, plainL, wipeD, reduceCtorEq, if_true, if_false, decide_true, decide_false, decide_eq_true_eq, Bool.and_true, Bool.true_and, Bool.not_true, Bool.not_false, Bool.not_eq_true', decide_eq_false_iff_not, Bool.false_eq_true, not_true_eq_false, not_false_eq_true, ne_eq, eq_self, and_self, and_true, true_and, D.imm, immL, kidsImm, Option.some.injEq, exists_eq_left', Nat.zero_add, Nat.reduceAdd, Nat.reduceLeDiff, Nat.reduceLT, Int.reduceLT, Int.reduceLE, Int.reduceNeg, Int.reducePow, Int.reduceAdd, Int.reduceMul, Int.reduceSub, Int.reduceToNat, Int.reduceEq, D.int.injEq, D.bl.injEq, Bool.false_eq, Bool.not_eq_eq_eq_not, true_or, or_true, false_or, or_false, Bool.and_false, Bool.false_and, inP hp, hlook, List.length_map, hl]
  refine wp_lcR (fun i _ x => ∃ a, as[i]? = some a ∧ x = arrE a) ?_
  simp only [FinK_nx, FinK_ret, FinK_exc, Nxt_nx, Nxt_ret, Nxt_brk, Nxt_cnt, Nxt_exc, wpE_ok, wpE_exc, wpE_bad, wpL_ok, wpI_ok, wpO_ok, wpF_ok, wpF_exc, wpS_nx, wpS_ret, wpS_brk, wpS_cnt, wpS_exc, wpS_bad, wpB_bl, wp_v0sh, wp_v0ow, wp_v1sh, wp_v1ow, wp_v2sh, wp_v2ow, wp_v3sh, wp_v3ow, wp_v4sh, wp_v4ow, wp_v5sh, wp_v5ow, wp_v6sh, wp_v6ow, wp_v7sh, wp_v7ow, wp_v8sh, wp_v8ow, wp_v9sh, wp_v9ow, wp_v10sh, wp_v10ow, wp_v11sh, wp_v11ow, wp_v12sh, wp_v12ow, wp_v13sh, wp_v13ow, wp_v14sh, wp_v14ow, wp_v15sh, wp_v15ow, wp_v16sh, wp_v16ow, wp_v17sh, wp_v17ow, wp_v18sh, wp_v18ow, wp_v19sh, wp_v19ow, wp_v20sh, wp_v20ow, wp_v21sh, wp_v21ow, wp_v22sh, wp_v22ow, wp_v23sh, wp_v23ow, wp_v24sh, wp_v24ow, wp_v25sh, wp_v25ow, wp_c, wp_op2, wp_op1, wp_and, wp_or, wp_not, wp_if, wp_chain, wp_nil, wp_cons, wp_tup, wp_lst, wp_callB, wp_call1, wp_call2, wp_callD, wp_sl, wp_noPart, wpInt_int, wp_part, wpStr_str, wp_m1, wp_seq, wp_next, wp_brk, wp_cnt, wp_never, wp_asg, wp_asgO, wp_drop, wp_ret, wp_ifS, wp_asgT, wp_app, wp_clear, wp_clrFor, wp_thru, wp_iter, wp_rng1, wp_rng2, wp_enum, wp_zip, one1_1, one2_2, wp_rng1V, wp_rng2V, wp_enumV, wp_zipT, wp_zipLL, wp_add, wp_sub, wp_mul, wp_fdiv, wp_mod, wp_pow, wp_lt, wp_le, wp_gt, wp_ge, wp_eqI, wp_neI, wp_eqS, wp_neS, SX.S_len, S_cps, wp_ixT, wp_ixL, wp_ixN, wp_ixS, atI_0, atI_1, atI_2, wp_lenL, wp_lenT, wp_lenN, wp_lenS, wp_tupL, wp_tupT, wp_lstL, wp_lstT, wp_intI, wp_intB, wpT_name, wpT_tup, wpT_cons, wpT_nil, ownL, List.getElem?_cons_zero, List.getElem?_cons_succ, List.set_cons_zero, List.set_cons_succ, List.length_cons, List.length_nil, List.map_cons, List.map_nil, plainL, wipeD, reduceCtorEq, if_true, if_false, decide_true, decide_false, decide_eq_true_eq, Bool.and_true, Bool.true_and, Bool.not_true, Bool.not_false, Bool.not_eq_true', decide_eq_false_iff_not, Bool.false_eq_true, not_true_eq_false, not_false_eq_true, ne_eq, eq_self, and_self, and_true, true_and, D.imm, immL, kidsImm, Option.some.injEq, exists_eq_left', Nat.zero_add, Nat.reduceAdd, Nat.reduceLeDiff, Nat.reduceLT, Int.reduceLT, Int.reduceLE, Int.reduceNeg, Int.reducePow, Int.reduceAdd, Int.reduceMul, Int.reduceSub, Int.reduceToNat, Int.reduceEq, D.int.injEq, D.bl.injEq, Bool.false_eq, Bool.not_eq_eq_eq_not, true_or, or_true, false_or, or_false, Bool.and_false, Bool.false_and]
  refine ⟨fun i d hd => ?_, fun xs hl2 hx => ?_⟩
  · rw [enumL_get, List.getElem?_map] at hd
    cases hpi : ps[i]? with
    | none => rw [hpi] at hd; cases hd
    | some x =>
      rw [hpi] at hd
      cases hd
      have hai : as[i]? = some x.1 := by rw [← hps, List.getElem?_map, hpi]; rfl
      have := arrow_eq hp hc ok.wb (by omega) (ok.ar i x.1 hai) x.2
      rw [Nat.zero_add]
      simp only [FinK_nx, FinK_ret, FinK_exc, Nxt_nx, Nxt_ret, Nxt_brk, Nxt_cnt, Nxt_exc, wpE_ok, wpE_exc, wpE_bad, wpL_ok, wpI_ok, wpO_ok, wpF_ok, wpF_exc, wpS_nx, wpS_ret, wpS_brk, wpS_cnt, wpS_exc, wpS_bad, wpB_bl, wp_v0sh, wp_v0ow, wp_v1sh, wp_v1ow, wp_v2sh, wp_v2ow, wp_v3sh, wp_v3ow, wp_v4sh, wp_v4ow, wp_v5sh, wp_v5ow, wp_v6sh, wp_v6ow, wp_v7sh, wp_v7ow, wp_v8sh, wp_v8ow, wp_v9sh, wp_v9ow, wp_v10sh, wp_v10ow, wp_v11sh, wp_v11ow, wp_v12sh, wp_v12ow, wp_v13sh, wp_v13ow, wp_v14sh, wp_v14ow, wp_v15sh, wp_v15ow, wp_v16sh, wp_v16ow, wp_v17sh, wp_v17ow, wp_v18sh, wp_v18ow, wp_v19sh, wp_v19ow, wp_v20sh, wp_v20ow, wp_v21sh, wp_v21ow, wp_v22sh, wp_v22ow, wp_v23sh, wp_v23ow, wp_v24sh, wp_v24ow, wp_v25sh, wp_v25ow, wp_c, wp_op2, wp_op1, wp_and, wp_or, wp_not, wp_if, wp_chain, wp_nil, wp_cons, wp_tup, wp_lst, wp_callB, wp_call1, wp_call2, wp_callD, wp_sl, wp_noPart, wpInt_int, wp_part, wpStr_str, wp_m1, wp_seq, wp_next, wp_brk, wp_cnt, wp_never, wp_asg, wp_asgO, wp_drop, wp_ret, wp_ifS, wp_asgT, wp_app, wp_clear, wp_clrFor, wp_thru, wp_iter, wp_rng1, wp_rng2, wp_enum, wp_zip, one1_1, one2_2, wp_rng1V, wp_rng2V, wp_enumV, wp_zipT, wp_zipLL, wp_add, wp_sub, wp_mul, wp_fdiv, wp_mod, wp_pow, wp_lt, wp_le, wp_gt, wp_ge, wp_eqI, wp_neI, wp_eqS, wp_neS, SX.S_len, S_cps, wp_ixT, wp_ixL, wp_ixN, wp_ixS, atI_0, atI_1, atI_2, wp_lenL, wp_lenT, wp_lenN, wp_lenS, wp_tupL, wp_tupT, wp_lstL, wp_lstT, wp_intI, wp_intB, wpT_name, wpT_tup, wpT_cons, wpT_nil, ownL, List.getElem?_cons_zero, List.getElem?_cons_succ, List.set_cons_zero, List.set_cons_succ, List.length_cons, List.length_nil, List.map_cons, List.map_nil, plainL, wipeD, reduceCtorEq, if_true, if_false, decide_true, decide_false, decide_eq_true_eq, Bool.and_true, Bool.true_and, Bool.not_true, Bool.not_false, Bool.not_eq_true', decide_eq_false_iff_not, Bool.false_eq_true, not_true_eq_false, not_false_eq_true, ne_eq, eq_self, and_self, and_true, true_and, D.imm, immL, kidsImm, Option.some.injEq, exists_eq_left', Nat.zero_add, Nat.reduceAdd, Nat.reduceLeDiff, Nat.reduceLT, Int.reduceLT, Int.reduceLE, Int.reduceNeg, Int.reducePow, Int.reduceAdd, Int.reduceMul, Int.reduceSub, Int.reduceToNat, Int.reduceEq, D.int.injEq, D.bl.injEq, Bool.false_eq, Bool.not_eq_eq_eq_not, true_or, or_true, false_or, or_false, Bool.and_false, Bool.false_and, this]
      exact ⟨_, hai, rfl⟩
  · have e : xs = as.map arrE := by
      rw [enumL_len, List.length_map] at hl2
      apply List.ext_getElem?
      intro i
      by_cases hi : i < xs.length
      · have hpi : i < ps.length := by omega
        obtain ⟨a, h1, h2⟩ := hx i _ _ (by rw [enumL_get, List.getElem?_map, List.getElem?_eq_getElem hpi]; rfl) (List.getElem?_eq_getElem hi)
        rw [List.getElem?_eq_getElem hi, h2, List.getElem?_map, h1]
        rfl
      · rw [List.getElem?_eq_none (by omega), List.getElem?_eq_none (by rw [List.length_map]; omega)]
    subst e
    rfl
theorem whole_eq (i : Int) : den_law_whole [.int i] = .ok false (.bl true) := by
  apply wpF_eq
  unfold den_law_whole
  rw [wpF_denOf (Γ := [.sh (.int i)]) rfl]
  simp only [bd_law_whole, FinK_nx, FinK_ret, FinK_exc, Nxt_nx, Nxt_ret, Nxt_brk, Nxt_cnt, Nxt_exc, wpE_ok, wpE_exc, wpE_bad, wpL_ok, wpI_ok, wpO_ok, wpF_ok, wpF_exc, wpS_nx, wpS_ret, wpS_brk, wpS_cnt, wpS_exc, wpS_bad, wpB_bl, wp_v0sh, wp_v0ow, wp_v1sh, wp_v1ow, wp_v2sh, wp_v2ow, wp_v3sh, wp_v3ow, wp_v4sh, wp_v4ow, wp_v5sh, wp_v5ow, wp_v6sh, wp_v6ow, wp_v7sh, wp_v7ow, wp_v8sh, wp_v8ow, wp_v9sh, wp_v9ow, wp_v10sh, wp_v10ow, wp_v11sh, wp_v11ow, wp_v12sh, wp_v12ow, wp_v13sh, wp_v13ow, wp_v14sh, wp_v14ow, wp_v15sh, wp_v15ow, wp_v16sh, wp_v16ow, wp_v17sh, wp_v17ow, wp_v18sh, wp_v18ow, wp_v19sh, wp_v19ow, wp_v20sh, wp_v20ow, wp_v21sh, wp_v21ow, wp_v22sh, wp_v22ow, wp_v23sh, wp_v23ow, wp_v24sh, wp_v24ow, wp_v25sh, wp_v25ow, wp_c, wp_op2, wp_op1, wp_and, wp_or, wp_not, wp_if, wp_chain, wp_nil, wp_cons, wp_tup, wp_lst, wp_callB, wp_call1, wp_call2, wp_callD, wp_sl, wp_noPart, wpInt_int, wp_part, wpStr_str, wp_m1, wp_seq, wp_next, wp_brk, wp_cnt, wp_never, wp_asg, wp_asgO, wp_drop, wp_ret, wp_ifS, wp_asgT, wp_app, wp_clear, wp_clrFor, wp_thru, wp_iter, wp_rng1, wp_rng2, wp_enum, wp_zip, one1_1, one2_2, wp_rng1V, wp_rng2V, wp_enumV, wp_zipT, wp_zipLL, wp_add, wp_sub, wp_mul, wp_fdiv, wp_mod, wp_pow, wp_lt, wp_le, wp_gt, wp_ge, wp_eqI, wp_neI, wp_eqS, wp_neS, SX.S_len, S_cps, wp_ixT, wp_ixL, wp_ixN, wp_ixS, atI_0, atI_1, atI_2, wp_lenL, wp_lenT, wp_lenN, wp_lenS, wp_tupL, wp_tupT, wp_lstL, wp_lstT, wp_intI, wp_intB, wpT_name, wpT_tup, wpT_cons, wpT_nil, ownL, List.getElem?_cons_zero, List.getElem?_cons_succ, List.set_cons_zero, List.set_cons_succ, List.length_cons, List.length_nil, List.map_cons, List.map_nil, plainL, wipeD, reduceCtorEq, if_true, if_false, decide_true, decide_false, decide_eq_true_eq, Bool.and_true, Bool.true_and, Bool.not_true, Bool.not_false, Bool.not_eq_true', decide_eq_false_iff_not, Bool.false_eq_true, not_true_eq_false, not_false_eq_true, ne_eq, eq_self, and_self, and_true, true_and, D.imm, immL, kidsImm, Option.some.injEq, exists_eq_left', Nat.zero_add, Nat.reduceAdd, Nat.reduceLeDiff, Nat.reduceLT, Int.reduceLT, Int.reduceLE, Int.reduceNeg, Int.reducePow, Int.reduceAdd, Int.reduceMul, Int.reduceSub, Int.reduceToNat, Int.reduceEq, D.int.injEq, D.bl.injEq, Bool.false_eq, Bool.not_eq_eq_eq_not, true_or, or_true, false_or, or_false, Bool.and_false, Bool.false_and, wp_isI, wp_isIB]
theorem rests_eq (r : List Int) : den_law_rests [.tup (r.map .int), .tup (r.map .int)] = .ok false (.bl true) := by
  apply wpF_eq
  unfold den_law_rests
  rw [wpF_denOf (Γ := [.sh (.tup (r.map .int)), .sh (.tup (r.map .int)), .no]) rfl]
  simp only [bd_law_rests, FinK_nx, FinK_ret, FinK_exc, Nxt_nx, Nxt_ret, Nxt_brk, Nxt_cnt, Nxt_exc, wpE_ok, wpE_exc, wpE_bad, wpL_ok, wpI_ok, wpO_ok, wpF_ok, wpF_exc, wpS_nx, wpS_ret, wpS_brk, wpS_cnt, wpS_exc, wpS_bad, wpB_bl, wp_v0sh, wp_v0ow, wp_v1sh, wp_v1ow, wp_v2sh, wp_v2ow, wp_v3sh, wp_v3ow, wp_v4sh, wp_v4ow, wp_v5sh, wp_v5ow, wp_v6sh, wp_v6ow, wp_v7sh, wp_v7ow, wp_v8sh, wp_v8ow, wp_v9sh, wp_v9ow, wp_v10sh, wp_v10ow, wp_v11sh, wp_v11ow, wp_v12sh, wp_v12ow, wp_v13sh, wp_v13ow, wp_v14sh, wp_v14ow, wp_v15sh, wp_v15ow, wp_v16sh, wp_v16ow, wp_v17sh, wp_v17ow, wp_v18sh, wp_v18ow, wp_v19sh, wp_v19ow, wp_v20sh, wp_v20ow, wp_v21sh, wp_v21ow, wp_v22sh, wp_v22ow, wp_v23sh, wp_v23ow, wp_v24sh, wp_v24ow, wp_v25sh, wp_v25ow, wp_c, wp_op2, wp_op1, wp_and, wp_or, wp_not, wp_if, wp_chain, wp_nil, wp_cons, wp_tup, wp_lst, wp_callB, wp_call1, wp_call2, wp_callD, wp_sl, wp_noPart, wpInt_int, wp_part, wpStr_str, wp_m1, wp_seq, wp_next, wp_brk, wp_cnt, wp_never, wp_asg, wp_asgO, wp_drop, wp_ret, wp_ifS, wp_asgT, wp_app, wp_clear, wp_clrFor, wp_thru, wp_iter, wp_rng1, wp_rng2, wp_enum, wp_zip, one1_1, one2_2, wp_rng1V, wp_rng2V, wp_enumV, wp_zipT, wp_zipLL, wp_add, wp_sub, wp_mul, wp_fdiv, wp_mod, wp_pow, wp_lt, wp_le, wp_gt, wp_ge, wp_eqI, wp_neI, wp_eqS, wp_neS, SX.S_len, S_cps, wp_ixT, wp_ixL, wp_ixN, wp_ixS, atI_0, atI_1, atI_2, wp_lenL, wp_lenT, wp_lenN, wp_lenS, wp_tupL, wp_tupT, wp_lstL, wp_lstT, wp_intI, wp_intB, wpT_name, wpT_tup, wpT_cons, wpT_nil, ownL, List.getElem?_cons_zero, List.getElem?_cons_succ, List.set_cons_zero, List.set_cons_succ, List.length_cons, List.length_nil, List.map_cons, List.map_nil, plainL, wipeD, reduceCtorEq, if_true, if_false, decide_true, decide_false, decide_eq_true_eq, Bool.and_true, Bool.true_and, Bool.not_true, Bool.not_false, Bool.not_eq_true', decide_eq_false_iff_not, Bool.false_eq_true, not_true_eq_false, not_false_eq_true, ne_eq, eq_self, and_self, and_true, true_and, D.imm, immL, kidsImm, Option.some.injEq, exists_eq_left', Nat.zero_add, Nat.reduceAdd, Nat.reduceLeDiff, Nat.reduceLT, Int.reduceLT, Int.reduceLE, Int.reduceNeg, Int.reducePow, Int.reduceAdd, Int.reduceMul, Int.reduceSub, Int.reduceToNat, Int.reduceEq, D.int.injEq, D.bl.injEq, Bool.false_eq, Bool.not_eq_eq_eq_not, true_or, or_true, false_or, or_false, Bool.and_false, Bool.false_and, wp_isT]
  refine wp_lcMap (fun _ => .bl true) ?_
  simp only [FinK_nx, FinK_ret, FinK_exc, Nxt_nx, Nxt_ret, Nxt_brk, Nxt_cnt, Nxt_exc, wpE_ok, wpE_exc, wpE_bad, wpL_ok, wpI_ok, wpO_ok, wpF_ok, wpF_exc, wpS_nx, wpS_ret, wpS_brk, wpS_cnt, wpS_exc, wpS_bad, wpB_bl, wp_v0sh, wp_v0ow, wp_v1sh, wp_v1ow, wp_v2sh, wp_v2ow, wp_v3sh, wp_v3ow, wp_v4sh, wp_v4ow, wp_v5sh, wp_v5ow, wp_v6sh, wp_v6ow, wp_v7sh, wp_v7ow, wp_v8sh, wp_v8ow, wp_v9sh, wp_v9ow, wp_v10sh, wp_v10ow, wp_v11sh, wp_v11ow, wp_v12sh, wp_v12ow, wp_v13sh, wp_v13ow, wp_v14sh, wp_v14ow, wp_v15sh, wp_v15ow, wp_v16sh, wp_v16ow, wp_v17sh, wp_v17ow, wp_v18sh, wp_v18ow, wp_v19sh, wp_v19ow, wp_v20sh, wp_v20ow, wp_v21sh, wp_v21ow, wp_v22sh, wp_v22ow, wp_v23sh, wp_v23ow, wp_v24sh, wp_v24ow, wp_v25sh, wp_v25ow, wp_c, wp_op2, wp_op1, wp_and, wp_or, wp_not, wp_if, wp_chain, wp_nil, wp_cons, wp_tup, wp_lst, wp_callB, wp_call1, wp_call2, wp_callD, wp_sl, wp_noPart, wpInt_int, wp_part, wpStr_str, wp_m1, wp_seq, wp_next, wp_brk, wp_cnt, wp_never, wp_asg, wp_asgO, wp_drop, wp_ret, wp_ifS, wp_asgT, wp_app, wp_clear, wp_clrFor, wp_thru, wp_iter, wp_rng1, wp_rng2, wp_enum, wp_zip, one1_1, one2_2, wp_rng1V, wp_rng2V, wp_enumV, wp_zipT, wp_zipLL, wp_add, wp_sub, wp_mul, wp_fdiv, wp_mod, wp_pow, wp_lt, wp_le, wp_gt, wp_ge, wp_eqI, wp_neI, wp_eqS, wp_neS, SX.S_len, S_cps, wp_ixT, wp_ixL, wp_ixN, wp_ixS, atI_0, atI_1, atI_2, wp_lenL, wp_lenT, wp_lenN, wp_lenS, wp_tupL, wp_tupT, wp_lstL, wp_lstT, wp_intI, wp_intB, wpT_name, wpT_tup, wpT_cons, wpT_nil, ownL, List.getElem?_cons_zero, List.getElem?_cons_succ, List.set_cons_zero, List.set_cons_succ, List.length_cons, List.length_nil, List.map_cons, List.map_nil, plainL, wipeD, reduceCtorEq, if_true, if_false, decide_true, decide_false, decide_eq_true_eq, Bool.and_true, Bool.true_and, Bool.not_true, Bool.not_false, Bool.not_eq_true', decide_eq_false_iff_not, Bool.false_eq_true, not_true_eq_false, not_false_eq_true, ne_eq, eq_self, and_self, and_true, true_and, D.imm, immL, kidsImm, Option.some.injEq, exists_eq_left', Nat.zero_add, Nat.reduceAdd, Nat.reduceLeDiff, Nat.reduceLT, Int.reduceLT, Int.reduceLE, Int.reduceNeg, Int.reducePow, Int.reduceAdd, Int.reduceMul, Int.reduceSub, Int.reduceToNat, Int.reduceEq, D.int.injEq, D.bl.injEq, Bool.false_eq, Bool.not_eq_eq_eq_not, true_or, or_true, false_or, or_false, Bool.and_false, Bool.false_and]
  refine ⟨fun d hd => ?_, ?_⟩
  · obtain ⟨x, hx, rfl⟩ := List.mem_map.mp hd
    simp only [FinK_nx, FinK_ret, FinK_exc, Nxt_nx, Nxt_ret, Nxt_brk, Nxt_cnt, Nxt_exc, wpE_ok, wpE_exc, wpE_bad, wpL_ok, wpI_ok, wpO_ok, wpF_ok, wpF_exc, wpS_nx, wpS_ret, wpS_brk, wpS_cnt, wpS_exc, wpS_bad, wpB_bl, wp_v0sh, wp_v0ow, wp_v1sh, wp_v1ow, wp_v2sh, wp_v2ow, wp_v3sh, wp_v3ow, wp_v4sh, wp_v4ow, wp_v5sh, wp_v5ow, wp_v6sh, wp_v6ow, wp_v7sh, wp_v7ow, wp_v8sh, wp_v8ow, wp_v9sh, wp_v9ow, wp_v10sh, wp_v10ow, wp_v11sh, wp_v11ow, wp_v12sh, wp_v12ow, wp_v13sh, wp_v13ow, wp_v14sh, wp_v14ow, wp_v15sh, wp_v15ow, wp_v16sh, wp_v16ow, wp_v17sh, wp_v17ow, wp_v18sh, wp_v18ow, wp_v19sh, wp_v19ow, wp_v20sh, wp_v20ow, wp_v21sh, wp_v21ow, wp_v22sh, wp_v22ow, wp_v23sh, wp_v23ow, wp_v24sh, wp_v24ow, wp_v25sh, wp_v25ow, wp_c, wp_op2, wp_op1, wp_and, wp_or, wp_not, wp_if, wp_chain, wp_nil, wp_cons, wp_tup, wp_lst, wp_callB, wp_call1, wp_call2, wp_callD, wp_sl, wp_noPart, wpInt_int, wp_part, wpStr_str, wp_m1, wp_seq, wp_next, wp_brk, wp_cnt, wp_never, wp_asg, wp_asgO, wp_drop, wp_ret, wp_ifS, wp_asgT, wp_app, wp_clear, wp_clrFor, wp_thru, wp_iter, wp_rng1, wp_rng2, wp_enum, wp_zip, one1_1, one2_2, wp_rng1V, wp_rng2V, wp_enumV, wp_zipT, wp_zipLL, wp_add, wp_sub, wp_mul, wp_fdiv, wp_mod, wp_pow, wp_lt, wp_le, wp_gt, wp_ge, wp_eqI, wp_neI, wp_eqS, wp_neS, SX.S_len, S_cps, wp_ixT, wp_ixL, wp_ixN, wp_ixS, atI_0, atI_1, atI_2, wp_lenL, wp_lenT, wp_lenN, wp_lenS, wp_tupL, wp_tupT, wp_lstL, wp_lstT, wp_intI, wp_intB, wpT_name, wpT_tup, wpT_cons, wpT_nil, ownL, List.getElem?_cons_zero, List.getElem?_cons_succ, List.set_cons_zero, List.set_cons_succ, List.length_cons, List.length_nil, List.map_cons, List.map_nil, plainL, wipeD, reduceCtorEq, if_true, if_false, decide_true, decide_false, decide_eq_true_eq, Bool.and_true, Bool.true_and, Bool.not_true, Bool.not_false, Bool.not_eq_true', decide_eq_false_iff_not, Bool.false_eq_true, not_true_eq_false, not_false_eq_true, ne_eq, eq_self, and_self, and_true, true_and, D.imm, immL, kidsImm, Option.some.injEq, exists_eq_left', Nat.zero_add, Nat.reduceAdd, Nat.reduceLeDiff, Nat.reduceLT, Int.reduceLT, Int.reduceLE, Int.reduceNeg, Int.reducePow, Int.reduceAdd, Int.reduceMul, Int.reduceSub, Int.reduceToNat, Int.reduceEq, D.int.injEq, D.bl.injEq, Bool.false_eq, Bool.not_eq_eq_eq_not, true_or, or_true, false_or, or_false, Bool.and_false, Bool.false_and, whole_eq]
  · have hpk : D.pk 20 (.tup (r.map .int)) = true := by simp only [D.pk]; exact pk_ints _ _
    rw [wp_allT]
    simp only [FinK_nx, FinK_ret, FinK_exc, Nxt_nx, Nxt_ret, Nxt_brk, Nxt_cnt, Nxt_exc, wpE_ok, wpE_exc, wpE_bad, wpL_ok, wpI_ok, wpO_ok, wpF_ok, wpF_exc, wpS_nx, wpS_ret, wpS_brk, wpS_cnt, wpS_exc, wpS_bad, wpB_bl, wp_v0sh, wp_v0ow, wp_v1sh, wp_v1ow, wp_v2sh, wp_v2ow, wp_v3sh, wp_v3ow, wp_v4sh, wp_v4ow, wp_v5sh, wp_v5ow, wp_v6sh, wp_v6ow, wp_v7sh, wp_v7ow, wp_v8sh, wp_v8ow, wp_v9sh, wp_v9ow, wp_v10sh, wp_v10ow, wp_v11sh, wp_v11ow, wp_v12sh, wp_v12ow, wp_v13sh, wp_v13ow, wp_v14sh, wp_v14ow, wp_v15sh, wp_v15ow, wp_v16sh, wp_v16ow, wp_v17sh, wp_v17ow, wp_v18sh, wp_v18ow, wp_v19sh, wp_v19ow, wp_v20sh, wp_v20ow, wp_v21sh, wp_v21ow, wp_v22sh, wp_v22ow, wp_v23sh, wp_v23ow, wp_v24sh, wp_v24ow, wp_v25sh, wp_v25ow, wp_c, wp_op2, wp_op1, wp_and, wp_or, wp_not, wp_if, wp_chain, wp_nil, wp_cons, wp_tup, wp_lst, wp_callB, wp_call1, wp_call2, wp_callD, wp_sl, wp_noPart, wpInt_int, wp_part, wpStr_str, wp_m1, wp_seq, wp_next, wp_brk, wp_cnt, wp_never, wp_asg, wp_asgO, wp_drop, wp_ret, wp_ifS, wp_asgT, wp_app, wp_clear, wp_clrFor, wp_thru, wp_iter, wp_rng1, wp_rng2, wp_enum, wp_zip, one1_1, one2_2, wp_rng1V, wp_rng2V, wp_enumV, wp_zipT, wp_zipLL, wp_add, wp_sub, wp_mul, wp_fdiv, wp_mod, wp_pow, wp_lt, wp_le, wp_gt, wp_ge, wp_eqI, wp_neI, wp_eqS, wp_neS, SX.S_len, S_cps, wp_ixT, wp_ixL, wp_ixN, wp_ixS, atI_0, atI_1, atI_2, wp_lenL, wp_lenT, wp_lenN, wp_lenS, wp_tupL, wp_tupT, wp_lstL, wp_lstT, wp_intI, wp_intB, wpT_name, wpT_tup, wpT_cons, wpT_nil, ownL, List.getElem?_cons_zero, List.getElem?_cons_succ, List.set_cons_zero, List.set_cons_succ, List.length_cons, List.length_nil, List.map_cons, List.map_nil, plainL, wipeD, reduceCtorEq, if_true, if_false, decide_true, decide_false, decide_eq_true_eq, Bool.and_true, Bool.true_and, Bool.not_true, Bool.not_false, Bool.not_eq_true', decide_eq_false_iff_not, Bool.false_eq_true, not_true_eq_false, not_false_eq_true, ne_eq, eq_self, and_self, and_true, true_and, D.imm, immL, kidsImm, Option.some.injEq, exists_eq_left', Nat.zero_add, Nat.reduceAdd, Nat.reduceLeDiff, Nat.reduceLT, Int.reduceLT, Int.reduceLE, Int.reduceNeg, Int.reducePow, Int.reduceAdd, Int.reduceMul, Int.reduceSub, Int.reduceToNat, Int.reduceEq, D.int.injEq, D.bl.injEq, Bool.false_eq, Bool.not_eq_eq_eq_not, true_or, or_true, false_or, or_false, Bool.and_false, Bool.false_and, wp_eqR _ hpk]
theorem istable_eq (h w : Int) (t : List (List Int)) (hh : (t.length : Int) = h) (hb : h ≤ 100) : den_law_is_table [tabE h w t, tabE h w t] = .ok false (.bl true) := by
  apply wpF_eq
  unfold den_law_is_table
  rw [wpF_denOf (Γ := [.sh (tabE h w t), .sh (tabE h w t), .no]) rfl]
  have hpk : D.pk 20 (.tup [.int h, .int w]) = true := rfl
  simp only [bd_law_is_table, tabE, FinK_nx, FinK_ret, FinK_exc, Nxt_nx, Nxt_ret, Nxt_brk, Nxt_cnt, Nxt_exc, wpE_ok, wpE_exc, wpE_bad, wpL_ok, wpI_ok, wpO_ok, wpF_ok, wpF_exc, wpS_nx, wpS_ret, wpS_brk, wpS_cnt, wpS_exc, wpS_bad, wpB_bl, wp_v0sh, wp_v0ow, wp_v1sh, wp_v1ow, wp_v2sh, wp_v2ow, wp_v3sh, wp_v3ow, wp_v4sh, wp_v4ow, wp_v5sh, wp_v5ow, wp_v6sh, wp_v6ow, wp_v7sh, wp_v7ow, wp_v8sh, wp_v8ow, wp_v9sh, wp_v9ow, wp_v10sh, wp_v10ow, wp_v11sh, wp_v11ow, wp_v12sh, wp_v12ow, wp_v13sh, wp_v13ow, wp_v14sh, wp_v14ow, wp_v15sh, wp_v15ow, wp_v16sh, wp_v16ow, wp_v17sh, wp_v17ow, wp_v18sh, wp_v18ow, wp_v19sh, wp_v19ow, wp_v20sh, wp_v20ow, wp_v21sh, wp_v21ow, wp_v22sh, wp_v22ow, wp_v23sh, wp_v23ow, wp_v24sh, wp_v24ow, wp_v25sh, wp_v25ow, wp_c, wp_op2, wp_op1, wp_and, wp_or, wp_not, wp_if, wp_chain, wp_nil, wp_cons, wp_tup, wp_lst, wp_callB, wp_call1, wp_call2, wp_callD, wp_sl, wp_noPart, wpInt_int, wp_part, wpStr_str, wp_m1, wp_seq, wp_next, wp_brk, wp_cnt, wp_never, wp_asg, wp_asgO, wp_drop, wp_ret, wp_ifS, wp_asgT, wp_app, wp_clear, wp_clrFor, wp_thru, wp_iter, wp_rng1, wp_rng2, wp_enum, wp_zip, one1_1, one2_2, wp_rng1V, wp_rng2V, wp_enumV, wp_zipT, wp_zipLL, wp_add, wp_sub, wp_mul, wp_fdiv, wp_mod, wp_pow, wp_lt, wp_le, wp_gt, wp_ge, wp_eqI, wp_neI, wp_eqS, wp_neS, SX.S_len, S_cps, wp_ixT, wp_ixL, wp_ixN, wp_ixS, atI_0, atI_1, atI_2, wp_lenL, wp_lenT, wp_lenN, wp_lenS, wp_tupL, wp_tupT, wp_lstL, wp_lstT, wp_intI, wp_intB, wpT_name, wpT_tup, wpT_cons, wpT_nil, ownL, List.getElem?_cons_zero, List.getElem?_cons_succ, List.set_cons_zero, List.set_cons_succ, List.length_cons, List.length_nil, List.map_cons, List.map_nil, plainL, wipeD, reduceCtorEq, if_true, if_false, decide_true, decide_false, decide_eq_true_eq, Bool.and_true, Bool.true_and, Bool.not_true, Bool.not_false, Bool.not_eq_true', decide_eq_false_iff_not, Bool.false_eq_true, not_true_eq_false, not_false_eq_true, ne_eq, eq_self, and_self, and_true, true_and, D.imm, immL, kidsImm, Option.some.injEq, exists_eq_left', Nat.zero_add, Nat.reduceAdd, Nat.reduceLeDiff, Nat.reduceLT, Int.reduceLT, Int.reduceLE, Int.reduceNeg, Int.reducePow, Int.reduceAdd, Int.reduceMul, Int.reduceSub, Int.reduceToNat, Int.reduceEq, D.int.injEq, D.bl.injEq, Bool.false_eq, Bool.not_eq_eq_eq_not, true_or, or_true, false_or, or_false, Bool.and_false, Bool.false_and, wp_isT, whole_eq, wp_cut2, wp_neR _ hpk, List.length_map, hh]
  rw [if_neg (by decide)]
  refine wp_lcMap (fun _ => .bl true) ?_
  simp only [FinK_nx, FinK_ret, FinK_exc, Nxt_nx, Nxt_ret, Nxt_brk, Nxt_cnt, Nxt_exc, wpE_ok, wpE_exc, wpE_bad, wpL_ok, wpI_ok, wpO_ok, wpF_ok, wpF_exc, wpS_nx, wpS_ret, wpS_brk, wpS_cnt, wpS_exc, wpS_bad, wpB_bl, wp_v0sh, wp_v0ow, wp_v1sh, wp_v1ow, wp_v2sh, wp_v2ow, wp_v3sh, wp_v3ow, wp_v4sh, wp_v4ow, wp_v5sh, wp_v5ow, wp_v6sh, wp_v6ow, wp_v7sh, wp_v7ow, wp_v8sh, wp_v8ow, wp_v9sh, wp_v9ow, wp_v10sh, wp_v10ow, wp_v11sh, wp_v11ow, wp_v12sh, wp_v12ow, wp_v13sh, wp_v13ow, wp_v14sh, wp_v14ow, wp_v15sh, wp_v15ow, wp_v16sh, wp_v16ow, wp_v17sh, wp_v17ow, wp_v18sh, wp_v18ow, wp_v19sh, wp_v19ow, wp_v20sh, wp_v20ow, wp_v21sh, wp_v21ow, wp_v22sh, wp_v22ow, wp_v23sh, wp_v23ow, wp_v24sh, wp_v24ow, wp_v25sh, wp_v25ow, wp_c, wp_op2, wp_op1, wp_and, wp_or, wp_not, wp_if, wp_chain, wp_nil, wp_cons, wp_tup, wp_lst, wp_callB, wp_call1, wp_call2, wp_callD, wp_sl, wp_noPart, wpInt_int, wp_part, wpStr_str, wp_m1, wp_seq, wp_next, wp_brk, wp_cnt, wp_never, wp_asg, wp_asgO, wp_drop, wp_ret, wp_ifS, wp_asgT, wp_app, wp_clear, wp_clrFor, wp_thru, wp_iter, wp_rng1, wp_rng2, wp_enum, wp_zip, one1_1, one2_2, wp_rng1V, wp_rng2V, wp_enumV, wp_zipT, wp_zipLL, wp_add, wp_sub, wp_mul, wp_fdiv, wp_mod, wp_pow, wp_lt, wp_le, wp_gt, wp_ge, wp_eqI, wp_neI, wp_eqS, wp_neS, SX.S_len, S_cps, wp_ixT, wp_ixL, wp_ixN, wp_ixS, atI_0, atI_1, atI_2, wp_lenL, wp_lenT, wp_lenN, wp_lenS, wp_tupL, wp_tupT, wp_lstL, wp_lstT, wp_intI, wp_intB, wpT_name, wpT_tup, wpT_cons, wpT_nil, ownL, List.getElem?_cons_zero, List.getElem?_cons_succ, List.set_cons_zero, List.set_cons_succ, List.length_cons, List.length_nil, List.map_cons, List.map_nil, plainL, wipeD, reduceCtorEq, if_true, if_false, decide_true, decide_false, decide_eq_true_eq, Bool.and_true, Bool.true_and, Bool.not_true, Bool.not_false, Bool.not_eq_true', decide_eq_false_iff_not, Bool.false_eq_true, not_true_eq_false, not_false_eq_true, ne_eq, eq_self, and_self, and_true, true_and, D.imm, immL, kidsImm, Option.some.injEq, exists_eq_left', Nat.zero_add, Nat.reduceAdd, Nat.reduceLeDiff, Nat.reduceLT, Int.reduceLT, Int.reduceLE, Int.reduceNeg, Int.reducePow, Int.reduceAdd, Int.reduceMul, Int.reduceSub, Int.reduceToNat, Int.reduceEq, D.int.injEq, D.bl.injEq, Bool.false_eq, Bool.not_eq_eq_eq_not, true_or, or_true, false_or, or_false, Bool.and_false, Bool.false_and]
  refine ⟨by omega, fun d hd => ?_, ?_⟩
  · obtain ⟨i, hi, rfl⟩ := List.getElem_of_mem hd
    have h2 := rngL_get (List.getElem?_eq_getElem hi)
    rw [h2.2]
    have hit : i < t.length := by have := h2.1; omega
    obtain ⟨r, hr⟩ := get_lt hit
    simp only [FinK_nx, FinK_ret, FinK_exc, Nxt_nx, Nxt_ret, Nxt_brk, Nxt_cnt, Nxt_exc, wpE_ok, wpE_exc, wpE_bad, wpL_ok, wpI_ok, wpO_ok, wpF_ok, wpF_exc, wpS_nx, wpS_ret, wpS_brk, wpS_cnt, wpS_exc, wpS_bad, wpB_bl, wp_v0sh, wp_v0ow, wp_v1sh, wp_v1ow, wp_v2sh, wp_v2ow, wp_v3sh, wp_v3ow, wp_v4sh, wp_v4ow, wp_v5sh, wp_v5ow, wp_v6sh, wp_v6ow, wp_v7sh, wp_v7ow, wp_v8sh, wp_v8ow, wp_v9sh, wp_v9ow, wp_v10sh, wp_v10ow, wp_v11sh, wp_v11ow, wp_v12sh, wp_v12ow, wp_v13sh, wp_v13ow, wp_v14sh, wp_v14ow, wp_v15sh, wp_v15ow, wp_v16sh, wp_v16ow, wp_v17sh, wp_v17ow, wp_v18sh, wp_v18ow, wp_v19sh, wp_v19ow, wp_v20sh, wp_v20ow, wp_v21sh, wp_v21ow, wp_v22sh, wp_v22ow, wp_v23sh, wp_v23ow, wp_v24sh, wp_v24ow, wp_v25sh, wp_v25ow, wp_c, wp_op2, wp_op1, wp_and, wp_or, wp_not, wp_if, wp_chain, wp_nil, wp_cons, wp_tup, wp_lst, wp_callB, wp_call1, wp_call2, wp_callD, wp_sl, wp_noPart, wpInt_int, wp_part, wpStr_str, wp_m1, wp_seq, wp_next, wp_brk, wp_cnt, wp_never, wp_asg, wp_asgO, wp_drop, wp_ret, wp_ifS, wp_asgT, wp_app, wp_clear, wp_clrFor, wp_thru, wp_iter, wp_rng1, wp_rng2, wp_enum, wp_zip, one1_1, one2_2, wp_rng1V, wp_rng2V, wp_enumV, wp_zipT, wp_zipLL, wp_add, wp_sub, wp_mul, wp_fdiv, wp_mod, wp_pow, wp_lt, wp_le, wp_gt, wp_ge, wp_eqI, wp_neI, wp_eqS, wp_neS, SX.S_len, S_cps, wp_ixT, wp_ixL, wp_ixN, wp_ixS, atI_0, atI_1, atI_2, wp_lenL, wp_lenT, wp_lenN, wp_lenS, wp_tupL, wp_tupT, wp_lstL, wp_lstT, wp_intI, wp_intB, wpT_name, wpT_tup, wpT_cons, wpT_nil, ownL, List.getElem?_cons_zero, List.getElem?_cons_succ, List.set_cons_zero, List.set_cons_succ, List.length_cons, List.length_nil, List.map_cons, List.map_nil, plainL, wipeD, reduceCtorEq, if_true, if_false, decide_true, decide_false, decide_eq_true_eq, Bool.and_true, Bool.true_and, Bool.not_true, Bool.not_false, Bool.not_eq_true', decide_eq_false_iff_not, Bool.false_eq_true, not_true_eq_false, not_false_eq_true, ne_eq, eq_self, and_self, and_true, true_and, D.imm, immL, kidsImm, Option.some.injEq, exists_eq_left', Nat.zero_add, Nat.reduceAdd, Nat.reduceLeDiff, Nat.reduceLT, Int.reduceLT, Int.reduceLE, Int.reduceNeg, Int.reducePow, Int.reduceAdd, Int.reduceMul, Int.reduceSub, Int.reduceToNat, Int.reduceEq, D.int.injEq, D.bl.injEq, Bool.false_eq, Bool.not_eq_eq_eq_not, true_or, or_true, false_or, or_false, Bool.and_false, Bool.false_and]
    refine ⟨_, atM (n := i) (by omega) hr, _, atM (n := i) (by omega) hr, ?_⟩
    simp only [rowT, FinK_nx, FinK_ret, FinK_exc, Nxt_nx, Nxt_ret, Nxt_brk, Nxt_cnt, Nxt_exc, wpE_ok, wpE_exc, wpE_bad, wpL_ok, wpI_ok, wpO_ok, wpF_ok, wpF_exc, wpS_nx, wpS_ret, wpS_brk, wpS_cnt, wpS_exc, wpS_bad, wpB_bl, wp_v0sh, wp_v0ow, wp_v1sh, wp_v1ow, wp_v2sh, wp_v2ow, wp_v3sh, wp_v3ow, wp_v4sh, wp_v4ow, wp_v5sh, wp_v5ow, wp_v6sh, wp_v6ow, wp_v7sh, wp_v7ow, wp_v8sh, wp_v8ow, wp_v9sh, wp_v9ow, wp_v10sh, wp_v10ow, wp_v11sh, wp_v11ow, wp_v12sh, wp_v12ow, wp_v13sh, wp_v13ow, wp_v14sh, wp_v14ow, wp_v15sh, wp_v15ow, wp_v16sh, wp_v16ow, wp_v17sh, wp_v17ow, wp_v18sh, wp_v18ow, wp_v19sh, wp_v19ow, wp_v20sh, wp_v20ow, wp_v21sh, wp_v21ow, wp_v22sh, wp_v22ow, wp_v23sh, wp_v23ow, wp_v24sh, wp_v24ow, wp_v25sh, wp_v25ow, wp_c, wp_op2, wp_op1, wp_and, wp_or, wp_not, wp_if, wp_chain, wp_nil, wp_cons, wp_tup, wp_lst, wp_callB, wp_call1, wp_call2, wp_callD, wp_sl, wp_noPart, wpInt_int, wp_part, wpStr_str, wp_m1, wp_seq, wp_next, wp_brk, wp_cnt, wp_never, wp_asg, wp_asgO, wp_drop, wp_ret, wp_ifS, wp_asgT, wp_app, wp_clear, wp_clrFor, wp_thru, wp_iter, wp_rng1, wp_rng2, wp_enum, wp_zip, one1_1, one2_2, wp_rng1V, wp_rng2V, wp_enumV, wp_zipT, wp_zipLL, wp_add, wp_sub, wp_mul, wp_fdiv, wp_mod, wp_pow, wp_lt, wp_le, wp_gt, wp_ge, wp_eqI, wp_neI, wp_eqS, wp_neS, SX.S_len, S_cps, wp_ixT, wp_ixL, wp_ixN, wp_ixS, atI_0, atI_1, atI_2, wp_lenL, wp_lenT, wp_lenN, wp_lenS, wp_tupL, wp_tupT, wp_lstL, wp_lstT, wp_intI, wp_intB, wpT_name, wpT_tup, wpT_cons, wpT_nil, ownL, List.getElem?_cons_zero, List.getElem?_cons_succ, List.set_cons_zero, List.set_cons_succ, List.length_cons, List.length_nil, List.map_cons, List.map_nil, plainL, wipeD, reduceCtorEq, if_true, if_false, decide_true, decide_false, decide_eq_true_eq, Bool.and_true, Bool.true_and, Bool.not_true, Bool.not_false, Bool.not_eq_true', decide_eq_false_iff_not, Bool.false_eq_true, not_true_eq_false, not_false_eq_true, ne_eq, eq_self, and_self, and_true, true_and, D.imm, immL, kidsImm, Option.some.injEq, exists_eq_left', Nat.zero_add, Nat.reduceAdd, Nat.reduceLeDiff, Nat.reduceLT, Int.reduceLT, Int.reduceLE, Int.reduceNeg, Int.reducePow, Int.reduceAdd, Int.reduceMul, Int.reduceSub, Int.reduceToNat, Int.reduceEq, D.int.injEq, D.bl.injEq, Bool.false_eq, Bool.not_eq_eq_eq_not, true_or, or_true, false_or, or_false, Bool.and_false, Bool.false_and, rests_eq]
  · rw [wp_allT]
    simp only [FinK_nx, FinK_ret, FinK_exc, Nxt_nx, Nxt_ret, Nxt_brk, Nxt_cnt, Nxt_exc, wpE_ok, wpE_exc, wpE_bad, wpL_ok, wpI_ok, wpO_ok, wpF_ok, wpF_exc, wpS_nx, wpS_ret, wpS_brk, wpS_cnt, wpS_exc, wpS_bad, wpB_bl, wp_v0sh, wp_v0ow, wp_v1sh, wp_v1ow, wp_v2sh, wp_v2ow, wp_v3sh, wp_v3ow, wp_v4sh, wp_v4ow, wp_v5sh, wp_v5ow, wp_v6sh, wp_v6ow, wp_v7sh, wp_v7ow, wp_v8sh, wp_v8ow, wp_v9sh, wp_v9ow, wp_v10sh, wp_v10ow, wp_v11sh, wp_v11ow, wp_v12sh, wp_v12ow, wp_v13sh, wp_v13ow, wp_v14sh, wp_v14ow, wp_v15sh, wp_v15ow, wp_v16sh, wp_v16ow, wp_v17sh, wp_v17ow, wp_v18sh, wp_v18ow, wp_v19sh, wp_v19ow, wp_v20sh, wp_v20ow, wp_v21sh, wp_v21ow, wp_v22sh, wp_v22ow, wp_v23sh, wp_v23ow, wp_v24sh, wp_v24ow, wp_v25sh, wp_v25ow, wp_c, wp_op2, wp_op1, wp_and, wp_or, wp_not, wp_if, wp_chain, wp_nil, wp_cons, wp_tup, wp_lst, wp_callB, wp_call1, wp_call2, wp_callD, wp_sl, wp_noPart, wpInt_int, wp_part, wpStr_str, wp_m1, wp_seq, wp_next, wp_brk, wp_cnt, wp_never, wp_asg, wp_asgO, wp_drop, wp_ret, wp_ifS, wp_asgT, wp_app, wp_clear, wp_clrFor, wp_thru, wp_iter, wp_rng1, wp_rng2, wp_enum, wp_zip, one1_1, one2_2, wp_rng1V, wp_rng2V, wp_enumV, wp_zipT, wp_zipLL, wp_add, wp_sub, wp_mul, wp_fdiv, wp_mod, wp_pow, wp_lt, wp_le, wp_gt, wp_ge, wp_eqI, wp_neI, wp_eqS, wp_neS, SX.S_len, S_cps, wp_ixT, wp_ixL, wp_ixN, wp_ixS, atI_0, atI_1, atI_2, wp_lenL, wp_lenT, wp_lenN, wp_lenS, wp_tupL, wp_tupT, wp_lstL, wp_lstT, wp_intI, wp_intB, wpT_name, wpT_tup, wpT_cons, wpT_nil, ownL, List.getElem?_cons_zero, List.getElem?_cons_succ, List.set_cons_zero, List.set_cons_succ, List.length_cons, List.length_nil, List.map_cons, List.map_nil, plainL, wipeD, reduceCtorEq, if_true, if_false, decide_true, decide_false, decide_eq_true_eq, Bool.and_true, Bool.true_and, Bool.not_true, Bool.not_false, Bool.not_eq_true', decide_eq_false_iff_not, Bool.false_eq_true, not_true_eq_false, not_false_eq_true, ne_eq, eq_self, and_self, and_true, true_and, D.imm, immL, kidsImm, Option.some.injEq, exists_eq_left', Nat.zero_add, Nat.reduceAdd, Nat.reduceLeDiff, Nat.reduceLT, Int.reduceLT, Int.reduceLE, Int.reduceNeg, Int.reducePow, Int.reduceAdd, Int.reduceMul, Int.reduceSub, Int.reduceToNat, Int.reduceEq, D.int.injEq, D.bl.injEq, Bool.false_eq, Bool.not_eq_eq_eq_not, true_or, or_true, false_or, or_false, Bool.and_false, Bool.false_and]
def fstD : D → D
  | .tup [x, _] => x
  | d => d
theorem ways_map {p m : Int} {cs : List Nat} {ws : List Int} {as : List Arr} (ok : RowOk p cs ws as m) : (as.map arrE).map fstD = cs.map fun c => D.str (S [c]) := by
  apply List.ext_getElem?
  intro i
  rw [List.getElem?_map, List.getElem?_map, List.getElem?_map]
  by_cases hi : i < as.length
  · obtain ⟨a, ha⟩ := get_lt hi
    rw [ha, (ok.ar i a ha).c]
    rfl
  · have := ok.al
    rw [List.getElem?_eq_none (by omega), List.getElem?_eq_none (by omega)]
    rfl
theorem waysof_eq {p m : Int} {cs : List Nat} (hcl : cs.length ≤ 5) {ws : List Int} {as : List Arr} (ok : RowOk p cs ws as m) : den_ways_of [rowE p ws as] = .ok false (.str (S cs)) := by
  apply wpF_eq
  unfold den_ways_of
  rw [wpF_denOf (Γ := [.sh (rowE p ws as), .no, .no]) rfl]
  simp only [bd_ways_of, FinK_nx, FinK_ret, FinK_exc, Nxt_nx, Nxt_ret, Nxt_brk, Nxt_cnt, Nxt_exc, wpE_ok, wpE_exc, wpE_bad, wpL_ok, wpI_ok, wpO_ok, wpF_ok, wpF_exc, wpS_nx, wpS_ret, wpS_brk, wpS_cnt, wpS_exc, wpS_bad, wpB_bl, wp_v0sh, wp_v0ow, wp_v1sh, wp_v1ow, wp_v2sh, wp_v2ow, wp_v3sh, wp_v3ow, wp_v4sh, wp_v4ow, wp_v5sh, wp_v5ow, wp_v6sh, wp_v6ow, wp_v7sh, wp_v7ow, wp_v8sh, wp_v8ow, wp_v9sh, wp_v9ow, wp_v10sh, wp_v10ow, wp_v11sh, wp_v11ow, wp_v12sh, wp_v12ow, wp_v13sh, wp_v13ow, wp_v14sh, wp_v14ow, wp_v15sh, wp_v15ow, wp_v16sh, wp_v16ow, wp_v17sh, wp_v17ow, wp_v18sh, wp_v18ow, wp_v19sh, wp_v19ow, wp_v20sh, wp_v20ow, wp_v21sh, wp_v21ow, wp_v22sh, wp_v22ow, wp_v23sh, wp_v23ow, wp_v24sh, wp_v24ow, wp_v25sh, wp_v25ow, wp_c, wp_op2, wp_op1, wp_and, wp_or, wp_not, wp_if, wp_chain, wp_nil, wp_cons, wp_tup, wp_lst, wp_callB, wp_call1, wp_call2, wp_callD, wp_sl, wp_noPart, wpInt_int, wp_part, wpStr_str, wp_m1, wp_seq, wp_next, wp_brk, wp_cnt, wp_never, wp_asg, wp_asgO, wp_drop, wp_ret, wp_ifS, wp_asgT, wp_app, wp_clear, wp_clrFor, wp_thru, wp_iter, wp_rng1, wp_rng2, wp_enum, wp_zip, one1_1, one2_2, wp_rng1V, wp_rng2V, wp_enumV, wp_zipT, wp_zipLL, wp_add, wp_sub, wp_mul, wp_fdiv, wp_mod, wp_pow, wp_lt, wp_le, wp_gt, wp_ge, wp_eqI, wp_neI, wp_eqS, wp_neS, SX.S_len, S_cps, wp_ixT, wp_ixL, wp_ixN, wp_ixS, atI_0, atI_1, atI_2, wp_lenL, wp_lenT, wp_lenN, wp_lenS, wp_tupL, wp_tupT, wp_lstL, wp_lstT, wp_intI, wp_intB, wpT_name, wpT_tup, wpT_cons, wpT_nil, ownL, List.getElem?_cons_zero, List.getElem?_cons_succ, List.set_cons_zero, List.set_cons_succ, List.length_cons, List.length_nil, List.map_cons, List.map_nil, plainL, wipeD, reduceCtorEq, if_true, if_false, decide_true, decide_false, decide_eq_true_eq, Bool.and_true, Bool.true_and, Bool.not_true, Bool.not_false, Bool.not_eq_true', decide_eq_false_iff_not, Bool.false_eq_true, not_true_eq_false, not_false_eq_true, ne_eq, eq_self, and_self, and_true, true_and, D.imm, immL, kidsImm, Option.some.injEq, exists_eq_left', Nat.zero_add, Nat.reduceAdd, Nat.reduceLeDiff, Nat.reduceLT, Int.reduceLT, Int.reduceLE, Int.reduceNeg, Int.reducePow, Int.reduceAdd, Int.reduceMul, Int.reduceSub, Int.reduceToNat, Int.reduceEq, D.int.injEq, D.bl.injEq, Bool.false_eq, Bool.not_eq_eq_eq_not, true_or, or_true, false_or, or_false, Bool.and_false, Bool.false_and]
  rw [lit_nil]
  refine wp_lcMap fstD ?_
  simp only [rowE, FinK_nx, FinK_ret, FinK_exc, Nxt_nx, Nxt_ret, Nxt_brk, Nxt_cnt, Nxt_exc, wpE_ok, wpE_exc, wpE_bad, wpL_ok, wpI_ok, wpO_ok, wpF_ok, wpF_exc, wpS_nx, wpS_ret, wpS_brk, wpS_cnt, wpS_exc, wpS_bad, wpB_bl, wp_v0sh, wp_v0ow, wp_v1sh, wp_v1ow, wp_v2sh, wp_v2ow, wp_v3sh, wp_v3ow, wp_v4sh, wp_v4ow, wp_v5sh, wp_v5ow, wp_v6sh, wp_v6ow, wp_v7sh, wp_v7ow, wp_v8sh, wp_v8ow, wp_v9sh, wp_v9ow, wp_v10sh, wp_v10ow, wp_v11sh, wp_v11ow, wp_v12sh, wp_v12ow, wp_v13sh, wp_v13ow, wp_v14sh, wp_v14ow, wp_v15sh, wp_v15ow, wp_v16sh, wp_v16ow, wp_v17sh, wp_v17ow, wp_v18sh, wp_v18ow, wp_v19sh, wp_v19ow, wp_v20sh, wp_v20ow, wp_v21sh, wp_v21ow, wp_v22sh, wp_v22ow, wp_v23sh, wp_v23ow, wp_v24sh, wp_v24ow, wp_v25sh, wp_v25ow, wp_c, wp_op2, wp_op1, wp_and, wp_or, wp_not, wp_if, wp_chain, wp_nil, wp_cons, wp_tup, wp_lst, wp_callB, wp_call1, wp_call2, wp_callD, wp_sl, wp_noPart, wpInt_int, wp_part, wpStr_str, wp_m1, wp_seq, wp_next, wp_brk, wp_cnt, wp_never, wp_asg, wp_asgO, wp_drop, wp_ret, wp_ifS, wp_asgT, wp_app, wp_clear, wp_clrFor, wp_thru, wp_iter, wp_rng1, wp_rng2, wp_enum, wp_zip, one1_1, one2_2, wp_rng1V, wp_rng2V, wp_enumV, wp_zipT, wp_zipLL, wp_add, wp_sub, wp_mul, wp_fdiv, wp_mod, wp_pow, wp_lt, wp_le, wp_gt, wp_ge, wp_eqI, wp_neI, wp_eqS, wp_neS, SX.S_len, S_cps, wp_ixT, wp_ixL, wp_ixN, wp_ixS, atI_0, atI_1, atI_2, wp_lenL, wp_lenT, wp_lenN, wp_lenS, wp_tupL, wp_tupT, wp_lstL, wp_lstT, wp_intI, wp_intB, wpT_name, wpT_tup, wpT_cons, wpT_nil, ownL, List.getElem?_cons_zero, List.getElem?_cons_succ, List.set_cons_zero, List.set_cons_succ, List.length_cons, List.length_nil, List.map_cons, List.map_nil, plainL, wipeD, reduceCtorEq, if_true, if_false, decide_true, decide_false, decide_eq_true_eq, Bool.and_true, Bool.true_and, Bool.not_true, Bool.not_false, Bool.not_eq_true', decide_eq_false_iff_not, Bool.false_eq_true, not_true_eq_false, not_false_eq_true, ne_eq, eq_self, and_self, and_true, true_and, D.imm, immL, kidsImm, Option.some.injEq, exists_eq_left', Nat.zero_add, Nat.reduceAdd, Nat.reduceLeDiff, Nat.reduceLT, Int.reduceLT, Int.reduceLE, Int.reduceNeg, Int.reducePow, Int.reduceAdd, Int.reduceMul, Int.reduceSub, Int.reduceToNat, Int.reduceEq, D.int.injEq, D.bl.injEq, Bool.false_eq, Bool.not_eq_eq_eq_not, true_or, or_true, false_or, or_false, Bool.and_false, Bool.false_and]
  refine ⟨fun d hd => ?_, ?_⟩
  · obtain ⟨a, ha, rfl⟩ := List.mem_map.mp hd
    simp only [arrE, fstD, FinK_nx, FinK_ret, FinK_exc, Nxt_nx, Nxt_ret, Nxt_brk, Nxt_cnt, Nxt_exc, wpE_ok, wpE_exc, wpE_bad, wpL_ok, wpI_ok, wpO_ok, wpF_ok, wpF_exc, wpS_nx, wpS_ret, wpS_brk, wpS_cnt, wpS_exc, wpS_bad, wpB_bl, wp_v0sh, wp_v0ow, wp_v1sh, wp_v1ow, wp_v2sh, wp_v2ow, wp_v3sh, wp_v3ow, wp_v4sh, wp_v4ow, wp_v5sh, wp_v5ow, wp_v6sh, wp_v6ow, wp_v7sh, wp_v7ow, wp_v8sh, wp_v8ow, wp_v9sh, wp_v9ow, wp_v10sh, wp_v10ow, wp_v11sh, wp_v11ow, wp_v12sh, wp_v12ow, wp_v13sh, wp_v13ow, wp_v14sh, wp_v14ow, wp_v15sh, wp_v15ow, wp_v16sh, wp_v16ow, wp_v17sh, wp_v17ow, wp_v18sh, wp_v18ow, wp_v19sh, wp_v19ow, wp_v20sh, wp_v20ow, wp_v21sh, wp_v21ow, wp_v22sh, wp_v22ow, wp_v23sh, wp_v23ow, wp_v24sh, wp_v24ow, wp_v25sh, wp_v25ow, wp_c, wp_op2, wp_op1, wp_and, wp_or, wp_not, wp_if, wp_chain, wp_nil, wp_cons, wp_tup, wp_lst, wp_callB, wp_call1, wp_call2, wp_callD, wp_sl, wp_noPart, wpInt_int, wp_part, wpStr_str, wp_m1, wp_seq, wp_next, wp_brk, wp_cnt, wp_never, wp_asg, wp_asgO, wp_drop, wp_ret, wp_ifS, wp_asgT, wp_app, wp_clear, wp_clrFor, wp_thru, wp_iter, wp_rng1, wp_rng2, wp_enum, wp_zip, one1_1, one2_2, wp_rng1V, wp_rng2V, wp_enumV, wp_zipT, wp_zipLL, wp_add, wp_sub, wp_mul, wp_fdiv, wp_mod, wp_pow, wp_lt, wp_le, wp_gt, wp_ge, wp_eqI, wp_neI, wp_eqS, wp_neS, SX.S_len, S_cps, wp_ixT, wp_ixL, wp_ixN, wp_ixS, atI_0, atI_1, atI_2, wp_lenL, wp_lenT, wp_lenN, wp_lenS, wp_tupL, wp_tupT, wp_lstL, wp_lstT, wp_intI, wp_intB, wpT_name, wpT_tup, wpT_cons, wpT_nil, ownL, List.getElem?_cons_zero, List.getElem?_cons_succ, List.set_cons_zero, List.set_cons_succ, List.length_cons, List.length_nil, List.map_cons, List.map_nil, plainL, wipeD, reduceCtorEq, if_true, if_false, decide_true, decide_false, decide_eq_true_eq, Bool.and_true, Bool.true_and, Bool.not_true, Bool.not_false, Bool.not_eq_true', decide_eq_false_iff_not, Bool.false_eq_true, not_true_eq_false, not_false_eq_true, ne_eq, eq_self, and_self, and_true, true_and, D.imm, immL, kidsImm, Option.some.injEq, exists_eq_left', Nat.zero_add, Nat.reduceAdd, Nat.reduceLeDiff, Nat.reduceLT, Int.reduceLT, Int.reduceLE, Int.reduceNeg, Int.reducePow, Int.reduceAdd, Int.reduceMul, Int.reduceSub, Int.reduceToNat, Int.reduceEq, D.int.injEq, D.bl.injEq, Bool.false_eq, Bool.not_eq_eq_eq_not, true_or, or_true, false_or, or_false, Bool.and_false, Bool.false_and]
  · rw [ways_map ok, wp_joinChars cs (by omega)]
    simp only [FinK_nx, FinK_ret, FinK_exc, Nxt_nx, Nxt_ret, Nxt_brk, Nxt_cnt, Nxt_exc, wpE_ok, wpE_exc, wpE_bad, wpL_ok, wpI_ok, wpO_ok, wpF_ok, wpF_exc, wpS_nx, wpS_ret, wpS_brk, wpS_cnt, wpS_exc, wpS_bad, wpB_bl, wp_v0sh, wp_v0ow, wp_v1sh, wp_v1ow, wp_v2sh, wp_v2ow, wp_v3sh, wp_v3ow, wp_v4sh, wp_v4ow, wp_v5sh, wp_v5ow, wp_v6sh, wp_v6ow, wp_v7sh, wp_v7ow, wp_v8sh, wp_v8ow, wp_v9sh, wp_v9ow, wp_v10sh, wp_v10ow, wp_v11sh, wp_v11ow, wp_v12sh, wp_v12ow, wp_v13sh, wp_v13ow, wp_v14sh, wp_v14ow, wp_v15sh, wp_v15ow, wp_v16sh, wp_v16ow, wp_v17sh, wp_v17ow, wp_v18sh, wp_v18ow, wp_v19sh, wp_v19ow, wp_v20sh, wp_v20ow, wp_v21sh, wp_v21ow, wp_v22sh, wp_v22ow, wp_v23sh, wp_v23ow, wp_v24sh, wp_v24ow, wp_v25sh, wp_v25ow, wp_c, wp_op2, wp_op1, wp_and, wp_or, wp_not, wp_if, wp_chain, wp_nil, wp_cons, wp_tup, wp_lst, wp_callB, wp_call1, wp_call2, wp_callD, wp_sl, wp_noPart, wpInt_int, wp_part, wpStr_str, wp_m1, wp_seq, wp_next, wp_brk, wp_cnt, wp_never, wp_asg, wp_asgO, wp_drop, wp_ret, wp_ifS, wp_asgT, wp_app, wp_clear, wp_clrFor, wp_thru, wp_iter, wp_rng1, wp_rng2, wp_enum, wp_zip, one1_1, one2_2, wp_rng1V, wp_rng2V, wp_enumV, wp_zipT, wp_zipLL, wp_add, wp_sub, wp_mul, wp_fdiv, wp_mod, wp_pow, wp_lt, wp_le, wp_gt, wp_ge, wp_eqI, wp_neI, wp_eqS, wp_neS, SX.S_len, S_cps, wp_ixT, wp_ixL, wp_ixN, wp_ixS, atI_0, atI_1, atI_2, wp_lenL, wp_lenT, wp_lenN, wp_lenS, wp_tupL, wp_tupT, wp_lstL, wp_lstT, wp_intI, wp_intB, wpT_name, wpT_tup, wpT_cons, wpT_nil, ownL, List.getElem?_cons_zero, List.getElem?_cons_succ, List.set_cons_zero, List.set_cons_succ, List.length_cons, List.length_nil, List.map_cons, List.map_nil, plainL, wipeD, reduceCtorEq, if_true, if_false, decide_true, decide_false, decide_eq_true_eq, Bool.and_true, Bool.true_and, Bool.not_true, Bool.not_false, Bool.not_eq_true', decide_eq_false_iff_not, Bool.false_eq_true, not_true_eq_false, not_false_eq_true, ne_eq, eq_self, and_self, and_true, true_and, D.imm, immL, kidsImm, Option.some.injEq, exists_eq_left', Nat.zero_add, Nat.reduceAdd, Nat.reduceLeDiff, Nat.reduceLT, Int.reduceLT, Int.reduceLE, Int.reduceNeg, Int.reducePow, Int.reduceAdd, Int.reduceMul, Int.reduceSub, Int.reduceToNat, Int.reduceEq, D.int.injEq, D.bl.injEq, Bool.false_eq, Bool.not_eq_eq_eq_not, true_or, or_true, false_or, or_false, Bool.and_false, Bool.false_and]
theorem isrow_eq {p m : Int} (hm : m ≤ 8) {cs : List Nat} (hc : ∀ c ∈ cs, IsWay c) {ws : List Int} {as : List Arr} (ok : RowOk p cs ws as m) : den_law_is_row [rowE p ws as, rowE p ws as] = .ok false (.bl true) := by
  apply wpF_eq
  unfold den_law_is_row
  rw [wpF_denOf (Γ := [.sh (rowE p ws as), .sh (rowE p ws as), .no, .no]) rfl]
  simp only [bd_law_is_row, rowE, FinK_nx, FinK_ret, FinK_exc, Nxt_nx, Nxt_ret, Nxt_brk, Nxt_cnt, Nxt_exc, wpE_ok, wpE_exc, wpE_bad, wpL_ok, wpI_ok, wpO_ok, wpF_ok, wpF_exc, wpS_nx, wpS_ret, wpS_brk, wpS_cnt, wpS_exc, wpS_bad, wpB_bl, wp_v0sh, wp_v0ow, wp_v1sh, wp_v1ow, wp_v2sh, wp_v2ow, wp_v3sh, wp_v3ow, wp_v4sh, wp_v4ow, wp_v5sh, wp_v5ow, wp_v6sh, wp_v6ow, wp_v7sh, wp_v7ow, wp_v8sh, wp_v8ow, wp_v9sh, wp_v9ow, wp_v10sh, wp_v10ow, wp_v11sh, wp_v11ow, wp_v12sh, wp_v12ow, wp_v13sh, wp_v13ow, wp_v14sh, wp_v14ow, wp_v15sh, wp_v15ow, wp_v16sh, wp_v16ow, wp_v17sh, wp_v17ow, wp_v18sh, wp_v18ow, wp_v19sh, wp_v19ow, wp_v20sh, wp_v20ow, wp_v21sh, wp_v21ow, wp_v22sh, wp_v22ow, wp_v23sh, wp_v23ow, wp_v24sh, wp_v24ow, wp_v25sh, wp_v25ow, wp_c, wp_op2, wp_op1, wp_and, wp_or, wp_not, wp_if, wp_chain, wp_nil, wp_cons, wp_tup, wp_lst, wp_callB, wp_call1, wp_call2, wp_callD, wp_sl, wp_noPart, wpInt_int, wp_part, wpStr_str, wp_m1, wp_seq, wp_next, wp_brk, wp_cnt, wp_never, wp_asg, wp_asgO, wp_drop, wp_ret, wp_ifS, wp_asgT, wp_app, wp_clear, wp_clrFor, wp_thru, wp_iter, wp_rng1, wp_rng2, wp_enum, wp_zip, one1_1, one2_2, wp_rng1V, wp_rng2V, wp_enumV, wp_zipT, wp_zipLL, wp_add, wp_sub, wp_mul, wp_fdiv, wp_mod, wp_pow, wp_lt, wp_le, wp_gt, wp_ge, wp_eqI, wp_neI, wp_eqS, wp_neS, SX.S_len, S_cps, wp_ixT, wp_ixL, wp_ixN, wp_ixS, atI_0, atI_1, atI_2, wp_lenL, wp_lenT, wp_lenN, wp_lenS, wp_tupL, wp_tupT, wp_lstL, wp_lstT, wp_intI, wp_intB, wpT_name, wpT_tup, wpT_cons, wpT_nil, ownL, List.getElem?_cons_zero, List.getElem?_cons_succ, List.set_cons_zero, List.set_cons_succ, List.length_cons, List.length_nil, List.map_cons, List.map_nil, plainL, wipeD, reduceCtorEq, if_true, if_false, decide_true, decide_false, decide_eq_true_eq, Bool.and_true, Bool.true_and, Bool.not_true, Bool.not_false, Bool.not_eq_true', decide_eq_false_iff_not, Bool.false_eq_true, not_true_eq_false, not_false_eq_true, ne_eq, eq_self, and_self, and_true, true_and, D.imm, immL, kidsImm, Option.some.injEq, exists_eq_left', Nat.zero_add, Nat.reduceAdd, Nat.reduceLeDiff, Nat.reduceLT, Int.reduceLT, Int.reduceLE, Int.reduceNeg, Int.reducePow, Int.reduceAdd, Int.reduceMul, Int.reduceSub, Int.reduceToNat, Int.reduceEq, D.int.injEq, D.bl.injEq, Bool.false_eq, Bool.not_eq_eq_eq_not, true_or, or_true, false_or, or_false, Bool.and_false, Bool.false_and, wp_isT, whole_eq, rests_eq, List.length_map]
  refine wp_for (fun n Γ => ∃ z2 z3 : Slot, Γ = [.sh (rowE p ws as), .sh (rowE p ws as), z2, z3]) ?_
  simp only [rowE, FinK_nx, FinK_ret, FinK_exc, Nxt_nx, Nxt_ret, Nxt_brk, Nxt_cnt, Nxt_exc, wpE_ok, wpE_exc, wpE_bad, wpL_ok, wpI_ok, wpO_ok, wpF_ok, wpF_exc, wpS_nx, wpS_ret, wpS_brk, wpS_cnt, wpS_exc, wpS_bad, wpB_bl, wp_v0sh, wp_v0ow, wp_v1sh, wp_v1ow, wp_v2sh, wp_v2ow, wp_v3sh, wp_v3ow, wp_v4sh, wp_v4ow, wp_v5sh, wp_v5ow, wp_v6sh, wp_v6ow, wp_v7sh, wp_v7ow, wp_v8sh, wp_v8ow, wp_v9sh, wp_v9ow, wp_v10sh, wp_v10ow, wp_v11sh, wp_v11ow, wp_v12sh, wp_v12ow, wp_v13sh, wp_v13ow, wp_v14sh, wp_v14ow, wp_v15sh, wp_v15ow, wp_v16sh, wp_v16ow, wp_v17sh, wp_v17ow, wp_v18sh, wp_v18ow, wp_v19sh, wp_v19ow, wp_v20sh, wp_v20ow, wp_v21sh, wp_v21ow, wp_v22sh, wp_v22ow, wp_v23sh, wp_v23ow, wp_v24sh, wp_v24ow, wp_v25sh, wp_v25ow, wp_c, wp_op2, wp_op1, wp_and, wp_or, wp_not, wp_if, wp_chain, wp_nil, wp_cons, wp_tup, wp_lst, wp_callB, wp_call1, wp_call2, wp_callD, wp_sl, wp_noPart, wpInt_int, wp_part, wpStr_str, wp_m1, wp_seq, wp_next, wp_brk, wp_cnt, wp_never, wp_asg, wp_asgO, wp_drop, wp_ret, wp_ifS, wp_asgT, wp_app, wp_clear, wp_clrFor, wp_thru, wp_iter, wp_rng1, wp_rng2, wp_enum, wp_zip, one1_1, one2_2, wp_rng1V, wp_rng2V, wp_enumV, wp_zipT, wp_zipLL, wp_add, wp_sub, wp_mul, wp_fdiv, wp_mod, wp_pow, wp_lt, wp_le, wp_gt, wp_ge, wp_eqI, wp_neI, wp_eqS, wp_neS, SX.S_len, S_cps, wp_ixT, wp_ixL, wp_ixN, wp_ixS, atI_0, atI_1, atI_2, wp_lenL, wp_lenT, wp_lenN, wp_lenS, wp_tupL, wp_tupT, wp_lstL, wp_lstT, wp_intI, wp_intB, wpT_name, wpT_tup, wpT_cons, wpT_nil, ownL, List.getElem?_cons_zero, List.getElem?_cons_succ, List.set_cons_zero, List.set_cons_succ, List.length_cons, List.length_nil, List.map_cons, List.map_nil, plainL, wipeD, reduceCtorEq, if_true, if_false, decide_true, decide_false, decide_eq_true_eq, Bool.and_true, Bool.true_and, Bool.not_true, Bool.not_false, Bool.not_eq_true', decide_eq_false_iff_not, Bool.false_eq_true, not_true_eq_false, not_false_eq_true, ne_eq, eq_self, and_self, and_true, true_and, D.imm, immL, kidsImm, Option.some.injEq, exists_eq_left', Nat.zero_add, Nat.reduceAdd, Nat.reduceLeDiff, Nat.reduceLT, Int.reduceLT, Int.reduceLE, Int.reduceNeg, Int.reducePow, Int.reduceAdd, Int.reduceMul, Int.reduceSub, Int.reduceToNat, Int.reduceEq, D.int.injEq, D.bl.injEq, Bool.false_eq, Bool.not_eq_eq_eq_not, true_or, or_true, false_or, or_false, Bool.and_false, Bool.false_and]
  refine ⟨⟨_, _, rfl⟩, ?_, ?_⟩
  · rintro n Γ d ⟨z2, z3, rfl⟩ hd
    unfold zipL at hd
    rw [List.getElem?_zipWith, List.getElem?_map] at hd
    cases ha : as[n]? with
    | none => rw [ha] at hd; cases hd
    | some a =>
      rw [ha] at hd
      cases hd
      have oa := ok.ar n a ha
      have hcw : IsWay a.c := hc _ (List.mem_of_getElem? oa.c)
      have hb : a.h ≤ 100 := by
        obtain ⟨u, v, hu, hv, h1, h2⟩ := oa.sz
        have hub := ok.wb u (List.mem_of_getElem? hu)
        have hvb := ok.wb v (List.mem_of_getElem? hv)
        by_cases e : a.c = 108
        · have := h1 e; omega
        · have := h2 e; omega
      simp only [arrE, FinK_nx, FinK_ret, FinK_exc, Nxt_nx, Nxt_ret, Nxt_brk, Nxt_cnt, Nxt_exc, wpE_ok, wpE_exc, wpE_bad, wpL_ok, wpI_ok, wpO_ok, wpF_ok, wpF_exc, wpS_nx, wpS_ret, wpS_brk, wpS_cnt, wpS_exc, wpS_bad, wpB_bl, wp_v0sh, wp_v0ow, wp_v1sh, wp_v1ow, wp_v2sh, wp_v2ow, wp_v3sh, wp_v3ow, wp_v4sh, wp_v4ow, wp_v5sh, wp_v5ow, wp_v6sh, wp_v6ow, wp_v7sh, wp_v7ow, wp_v8sh, wp_v8ow, wp_v9sh, wp_v9ow, wp_v10sh, wp_v10ow, wp_v11sh, wp_v11ow, wp_v12sh, wp_v12ow, wp_v13sh, wp_v13ow, wp_v14sh, wp_v14ow, wp_v15sh, wp_v15ow, wp_v16sh, wp_v16ow, wp_v17sh, wp_v17ow, wp_v18sh, wp_v18ow, wp_v19sh, wp_v19ow, wp_v20sh, wp_v20ow, wp_v21sh, wp_v21ow, wp_v22sh, wp_v22ow, wp_v23sh, wp_v23ow, wp_v24sh, wp_v24ow, wp_v25sh, wp_v25ow, wp_c, wp_op2, wp_op1, wp_and, wp_or, wp_not, wp_if, wp_chain, wp_nil, wp_cons, wp_tup, wp_lst, wp_callB, wp_call1, wp_call2, wp_callD, wp_sl, wp_noPart, wpInt_int, wp_part, wpStr_str, wp_m1, wp_seq, wp_next, wp_brk, wp_cnt, wp_never, wp_asg, wp_asgO, wp_drop, wp_ret, wp_ifS, wp_asgT, wp_app, wp_clear, wp_clrFor, wp_thru, wp_iter, wp_rng1, wp_rng2, wp_enum, wp_zip, one1_1, one2_2, wp_rng1V, wp_rng2V, wp_enumV, wp_zipT, wp_zipLL, wp_add, wp_sub, wp_mul, wp_fdiv, wp_mod, wp_pow, wp_lt, wp_le, wp_gt, wp_ge, wp_eqI, wp_neI, wp_eqS, wp_neS, SX.S_len, S_cps, wp_ixT, wp_ixL, wp_ixN, wp_ixS, atI_0, atI_1, atI_2, wp_lenL, wp_lenT, wp_lenN, wp_lenS, wp_tupL, wp_tupT, wp_lstL, wp_lstT, wp_intI, wp_intB, wpT_name, wpT_tup, wpT_cons, wpT_nil, ownL, List.getElem?_cons_zero, List.getElem?_cons_succ, List.set_cons_zero, List.set_cons_succ, List.length_cons, List.length_nil, List.map_cons, List.map_nil, plainL, wipeD, reduceCtorEq, if_true, if_false, decide_true, decide_false, decide_eq_true_eq, Bool.and_true, Bool.true_and, Bool.not_true, Bool.not_false, Bool.not_eq_true', decide_eq_false_iff_not, Bool.false_eq_true, not_true_eq_false, not_false_eq_true, ne_eq, eq_self, and_self, and_true, true_and, D.imm, immL, kidsImm, Option.some.injEq, exists_eq_left', Nat.zero_add, Nat.reduceAdd, Nat.reduceLeDiff, Nat.reduceLT, Int.reduceLT, Int.reduceLE, Int.reduceNeg, Int.reducePow, Int.reduceAdd, Int.reduceMul, Int.reduceSub, Int.reduceToNat, Int.reduceEq, D.int.injEq, D.bl.injEq, Bool.false_eq, Bool.not_eq_eq_eq_not, true_or, or_true, false_or, or_false, Bool.and_false, Bool.false_and, wp_isT, wp_isS, ok_way hcw, istable_eq _ _ _ oa.tab.hl hb]
      exact ⟨_, _, rfl⟩
  · rintro Γ ⟨z2, z3, rfl⟩
    simp only [FinK_nx, FinK_ret, FinK_exc, Nxt_nx, Nxt_ret, Nxt_brk, Nxt_cnt, Nxt_exc, wpE_ok, wpE_exc, wpE_bad, wpL_ok, wpI_ok, wpO_ok, wpF_ok, wpF_exc, wpS_nx, wpS_ret, wpS_brk, wpS_cnt, wpS_exc, wpS_bad, wpB_bl, wp_v0sh, wp_v0ow, wp_v1sh, wp_v1ow, wp_v2sh, wp_v2ow, wp_v3sh, wp_v3ow, wp_v4sh, wp_v4ow, wp_v5sh, wp_v5ow, wp_v6sh, wp_v6ow, wp_v7sh, wp_v7ow, wp_v8sh, wp_v8ow, wp_v9sh, wp_v9ow, wp_v10sh, wp_v10ow, wp_v11sh, wp_v11ow, wp_v12sh, wp_v12ow, wp_v13sh, wp_v13ow, wp_v14sh, wp_v14ow, wp_v15sh, wp_v15ow, wp_v16sh, wp_v16ow, wp_v17sh, wp_v17ow, wp_v18sh, wp_v18ow, wp_v19sh, wp_v19ow, wp_v20sh, wp_v20ow, wp_v21sh, wp_v21ow, wp_v22sh, wp_v22ow, wp_v23sh, wp_v23ow, wp_v24sh, wp_v24ow, wp_v25sh, wp_v25ow, wp_c, wp_op2, wp_op1, wp_and, wp_or, wp_not, wp_if, wp_chain, wp_nil, wp_cons, wp_tup, wp_lst, wp_callB, wp_call1, wp_call2, wp_callD, wp_sl, wp_noPart, wpInt_int, wp_part, wpStr_str, wp_m1, wp_seq, wp_next, wp_brk, wp_cnt, wp_never, wp_asg, wp_asgO, wp_drop, wp_ret, wp_ifS, wp_asgT, wp_app, wp_clear, wp_clrFor, wp_thru, wp_iter, wp_rng1, wp_rng2, wp_enum, wp_zip, one1_1, one2_2, wp_rng1V, wp_rng2V, wp_enumV, wp_zipT, wp_zipLL, wp_add, wp_sub, wp_mul, wp_fdiv, wp_mod, wp_pow, wp_lt, wp_le, wp_gt, wp_ge, wp_eqI, wp_neI, wp_eqS, wp_neS, SX.S_len, S_cps, wp_ixT, wp_ixL, wp_ixN, wp_ixS, atI_0, atI_1, atI_2, wp_lenL, wp_lenT, wp_lenN, wp_lenS, wp_tupL, wp_tupT, wp_lstL, wp_lstT, wp_intI, wp_intB, wpT_name, wpT_tup, wpT_cons, wpT_nil, ownL, List.getElem?_cons_zero, List.getElem?_cons_succ, List.set_cons_zero, List.set_cons_succ, List.length_cons, List.length_nil, List.map_cons, List.map_nil, plainL, wipeD, reduceCtorEq, if_true, if_false, decide_true, decide_false, decide_eq_true_eq, Bool.and_true, Bool.true_and, Bool.not_true, Bool.not_false, Bool.not_eq_true', decide_eq_false_iff_not, Bool.false_eq_true, not_true_eq_false, not_false_eq_true, ne_eq, eq_self, and_self, and_true, true_and, D.imm, immL, kidsImm, Option.some.injEq, exists_eq_left', Nat.zero_add, Nat.reduceAdd, Nat.reduceLeDiff, Nat.reduceLT, Int.reduceLT, Int.reduceLE, Int.reduceNeg, Int.reducePow, Int.reduceAdd, Int.reduceMul, Int.reduceSub, Int.reduceToNat, Int.reduceEq, D.int.injEq, D.bl.injEq, Bool.false_eq, Bool.not_eq_eq_eq_not, true_or, or_true, false_or, or_false, Bool.and_false, Bool.false_and]
theorem onekind_eq {p p' m m' : Int} {cs cs' : List Nat} (hc : ∀ c ∈ cs, IsWay c) (hc' : ∀ c ∈ cs', IsWay c) (hcl : cs.length ≤ 5) (hcl' : cs'.length ≤ 5) {ws ws' : List Int} {as as' : List Arr} (ok : RowOk p cs ws as m) (ok' : RowOk p' cs' ws' as' m') :
    den_one_kind [rowE p ws as, rowE p' ws' as'] = .ok false (.bl (decide (p = p') && decide (cs = cs'))) := by
  have hs : ∀ {cs : List Nat}, (∀ c ∈ cs, IsWay c) → PyData.strOk (S cs) = true := fun h => strOk_S fun c hc => by
    rcases h c hc with rfl | rfl <;> decide
  apply wpF_eq
  unfold den_one_kind
  rw [wpF_denOf (Γ := [.sh (rowE p ws as), .sh (rowE p' ws' as')]) rfl]
  have w1 := waysof_eq hcl ok
  have w2 := waysof_eq hcl' ok'
  unfold rowE at w1 w2
  simp only [bd_one_kind, rowE, FinK_nx, FinK_ret, FinK_exc, Nxt_nx, Nxt_ret, Nxt_brk, Nxt_cnt, Nxt_exc, wpE_ok, wpE_exc, wpE_bad, wpL_ok, wpI_ok, wpO_ok, wpF_ok, wpF_exc, wpS_nx, wpS_ret, wpS_brk, wpS_cnt, wpS_exc, wpS_bad, wpB_bl, wp_v0sh, wp_v0ow, wp_v1sh, wp_v1ow, wp_v2sh, wp_v2ow, wp_v3sh, wp_v3ow, wp_v4sh, wp_v4ow, wp_v5sh, wp_v5ow, wp_v6sh, wp_v6ow, wp_v7sh, wp_v7ow, wp_v8sh, wp_v8ow, wp_v9sh, wp_v9ow, wp_v10sh, wp_v10ow, wp_v11sh, wp_v11ow, wp_v12sh, wp_v12ow, wp_v13sh, wp_v13ow, wp_v14sh, wp_v14ow, wp_v15sh, wp_v15ow, wp_v16sh, wp_v16ow, wp_v17sh, wp_v17ow, wp_v18sh, wp_v18ow, wp_v19sh, wp_v19ow, wp_v20sh, wp_v20ow, wp_v21sh, wp_v21ow, wp_v22sh, wp_v22ow, wp_v23sh, wp_v23ow, wp_v24sh, wp_v24ow, wp_v25sh, wp_v25ow, wp_c, wp_op2, wp_op1, wp_and, wp_or, wp_not, wp_if, wp_chain, wp_nil, wp_cons, wp_tup, wp_lst, wp_callB, wp_call1, wp_call2, wp_callD, wp_sl, wp_noPart, wpInt_int, wp_part, wpStr_str, wp_m1, wp_seq, wp_next, wp_brk, wp_cnt, wp_never, wp_asg, wp_asgO, wp_drop, wp_ret, wp_ifS, wp_asgT, wp_app, wp_clear, wp_clrFor, wp_thru, wp_iter, wp_rng1, wp_rng2, wp_enum, wp_zip, one1_1, one2_2, wp_rng1V, wp_rng2V, wp_enumV, wp_zipT, wp_zipLL, wp_add, wp_sub, wp_mul, wp_fdiv, wp_mod, wp_pow, wp_lt, wp_le, wp_gt, wp_ge, wp_eqI, wp_neI, wp_eqS, wp_neS, SX.S_len, S_cps, wp_ixT, wp_ixL, wp_ixN, wp_ixS, atI_0, atI_1, atI_2, wp_lenL, wp_lenT, wp_lenN, wp_lenS, wp_tupL, wp_tupT, wp_lstL, wp_lstT, wp_intI, wp_intB, wpT_name, wpT_tup, wpT_cons, wpT_nil, ownL, List.getElem?_cons_zero, List.getElem?_cons_succ, List.set_cons_zero, List.set_cons_succ, List.length_cons, List.length_nil, List.map_cons, List.map_nil, plainL, wipeD, reduceCtorEq, if_true, if_false, decide_true, decide_false, decide_eq_true_eq, Bool.and_true, Bool.true_and, Bool.not_true, Bool.not_false, Bool.not_eq_true', decide_eq_false_iff_not, Bool.false_eq_true, not_true_eq_false, not_false_eq_true, ne_eq, eq_self, and_self, and_true, true_and, D.imm, immL, kidsImm, Option.some.injEq, exists_eq_left', Nat.zero_add, Nat.reduceAdd, Nat.reduceLeDiff, Nat.reduceLT, Int.reduceLT, Int.reduceLE, Int.reduceNeg, Int.reducePow, Int.reduceAdd, Int.reduceMul, Int.reduceSub, Int.reduceToNat, Int.reduceEq, D.int.injEq, D.bl.injEq, Bool.false_eq, Bool.not_eq_eq_eq_not, true_or, or_true, false_or, or_false, Bool.and_false, Bool.false_and, w1, w2, hs hc, hs hc']
  have e : (S cs = S cs') = (cs = cs') := propext ⟨SX.S_inj, fun h => by rw [h]⟩
  simp only [e]
  split
  · rename_i h; simp only [h, decide_true, Bool.true_and]
  · rename_i h; simp only [h, decide_false, Bool.false_and]
theorem truth_eq (a b : Bool) : den_law_truth [.bl a, .bl b] = .ok false (.bl (a == b)) := by
  apply wpF_eq
  unfold den_law_truth
  rw [wpF_denOf (Γ := [.sh (.bl a), .sh (.bl b)]) rfl]
  simp only [bd_law_truth, FinK_nx, FinK_ret, FinK_exc, Nxt_nx, Nxt_ret, Nxt_brk, Nxt_cnt, Nxt_exc, wpE_ok, wpE_exc, wpE_bad, wpL_ok, wpI_ok, wpO_ok, wpF_ok, wpF_exc, wpS_nx, wpS_ret, wpS_brk, wpS_cnt, wpS_exc, wpS_bad, wpB_bl, wp_v0sh, wp_v0ow, wp_v1sh, wp_v1ow, wp_v2sh, wp_v2ow, wp_v3sh, wp_v3ow, wp_v4sh, wp_v4ow, wp_v5sh, wp_v5ow, wp_v6sh, wp_v6ow, wp_v7sh, wp_v7ow, wp_v8sh, wp_v8ow, wp_v9sh, wp_v9ow, wp_v10sh, wp_v10ow, wp_v11sh, wp_v11ow, wp_v12sh, wp_v12ow, wp_v13sh, wp_v13ow, wp_v14sh, wp_v14ow, wp_v15sh, wp_v15ow, wp_v16sh, wp_v16ow, wp_v17sh, wp_v17ow, wp_v18sh, wp_v18ow, wp_v19sh, wp_v19ow, wp_v20sh, wp_v20ow, wp_v21sh, wp_v21ow, wp_v22sh, wp_v22ow, wp_v23sh, wp_v23ow, wp_v24sh, wp_v24ow, wp_v25sh, wp_v25ow, wp_c, wp_op2, wp_op1, wp_and, wp_or, wp_not, wp_if, wp_chain, wp_nil, wp_cons, wp_tup, wp_lst, wp_callB, wp_call1, wp_call2, wp_callD, wp_sl, wp_noPart, wpInt_int, wp_part, wpStr_str, wp_m1, wp_seq, wp_next, wp_brk, wp_cnt, wp_never, wp_asg, wp_asgO, wp_drop, wp_ret, wp_ifS, wp_asgT, wp_app, wp_clear, wp_clrFor, wp_thru, wp_iter, wp_rng1, wp_rng2, wp_enum, wp_zip, one1_1, one2_2, wp_rng1V, wp_rng2V, wp_enumV, wp_zipT, wp_zipLL, wp_add, wp_sub, wp_mul, wp_fdiv, wp_mod, wp_pow, wp_lt, wp_le, wp_gt, wp_ge, wp_eqI, wp_neI, wp_eqS, wp_neS, SX.S_len, S_cps, wp_ixT, wp_ixL, wp_ixN, wp_ixS, atI_0, atI_1, atI_2, wp_lenL, wp_lenT, wp_lenN, wp_lenS, wp_tupL, wp_tupT, wp_lstL, wp_lstT, wp_intI, wp_intB, wpT_name, wpT_tup, wpT_cons, wpT_nil, ownL, List.getElem?_cons_zero, List.getElem?_cons_succ, List.set_cons_zero, List.set_cons_succ, List.length_cons, List.length_nil, List.map_cons, List.map_nil, plainL, wipeD, reduceCtorEq, if_true, if_false, decide_true, decide_false, decide_eq_true_eq, Bool.and_true, Bool.true_and, Bool.not_true, Bool.not_false, Bool.not_eq_true', decide_eq_false_iff_not, Bool.false_eq_true, not_true_eq_false, not_false_eq_true, ne_eq, eq_self, and_self, and_true, true_and, D.imm, immL, kidsImm, Option.some.injEq, exists_eq_left', Nat.zero_add, Nat.reduceAdd, Nat.reduceLeDiff, Nat.reduceLT, Int.reduceLT, Int.reduceLE, Int.reduceNeg, Int.reducePow, Int.reduceAdd, Int.reduceMul, Int.reduceSub, Int.reduceToNat, Int.reduceEq, D.int.injEq, D.bl.injEq, Bool.false_eq, Bool.not_eq_eq_eq_not, true_or, or_true, false_or, or_false, Bool.and_false, Bool.false_and, wp_isB, wp_eq, D.pk, D.py, PyData.eqv]
end My
end

noncomputable section
namespace My
open PySem L2 VL
open SX (S)
theorem wp_pri {Q : Rt → D → Prop} {X : Exn → Prop} {x : Int} (h : 0 ≤ x) : (∀ p, IsP p → Q .shr (.int p)) → wpE (ixD (.lst [.int 2, .int 3, .int 5, .int 7]) (.int (x % 4))) Q X := fun k => by
  rcases (by omega : x % 4 = 0 ∨ x % 4 = 1 ∨ x % 4 = 2 ∨ x % 4 = 3) with e | e | e | e <;> rw [e]
  · exact k 2 (.inl rfl)
  · exact k 3 (.inr (.inl rfl))
  · exact k 5 (.inr (.inr (.inl rfl)))
  · exact k 7 (.inr (.inr (.inr rfl)))
theorem wp_row0 {Q : Rt → D → Prop} {X : Exn → Prop} (p : Int) (ws : List Int) (as : List Arr) : wpE (ixD (rowE p ws as) (.int 0)) Q X = Q .shr (.int p) := by
  unfold rowE
  simp only [wp_ixT, atI_0, Option.some.injEq, exists_eq_left']
theorem wp_row1 {Q : Rt → D → Prop} {X : Exn → Prop} (p : Int) (ws : List Int) (as : List Arr) : wpE (ixD (rowE p ws as) (.int 1)) Q X = Q .shr (.tup (ws.map .int)) := by
  unfold rowE
  simp only [wp_ixT, atI_1, Option.some.injEq, exists_eq_left']
theorem wp_row2 {Q : Rt → D → Prop} {X : Exn → Prop} (p : Int) (ws : List Int) (as : List Arr) : wpE (ixD (rowE p ws as) (.int 2)) Q X = Q .shr (.tup (as.map arrE)) := by
  unfold rowE
  simp only [wp_ixT, atI_2, Option.some.injEq, exists_eq_left']
theorem imm_ints (ws : List Int) : immL (ws.map D.int) = true := immL_of fun d hd => by
  obtain ⟨x, _, rfl⟩ := List.mem_map.mp hd
  rfl
theorem imm_row (p : Int) (ws : List Int) (as : List Arr) : (rowE p ws as).imm = true := by
  simp only [rowE, D.imm, immL, imm_ints, Bool.true_and, Bool.and_true]
  refine immL_of fun d hd => ?_
  obtain ⟨a, _, rfl⟩ := List.mem_map.mp hd
  simp only [arrE, tabE, D.imm, immL, Bool.true_and, Bool.and_true]
  refine immL_of fun d hd => ?_
  obtain ⟨r, _, rfl⟩ := List.mem_map.mp hd
  simp only [rowT, D.imm, imm_ints]
theorem pois_t {d : D} (h : d.imm = true) : pois (.sh d) = .sh d := by
  show (if d.imm = true then Slot.sh d else .no) = _
  rw [if_pos h]
theorem pois_f {d : D} (h : d.imm = false) : pois (.sh d) = .no := by
  show (if d.imm = true then Slot.sh d else .no) = _
  rw [if_neg (by rw [h]; decide)]
theorem pois_o {d : D} (h : kidsImm d = true) : pois (.ow d) = .ow d := by
  show (if kidsImm d = true then Slot.ow d else .no) = _
  rw [if_pos h]
theorem pois_n : pois .no = .no := rfl
theorem way_ok {cs : List Nat} (h : ∀ c ∈ cs, IsWay c) : PyData.strOk (S cs) = true := strOk_S fun c hc => by
  rcases h c hc with rfl | rfl <;> decide
theorem law_tail {ns : List Int} (hn : ns.length ≤ 63) {p : Int} (hp : IsP p) {cs cs3 : List Nat} (hcl : cs.length ≤ 5) (hc : ∀ c ∈ cs, IsWay c) (hcl3 : cs3.length ≤ 5) (hc3 : ∀ c ∈ cs3, IsWay c) {ws : List Int} {as : List Arr} (ok : RowOk p cs ws as 5) (op : VL.Slot) :
    wpS ((seqD (asgD 11 (callD 5 den_law_row (consD (varD 0) (consD (cD (.int 60)) (consD (op2D ixD (lstD (consD (cD (.int 2)) (consD (cD (.int 3)) (consD (cD (.int 5)) (consD (cD (.int 7)) nilD))))) (op2D modD (callD 2 den_law_mix (consD (varD 0) (consD (cD (.int 58)) nilD))) (cD (.int 4)))) (consD (varD 10) (consD (cD (.int 3)) nilD)))))))
      (seqD (asgD 12 (callD 5 den_law_row (consD (varD 0) (consD (cD (.int 60)) (consD (varD 1) (consD (varD 2) (consD (cD (.int 4)) nilD)))))))
      (seqD (asgD 13 (andD (op2D eqD (varD 1) (op2D ixD (varD 11) (cD (.int 0)))) (op2D eqD (varD 2) (m1D joinD (cD (.str "")) (lcD [8, 15] (iterD (op2D ixD (varD 11) (cD (.int 2)))) (tsTup 2 (tsCons (tName 8) (tsCons (tName 15) tsNil))) (cD (.bl true)) (varD 8))))))
      (retD (andD (callD 2 den_law_truth (consD (callD 2 den_one_kind (consD (varD 3) (consD (varD 11) nilD))) (consD (varD 13) nilD))) (callD 2 den_law_truth (consD (callD 2 den_one_kind (consD (varD 3) (consD (varD 12) nilD))) (consD (cD (.bl true)) nilD)))))))) [.sh (.scr ns), .sh (.int p), .sh (.str (S cs)), .sh (rowE p ws as), op, .no, .ow (.lst []), .sh (rowE p ws as), .no, .no, .sh (.str (S cs3)), .no, .no, .no, .no, .no]) (FinK (fun _ d => d = .bl true) fun _ => False) := by
  have mx : ∀ k : Int, 0 ≤ k → k ≤ 1000 → den_law_mix [.scr ns, .int k] = .ok false (.int (mixV ns k)) := fun k => mix_eq hn
  have hpp := hp.pos
  rw [wp_seq]
  simp only [FinK_nx, FinK_ret, FinK_exc, Nxt_nx, Nxt_ret, Nxt_brk, Nxt_cnt, Nxt_exc, wpE_ok, wpE_exc, wpE_bad, wpL_ok, wpI_ok, wpO_ok, wpF_ok, wpF_exc, wpS_nx, wpS_ret, wpS_brk, wpS_cnt, wpS_exc, wpS_bad, wpB_bl, wp_v0sh, wp_v0ow, wp_v1sh, wp_v1ow, wp_v2sh, wp_v2ow, wp_v3sh, wp_v3ow, wp_v4sh, wp_v4ow, wp_v5sh, wp_v5ow, wp_v6sh, wp_v6ow, wp_v7sh, wp_v7ow, wp_v8sh, wp_v8ow, wp_v9sh, wp_v9ow, wp_v10sh, wp_v10ow, wp_v11sh, wp_v11ow, wp_v12sh, wp_v12ow, wp_v13sh, wp_v13ow, wp_v14sh, wp_v14ow, wp_v15sh, wp_v15ow, wp_v16sh, wp_v16ow, wp_v17sh, wp_v17ow, wp_v18sh, wp_v18ow, wp_v19sh, wp_v19ow, wp_v20sh, wp_v20ow, wp_v21sh, wp_v21ow, wp_v22sh, wp_v22ow, wp_v23sh, wp_v23ow, wp_v24sh, wp_v24ow, wp_v25sh, wp_v25ow, wp_c, wp_op2, wp_op1, wp_and, wp_or, wp_not, wp_if, wp_chain, wp_nil, wp_cons, wp_tup, wp_lst, wp_callB, wp_call1, wp_call2, wp_callD, wp_sl, wp_noPart, wpInt_int, wp_part, wpStr_str, wp_m1, wp_next, wp_brk, wp_cnt, wp_never, wp_asg, wp_asgO, wp_drop, wp_ret, wp_ifS, wp_asgT, wp_app, wp_clear, wp_clrFor, wp_thru, wp_iter, wp_rng1, wp_rng2, wp_enum, wp_zip, one1_1, one2_2, wp_rng1V, wp_rng2V, wp_enumV, wp_zipT, wp_zipLL, wp_add, wp_sub, wp_mul, wp_fdiv, wp_mod, wp_pow, wp_lt, wp_le, wp_gt, wp_ge, wp_eqI, wp_neI, wp_eqS, wp_neS, SX.S_len, S_cps, wp_ixT, atI_0, atI_1, atI_2, wp_lenL, wp_lenT, wp_lenN, wp_lenS, wp_tupL, wp_tupT, wp_lstL, wp_lstT, wp_intI, wp_intB, wpT_name, wpT_tup, wpT_cons, wpT_nil, ownL, List.getElem?_cons_zero, List.getElem?_cons_succ, List.set_cons_zero, List.set_cons_succ, List.length_cons, List.length_nil, List.map_cons, List.map_nil, plainL, wipeD, reduceCtorEq, if_true, if_false, decide_true, decide_false, decide_eq_true_eq, Bool.and_true, Bool.true_and, Bool.not_true, Bool.not_false, Bool.not_eq_true', decide_eq_false_iff_not, Bool.false_eq_true, not_true_eq_false, not_false_eq_true, ne_eq, eq_self, and_self, and_true, true_and, D.imm, immL, kidsImm, Option.some.injEq, exists_eq_left', Nat.zero_add, Nat.reduceAdd, Nat.reduceLeDiff, Nat.reduceLT, Int.reduceLT, Int.reduceLE, Int.reduceNeg, Int.reducePow, Int.reduceAdd, Int.reduceMul, Int.reduceSub, Int.reduceToNat, Int.reduceEq, D.int.injEq, D.bl.injEq, Bool.false_eq, Bool.not_eq_eq_eq_not, true_or, or_true, false_or, or_false, Bool.and_false, Bool.false_and, mx 58 (by decide) (by decide)]
  refine wp_pri (mix_nn hn (by decide) (by decide)) fun p3 hp3 => ?_
  obtain ⟨ws3, as3, ok3, e3⟩ := row_ex hn (at_ := 60) (p := p3) (most := 3) hc3 hcl3 (by decide) (by decide) hp3.pos.1 hp3.pos.2 (by decide) (by decide)
  obtain ⟨ws4, as4, ok4, e4⟩ := row_ex hn (at_ := 60) (p := p) (most := 4) hc hcl (by decide) (by decide) hpp.1 hpp.2 (by decide) (by decide)
  simp only [FinK_nx, FinK_ret, FinK_exc, Nxt_nx, Nxt_ret, Nxt_brk, Nxt_cnt, Nxt_exc, wpE_ok, wpE_exc, wpE_bad, wpL_ok, wpI_ok, wpO_ok, wpF_ok, wpF_exc, wpS_nx, wpS_ret, wpS_brk, wpS_cnt, wpS_exc, wpS_bad, wpB_bl, wp_v0sh, wp_v0ow, wp_v1sh, wp_v1ow, wp_v2sh, wp_v2ow, wp_v3sh, wp_v3ow, wp_v4sh, wp_v4ow, wp_v5sh, wp_v5ow, wp_v6sh, wp_v6ow, wp_v7sh, wp_v7ow, wp_v8sh, wp_v8ow, wp_v9sh, wp_v9ow, wp_v10sh, wp_v10ow, wp_v11sh, wp_v11ow, wp_v12sh, wp_v12ow, wp_v13sh, wp_v13ow, wp_v14sh, wp_v14ow, wp_v15sh, wp_v15ow, wp_v16sh, wp_v16ow, wp_v17sh, wp_v17ow, wp_v18sh, wp_v18ow, wp_v19sh, wp_v19ow, wp_v20sh, wp_v20ow, wp_v21sh, wp_v21ow, wp_v22sh, wp_v22ow, wp_v23sh, wp_v23ow, wp_v24sh, wp_v24ow, wp_v25sh, wp_v25ow, wp_c, wp_op2, wp_op1, wp_and, wp_or, wp_not, wp_if, wp_chain, wp_nil, wp_cons, wp_tup, wp_lst, wp_callB, wp_call1, wp_call2, wp_callD, wp_sl, wp_noPart, wpInt_int, wp_part, wpStr_str, wp_m1, wp_next, wp_brk, wp_cnt, wp_never, wp_asg, wp_asgO, wp_drop, wp_ret, wp_ifS, wp_asgT, wp_app, wp_clear, wp_clrFor, wp_thru, wp_iter, wp_rng1, wp_rng2, wp_enum, wp_zip, one1_1, one2_2, wp_rng1V, wp_rng2V, wp_enumV, wp_zipT, wp_zipLL, wp_add, wp_sub, wp_mul, wp_fdiv, wp_mod, wp_pow, wp_lt, wp_le, wp_gt, wp_ge, wp_eqI, wp_neI, wp_eqS, wp_neS, SX.S_len, S_cps, wp_ixT, atI_0, atI_1, atI_2, wp_lenL, wp_lenT, wp_lenN, wp_lenS, wp_tupL, wp_tupT, wp_lstL, wp_lstT, wp_intI, wp_intB, wpT_name, wpT_tup, wpT_cons, wpT_nil, ownL, List.getElem?_cons_zero, List.getElem?_cons_succ, List.set_cons_zero, List.set_cons_succ, List.length_cons, List.length_nil, List.map_cons, List.map_nil, plainL, wipeD, reduceCtorEq, if_true, if_false, decide_true, decide_false, decide_eq_true_eq, Bool.and_true, Bool.true_and, Bool.not_true, Bool.not_false, Bool.not_eq_true', decide_eq_false_iff_not, Bool.false_eq_true, not_true_eq_false, not_false_eq_true, ne_eq, eq_self, and_self, and_true, true_and, D.imm, immL, kidsImm, Option.some.injEq, exists_eq_left', Nat.zero_add, Nat.reduceAdd, Nat.reduceLeDiff, Nat.reduceLT, Int.reduceLT, Int.reduceLE, Int.reduceNeg, Int.reducePow, Int.reduceAdd, Int.reduceMul, Int.reduceSub, Int.reduceToNat, Int.reduceEq, D.int.injEq, D.bl.injEq, Bool.false_eq, Bool.not_eq_eq_eq_not, true_or, or_true, false_or, or_false, Bool.and_false, Bool.false_and, e3, imm_row]
  rw [wp_seq]
  simp only [FinK_nx, FinK_ret, FinK_exc, Nxt_nx, Nxt_ret, Nxt_brk, Nxt_cnt, Nxt_exc, wpE_ok, wpE_exc, wpE_bad, wpL_ok, wpI_ok, wpO_ok, wpF_ok, wpF_exc, wpS_nx, wpS_ret, wpS_brk, wpS_cnt, wpS_exc, wpS_bad, wpB_bl, wp_v0sh, wp_v0ow, wp_v1sh, wp_v1ow, wp_v2sh, wp_v2ow, wp_v3sh, wp_v3ow, wp_v4sh, wp_v4ow, wp_v5sh, wp_v5ow, wp_v6sh, wp_v6ow, wp_v7sh, wp_v7ow, wp_v8sh, wp_v8ow, wp_v9sh, wp_v9ow, wp_v10sh, wp_v10ow, wp_v11sh, wp_v11ow, wp_v12sh, wp_v12ow, wp_v13sh, wp_v13ow, wp_v14sh, wp_v14ow, wp_v15sh, wp_v15ow, wp_v16sh, wp_v16ow, wp_v17sh, wp_v17ow, wp_v18sh, wp_v18ow, wp_v19sh, wp_v19ow, wp_v20sh, wp_v20ow, wp_v21sh, wp_v21ow, wp_v22sh, wp_v22ow, wp_v23sh, wp_v23ow, wp_v24sh, wp_v24ow, wp_v25sh, wp_v25ow, wp_c, wp_op2, wp_op1, wp_and, wp_or, wp_not, wp_if, wp_chain, wp_nil, wp_cons, wp_tup, wp_lst, wp_callB, wp_call1, wp_call2, wp_callD, wp_sl, wp_noPart, wpInt_int, wp_part, wpStr_str, wp_m1, wp_next, wp_brk, wp_cnt, wp_never, wp_asg, wp_asgO, wp_drop, wp_ret, wp_ifS, wp_asgT, wp_app, wp_clear, wp_clrFor, wp_thru, wp_iter, wp_rng1, wp_rng2, wp_enum, wp_zip, one1_1, one2_2, wp_rng1V, wp_rng2V, wp_enumV, wp_zipT, wp_zipLL, wp_add, wp_sub, wp_mul, wp_fdiv, wp_mod, wp_pow, wp_lt, wp_le, wp_gt, wp_ge, wp_eqI, wp_neI, wp_eqS, wp_neS, SX.S_len, S_cps, wp_ixT, atI_0, atI_1, atI_2, wp_lenL, wp_lenT, wp_lenN, wp_lenS, wp_tupL, wp_tupT, wp_lstL, wp_lstT, wp_intI, wp_intB, wpT_name, wpT_tup, wpT_cons, wpT_nil, ownL, List.getElem?_cons_zero, List.getElem?_cons_succ, List.set_cons_zero, List.set_cons_succ, List.length_cons, List.length_nil, List.map_cons, List.map_nil, plainL, wipeD, reduceCtorEq, if_true, if_false, decide_true, decide_false, decide_eq_true_eq, Bool.and_true, Bool.true_and, Bool.not_true, Bool.not_false, Bool.not_eq_true', decide_eq_false_iff_not, Bool.false_eq_true, not_true_eq_false, not_false_eq_true, ne_eq, eq_self, and_self, and_true, true_and, D.imm, immL, kidsImm, Option.some.injEq, exists_eq_left', Nat.zero_add, Nat.reduceAdd, Nat.reduceLeDiff, Nat.reduceLT, Int.reduceLT, Int.reduceLE, Int.reduceNeg, Int.reducePow, Int.reduceAdd, Int.reduceMul, Int.reduceSub, Int.reduceToNat, Int.reduceEq, D.int.injEq, D.bl.injEq, Bool.false_eq, Bool.not_eq_eq_eq_not, true_or, or_true, false_or, or_false, Bool.and_false, Bool.false_and, e4, imm_row]
  rw [wp_seq]
  simp only [FinK_nx, FinK_ret, FinK_exc, Nxt_nx, Nxt_ret, Nxt_brk, Nxt_cnt, Nxt_exc, wpE_ok, wpE_exc, wpE_bad, wpL_ok, wpI_ok, wpO_ok, wpF_ok, wpF_exc, wpS_nx, wpS_ret, wpS_brk, wpS_cnt, wpS_exc, wpS_bad, wpB_bl, wp_v0sh, wp_v0ow, wp_v1sh, wp_v1ow, wp_v2sh, wp_v2ow, wp_v3sh, wp_v3ow, wp_v4sh, wp_v4ow, wp_v5sh, wp_v5ow, wp_v6sh, wp_v6ow, wp_v7sh, wp_v7ow, wp_v8sh, wp_v8ow, wp_v9sh, wp_v9ow, wp_v10sh, wp_v10ow, wp_v11sh, wp_v11ow, wp_v12sh, wp_v12ow, wp_v13sh, wp_v13ow, wp_v14sh, wp_v14ow, wp_v15sh, wp_v15ow, wp_v16sh, wp_v16ow, wp_v17sh, wp_v17ow, wp_v18sh, wp_v18ow, wp_v19sh, wp_v19ow, wp_v20sh, wp_v20ow, wp_v21sh, wp_v21ow, wp_v22sh, wp_v22ow, wp_v23sh, wp_v23ow, wp_v24sh, wp_v24ow, wp_v25sh, wp_v25ow, wp_c, wp_op2, wp_op1, wp_and, wp_or, wp_not, wp_if, wp_chain, wp_nil, wp_cons, wp_tup, wp_lst, wp_callB, wp_call1, wp_call2, wp_callD, wp_sl, wp_noPart, wpInt_int, wp_part, wpStr_str, wp_m1, wp_next, wp_brk, wp_cnt, wp_never, wp_asg, wp_asgO, wp_drop, wp_ret, wp_ifS, wp_asgT, wp_app, wp_clear, wp_clrFor, wp_thru, wp_iter, wp_rng1, wp_rng2, wp_enum, wp_zip, one1_1, one2_2, wp_rng1V, wp_rng2V, wp_enumV, wp_zipT, wp_zipLL, wp_add, wp_sub, wp_mul, wp_fdiv, wp_mod, wp_pow, wp_lt, wp_le, wp_gt, wp_ge, wp_eqI, wp_neI, wp_eqS, wp_neS, SX.S_len, S_cps, wp_ixT, atI_0, atI_1, atI_2, wp_lenL, wp_lenT, wp_lenN, wp_lenS, wp_tupL, wp_tupT, wp_lstL, wp_lstT, wp_intI, wp_intB, wpT_name, wpT_tup, wpT_cons, wpT_nil, ownL, List.getElem?_cons_zero, List.getElem?_cons_succ, List.set_cons_zero, List.set_cons_succ, List.length_cons, List.length_nil, List.map_cons, List.map_nil, plainL, wipeD, reduceCtorEq, if_true, if_false, decide_true, decide_false, decide_eq_true_eq, Bool.and_true, Bool.true_and, Bool.not_true, Bool.not_false, Bool.not_eq_true', decide_eq_false_iff_not, Bool.false_eq_true, not_true_eq_false, not_false_eq_true, ne_eq, eq_self, and_self, and_true, true_and, D.imm, immL, kidsImm, Option.some.injEq, exists_eq_left', Nat.zero_add, Nat.reduceAdd, Nat.reduceLeDiff, Nat.reduceLT, Int.reduceLT, Int.reduceLE, Int.reduceNeg, Int.reducePow, Int.reduceAdd, Int.reduceMul, Int.reduceSub, Int.reduceToNat, Int.reduceEq, D.int.injEq, D.bl.injEq, Bool.false_eq, Bool.not_eq_eq_eq_not, true_or, or_true, false_or, or_false, Bool.and_false, Bool.false_and, wp_row0]
  have k3 := onekind_eq hc hc3 hcl hcl3 ok ok3
  have k4 := onekind_eq hc hc hcl hcl ok ok4
  have eS : ∀ a b : List Nat, (S a = S b) = (a = b) := fun a b => propext ⟨SX.S_inj, fun h => by rw [h]⟩
  split
  · rename_i hpe
    subst hpe
    rw [lit_nil]
    refine wp_lcMap fstD ?_
    simp only [wp_row2, FinK_nx, FinK_ret, FinK_exc, Nxt_nx, Nxt_ret, Nxt_brk, Nxt_cnt, Nxt_exc, wpE_ok, wpE_exc, wpE_bad, wpL_ok, wpI_ok, wpO_ok, wpF_ok, wpF_exc, wpS_nx, wpS_ret, wpS_brk, wpS_cnt, wpS_exc, wpS_bad, wpB_bl, wp_v0sh, wp_v0ow, wp_v1sh, wp_v1ow, wp_v2sh, wp_v2ow, wp_v3sh, wp_v3ow, wp_v4sh, wp_v4ow, wp_v5sh, wp_v5ow, wp_v6sh, wp_v6ow, wp_v7sh, wp_v7ow, wp_v8sh, wp_v8ow, wp_v9sh, wp_v9ow, wp_v10sh, wp_v10ow, wp_v11sh, wp_v11ow, wp_v12sh, wp_v12ow, wp_v13sh, wp_v13ow, wp_v14sh, wp_v14ow, wp_v15sh, wp_v15ow, wp_v16sh, wp_v16ow, wp_v17sh, wp_v17ow, wp_v18sh, wp_v18ow, wp_v19sh, wp_v19ow, wp_v20sh, wp_v20ow, wp_v21sh, wp_v21ow, wp_v22sh, wp_v22ow, wp_v23sh, wp_v23ow, wp_v24sh, wp_v24ow, wp_v25sh, wp_v25ow, wp_c, wp_op2, wp_op1, wp_and, wp_or, wp_not, wp_if, wp_chain, wp_nil, wp_cons, wp_tup, wp_lst, wp_callB, wp_call1, wp_call2, wp_callD, wp_sl, wp_noPart, wpInt_int, wp_part, wpStr_str, wp_m1, wp_next, wp_brk, wp_cnt, wp_never, wp_asg, wp_asgO, wp_drop, wp_ret, wp_ifS, wp_asgT, wp_app, wp_clear, wp_clrFor, wp_thru, wp_iter, wp_rng1, wp_rng2, wp_enum, wp_zip, one1_1, one2_2, wp_rng1V, wp_rng2V, wp_enumV, wp_zipT, wp_zipLL, wp_add, wp_sub, wp_mul, wp_fdiv, wp_mod, wp_pow, wp_lt, wp_le, wp_gt, wp_ge, wp_eqI, wp_neI, wp_eqS, wp_neS, SX.S_len, S_cps, wp_ixT, atI_0, atI_1, atI_2, wp_lenL, wp_lenT, wp_lenN, wp_lenS, wp_tupL, wp_tupT, wp_lstL, wp_lstT, wp_intI, wp_intB, wpT_name, wpT_tup, wpT_cons, wpT_nil, ownL, List.getElem?_cons_zero, List.getElem?_cons_succ, List.set_cons_zero, List.set_cons_succ, List.length_cons, List.length_nil, List.map_cons, List.map_nil, plainL, wipeD, reduceCtorEq, if_true, if_false, decide_true, decide_false, decide_eq_true_eq, Bool.and_true, Bool.true_and, Bool.not_true, Bool.not_false, Bool.not_eq_true', decide_eq_false_iff_not, Bool.false_eq_true, not_true_eq_false, not_false_eq_true, ne_eq, eq_self, and_self, and_true, true_and, D.imm, immL, kidsImm, Option.some.injEq, exists_eq_left', Nat.zero_add, Nat.reduceAdd, Nat.reduceLeDiff, Nat.reduceLT, Int.reduceLT, Int.reduceLE, Int.reduceNeg, Int.reducePow, Int.reduceAdd, Int.reduceMul, Int.reduceSub, Int.reduceToNat, Int.reduceEq, D.int.injEq, D.bl.injEq, Bool.false_eq, Bool.not_eq_eq_eq_not, true_or, or_true, false_or, or_false, Bool.and_false, Bool.false_and]
    refine ⟨fun d hd => ?_, ?_⟩
    · obtain ⟨a, ha, rfl⟩ := List.mem_map.mp hd
      simp only [arrE, fstD, FinK_nx, FinK_ret, FinK_exc, Nxt_nx, Nxt_ret, Nxt_brk, Nxt_cnt, Nxt_exc, wpE_ok, wpE_exc, wpE_bad, wpL_ok, wpI_ok, wpO_ok, wpF_ok, wpF_exc, wpS_nx, wpS_ret, wpS_brk, wpS_cnt, wpS_exc, wpS_bad, wpB_bl, wp_v0sh, wp_v0ow, wp_v1sh, wp_v1ow, wp_v2sh, wp_v2ow, wp_v3sh, wp_v3ow, wp_v4sh, wp_v4ow, wp_v5sh, wp_v5ow, wp_v6sh, wp_v6ow, wp_v7sh, wp_v7ow, wp_v8sh, wp_v8ow, wp_v9sh, wp_v9ow, wp_v10sh, wp_v10ow, wp_v11sh, wp_v11ow, wp_v12sh, wp_v12ow, wp_v13sh, wp_v13ow, wp_v14sh, wp_v14ow, wp_v15sh, wp_v15ow, wp_v16sh, wp_v16ow, wp_v17sh, wp_v17ow, wp_v18sh, wp_v18ow, wp_v19sh, wp_v19ow, wp_v20sh, wp_v20ow, wp_v21sh, wp_v21ow, wp_v22sh, wp_v22ow, wp_v23sh, wp_v23ow, wp_v24sh, wp_v24ow, wp_v25sh, wp_v25ow, wp_c, wp_op2, wp_op1, wp_and, wp_or, wp_not, wp_if, wp_chain, wp_nil, wp_cons, wp_tup, wp_lst, wp_callB, wp_call1, wp_call2, wp_callD, wp_sl, wp_noPart, wpInt_int, wp_part, wpStr_str, wp_m1, wp_next, wp_brk, wp_cnt, wp_never, wp_asg, wp_asgO, wp_drop, wp_ret, wp_ifS, wp_asgT, wp_app, wp_clear, wp_clrFor, wp_thru, wp_iter, wp_rng1, wp_rng2, wp_enum, wp_zip, one1_1, one2_2, wp_rng1V, wp_rng2V, wp_enumV, wp_zipT, wp_zipLL, wp_add, wp_sub, wp_mul, wp_fdiv, wp_mod, wp_pow, wp_lt, wp_le, wp_gt, wp_ge, wp_eqI, wp_neI, wp_eqS, wp_neS, SX.S_len, S_cps, wp_ixT, atI_0, atI_1, atI_2, wp_lenL, wp_lenT, wp_lenN, wp_lenS, wp_tupL, wp_tupT, wp_lstL, wp_lstT, wp_intI, wp_intB, wpT_name, wpT_tup, wpT_cons, wpT_nil, ownL, List.getElem?_cons_zero, List.getElem?_cons_succ, List.set_cons_zero, List.set_cons_succ, List.length_cons, List.length_nil, List.map_cons, List.map_nil, plainL, wipeD, reduceCtorEq, if_true, if_false, decide_true, decide_false, decide_eq_true_eq, Bool.and_true, Bool.true_and, Bool.not_true, Bool.not_false, Bool.not_eq_true', decide_eq_false_iff_not, Bool.false_eq_true, not_true_eq_false, not_false_eq_true, ne_eq, eq_self, and_self, and_true, true_and, D.imm, immL, kidsImm, Option.some.injEq, exists_eq_left', Nat.zero_add, Nat.reduceAdd, Nat.reduceLeDiff, Nat.reduceLT, Int.reduceLT, Int.reduceLE, Int.reduceNeg, Int.reducePow, Int.reduceAdd, Int.reduceMul, Int.reduceSub, Int.reduceToNat, Int.reduceEq, D.int.injEq, D.bl.injEq, Bool.false_eq, Bool.not_eq_eq_eq_not, true_or, or_true, false_or, or_false, Bool.and_false, Bool.false_and]
    · rw [ways_map ok3, wp_joinChars cs3 (by omega)]
      simp only [FinK_nx, FinK_ret, FinK_exc, Nxt_nx, Nxt_ret, Nxt_brk, Nxt_cnt, Nxt_exc, wpE_ok, wpE_exc, wpE_bad, wpL_ok, wpI_ok, wpO_ok, wpF_ok, wpF_exc, wpS_nx, wpS_ret, wpS_brk, wpS_cnt, wpS_exc, wpS_bad, wpB_bl, wp_v0sh, wp_v0ow, wp_v1sh, wp_v1ow, wp_v2sh, wp_v2ow, wp_v3sh, wp_v3ow, wp_v4sh, wp_v4ow, wp_v5sh, wp_v5ow, wp_v6sh, wp_v6ow, wp_v7sh, wp_v7ow, wp_v8sh, wp_v8ow, wp_v9sh, wp_v9ow, wp_v10sh, wp_v10ow, wp_v11sh, wp_v11ow, wp_v12sh, wp_v12ow, wp_v13sh, wp_v13ow, wp_v14sh, wp_v14ow, wp_v15sh, wp_v15ow, wp_v16sh, wp_v16ow, wp_v17sh, wp_v17ow, wp_v18sh, wp_v18ow, wp_v19sh, wp_v19ow, wp_v20sh, wp_v20ow, wp_v21sh, wp_v21ow, wp_v22sh, wp_v22ow, wp_v23sh, wp_v23ow, wp_v24sh, wp_v24ow, wp_v25sh, wp_v25ow, wp_c, wp_op2, wp_op1, wp_and, wp_or, wp_not, wp_if, wp_chain, wp_nil, wp_cons, wp_tup, wp_lst, wp_callB, wp_call1, wp_call2, wp_callD, wp_sl, wp_noPart, wpInt_int, wp_part, wpStr_str, wp_m1, wp_next, wp_brk, wp_cnt, wp_never, wp_asg, wp_asgO, wp_drop, wp_ret, wp_ifS, wp_asgT, wp_app, wp_clear, wp_clrFor, wp_thru, wp_iter, wp_rng1, wp_rng2, wp_enum, wp_zip, one1_1, one2_2, wp_rng1V, wp_rng2V, wp_enumV, wp_zipT, wp_zipLL, wp_add, wp_sub, wp_mul, wp_fdiv, wp_mod, wp_pow, wp_lt, wp_le, wp_gt, wp_ge, wp_eqI, wp_neI, wp_eqS, wp_neS, SX.S_len, S_cps, wp_ixT, atI_0, atI_1, atI_2, wp_lenL, wp_lenT, wp_lenN, wp_lenS, wp_tupL, wp_tupT, wp_lstL, wp_lstT, wp_intI, wp_intB, wpT_name, wpT_tup, wpT_cons, wpT_nil, ownL, List.getElem?_cons_zero, List.getElem?_cons_succ, List.set_cons_zero, List.set_cons_succ, List.length_cons, List.length_nil, List.map_cons, List.map_nil, plainL, wipeD, reduceCtorEq, if_true, if_false, decide_true, decide_false, decide_eq_true_eq, Bool.and_true, Bool.true_and, Bool.not_true, Bool.not_false, Bool.not_eq_true', decide_eq_false_iff_not, Bool.false_eq_true, not_true_eq_false, not_false_eq_true, ne_eq, eq_self, and_self, and_true, true_and, D.imm, immL, kidsImm, Option.some.injEq, exists_eq_left', Nat.zero_add, Nat.reduceAdd, Nat.reduceLeDiff, Nat.reduceLT, Int.reduceLT, Int.reduceLE, Int.reduceNeg, Int.reducePow, Int.reduceAdd, Int.reduceMul, Int.reduceSub, Int.reduceToNat, Int.reduceEq, D.int.injEq, D.bl.injEq, Bool.false_eq, Bool.not_eq_eq_eq_not, true_or, or_true, false_or, or_false, Bool.and_false, Bool.false_and, way_ok hc, way_ok hc3, eS, k3, k4, truth_eq, beq_self_eq_true]
  · rename_i hpe
    simp only [FinK_nx, FinK_ret, FinK_exc, Nxt_nx, Nxt_ret, Nxt_brk, Nxt_cnt, Nxt_exc, wpE_ok, wpE_exc, wpE_bad, wpL_ok, wpI_ok, wpO_ok, wpF_ok, wpF_exc, wpS_nx, wpS_ret, wpS_brk, wpS_cnt, wpS_exc, wpS_bad, wpB_bl, wp_v0sh, wp_v0ow, wp_v1sh, wp_v1ow, wp_v2sh, wp_v2ow, wp_v3sh, wp_v3ow, wp_v4sh, wp_v4ow, wp_v5sh, wp_v5ow, wp_v6sh, wp_v6ow, wp_v7sh, wp_v7ow, wp_v8sh, wp_v8ow, wp_v9sh, wp_v9ow, wp_v10sh, wp_v10ow, wp_v11sh, wp_v11ow, wp_v12sh, wp_v12ow, wp_v13sh, wp_v13ow, wp_v14sh, wp_v14ow, wp_v15sh, wp_v15ow, wp_v16sh, wp_v16ow, wp_v17sh, wp_v17ow, wp_v18sh, wp_v18ow, wp_v19sh, wp_v19ow, wp_v20sh, wp_v20ow, wp_v21sh, wp_v21ow, wp_v22sh, wp_v22ow, wp_v23sh, wp_v23ow, wp_v24sh, wp_v24ow, wp_v25sh, wp_v25ow, wp_c, wp_op2, wp_op1, wp_and, wp_or, wp_not, wp_if, wp_chain, wp_nil, wp_cons, wp_tup, wp_lst, wp_callB, wp_call1, wp_call2, wp_callD, wp_sl, wp_noPart, wpInt_int, wp_part, wpStr_str, wp_m1, wp_next, wp_brk, wp_cnt, wp_never, wp_asg, wp_asgO, wp_drop, wp_ret, wp_ifS, wp_asgT, wp_app, wp_clear, wp_clrFor, wp_thru, wp_iter, wp_rng1, wp_rng2, wp_enum, wp_zip, one1_1, one2_2, wp_rng1V, wp_rng2V, wp_enumV, wp_zipT, wp_zipLL, wp_add, wp_sub, wp_mul, wp_fdiv, wp_mod, wp_pow, wp_lt, wp_le, wp_gt, wp_ge, wp_eqI, wp_neI, wp_eqS, wp_neS, SX.S_len, S_cps, wp_ixT, atI_0, atI_1, atI_2, wp_lenL, wp_lenT, wp_lenN, wp_lenS, wp_tupL, wp_tupT, wp_lstL, wp_lstT, wp_intI, wp_intB, wpT_name, wpT_tup, wpT_cons, wpT_nil, ownL, List.getElem?_cons_zero, List.getElem?_cons_succ, List.set_cons_zero, List.set_cons_succ, List.length_cons, List.length_nil, List.map_cons, List.map_nil, plainL, wipeD, reduceCtorEq, if_true, if_false, decide_true, decide_false, decide_eq_true_eq, Bool.and_true, Bool.true_and, Bool.not_true, Bool.not_false, Bool.not_eq_true', decide_eq_false_iff_not, Bool.false_eq_true, not_true_eq_false, not_false_eq_true, ne_eq, eq_self, and_self, and_true, true_and, D.imm, immL, kidsImm, Option.some.injEq, exists_eq_left', Nat.zero_add, Nat.reduceAdd, Nat.reduceLeDiff, Nat.reduceLT, Int.reduceLT, Int.reduceLE, Int.reduceNeg, Int.reducePow, Int.reduceAdd, Int.reduceMul, Int.reduceSub, Int.reduceToNat, Int.reduceEq, D.int.injEq, D.bl.injEq, Bool.false_eq, Bool.not_eq_eq_eq_not, true_or, or_true, false_or, or_false, Bool.and_false, Bool.false_and, hpe, k3, k4, truth_eq, beq_self_eq_true]
theorem law_true (ns : List Int) (hn : ns.length ≤ 63) : ∃ c, den_law [.scr ns] = .ok c (.bl true) := by
  have main : wpF (den_law [.scr ns]) (fun c d => d = .bl true) fun _ => False := by
    unfold den_law
    rw [wpF_denOf (Γ := [.sh (.scr ns), .no, .no, .no, .no, .no, .no, .no, .no, .no, .no, .no, .no, .no, .no, .no]) rfl]
    have mx : ∀ k : Int, 0 ≤ k → k ≤ 1000 → den_law_mix [.scr ns, .int k] = .ok false (.int (mixV ns k)) := fun k => mix_eq hn
    have nn : ∀ k : Int, 0 ≤ k → k ≤ 1000 → 0 ≤ mixV ns k := fun k => mix_nn hn
    have sOk : ∀ {cs : List Nat}, (∀ c ∈ cs, IsWay c) → PyData.strOk (S cs) = true := fun h => strOk_S fun c hc => by
      rcases h c hc with rfl | rfl <;> decide
    unfold bd_law
    rw [wp_seq]
    simp only [FinK_nx, FinK_ret, FinK_exc, Nxt_nx, Nxt_ret, Nxt_brk, Nxt_cnt, Nxt_exc, wpE_ok, wpE_exc, wpE_bad, wpL_ok, wpI_ok, wpO_ok, wpF_ok, wpF_exc, wpS_nx, wpS_ret, wpS_brk, wpS_cnt, wpS_exc, wpS_bad, wpB_bl, wp_v0sh, wp_v0ow, wp_v1sh, wp_v1ow, wp_v2sh, wp_v2ow, wp_v3sh, wp_v3ow, wp_v4sh, wp_v4ow, wp_v5sh, wp_v5ow, wp_v6sh, wp_v6ow, wp_v7sh, wp_v7ow, wp_v8sh, wp_v8ow, wp_v9sh, wp_v9ow, wp_v10sh, wp_v10ow, wp_v11sh, wp_v11ow, wp_v12sh, wp_v12ow, wp_v13sh, wp_v13ow, wp_v14sh, wp_v14ow, wp_v15sh, wp_v15ow, wp_v16sh, wp_v16ow, wp_v17sh, wp_v17ow, wp_v18sh, wp_v18ow, wp_v19sh, wp_v19ow, wp_v20sh, wp_v20ow, wp_v21sh, wp_v21ow, wp_v22sh, wp_v22ow, wp_v23sh, wp_v23ow, wp_v24sh, wp_v24ow, wp_v25sh, wp_v25ow, wp_c, wp_op2, wp_op1, wp_and, wp_or, wp_not, wp_if, wp_chain, wp_nil, wp_cons, wp_tup, wp_lst, wp_callB, wp_call1, wp_call2, wp_callD, wp_sl, wp_noPart, wpInt_int, wp_part, wpStr_str, wp_m1, wp_next, wp_brk, wp_cnt, wp_never, wp_asg, wp_asgO, wp_drop, wp_ret, wp_ifS, wp_asgT, wp_app, wp_clear, wp_clrFor, wp_thru, wp_iter, wp_rng1, wp_rng2, wp_enum, wp_zip, one1_1, one2_2, wp_rng1V, wp_rng2V, wp_enumV, wp_zipT, wp_zipLL, wp_add, wp_sub, wp_mul, wp_fdiv, wp_mod, wp_pow, wp_lt, wp_le, wp_gt, wp_ge, wp_eqI, wp_neI, wp_eqS, wp_neS, SX.S_len, S_cps, wp_ixT, atI_0, atI_1, atI_2, wp_lenL, wp_lenT, wp_lenN, wp_lenS, wp_tupL, wp_tupT, wp_lstL, wp_lstT, wp_intI, wp_intB, wpT_name, wpT_tup, wpT_cons, wpT_nil, ownL, List.getElem?_cons_zero, List.getElem?_cons_succ, List.set_cons_zero, List.set_cons_succ, List.length_cons, List.length_nil, List.map_cons, List.map_nil, plainL, wipeD, reduceCtorEq, if_true, if_false, decide_true, decide_false, decide_eq_true_eq, Bool.and_true, Bool.true_and, Bool.not_true, Bool.not_false, Bool.not_eq_true', decide_eq_false_iff_not, Bool.false_eq_true, not_true_eq_false, not_false_eq_true, ne_eq, eq_self, and_self, and_true, true_and, D.imm, immL, kidsImm, Option.some.injEq, exists_eq_left', Nat.zero_add, Nat.reduceAdd, Nat.reduceLeDiff, Nat.reduceLT, Int.reduceLT, Int.reduceLE, Int.reduceNeg, Int.reducePow, Int.reduceAdd, Int.reduceMul, Int.reduceSub, Int.reduceToNat, Int.reduceEq, D.int.injEq, D.bl.injEq, Bool.false_eq, Bool.not_eq_eq_eq_not, true_or, or_true, false_or, or_false, Bool.and_false, Bool.false_and, mx 0 (by decide) (by decide)]
    refine wp_pri (nn 0 (by decide) (by decide)) fun p hp => ?_
    have hpp := hp.pos
    obtain ⟨cs, hcl, hc, e1⟩ := ways_ex (mixV ns 1) (nn 1 (by decide) (by decide))
    simp only [FinK_nx, FinK_ret, FinK_exc, Nxt_nx, Nxt_ret, Nxt_brk, Nxt_cnt, Nxt_exc, wpE_ok, wpE_exc, wpE_bad, wpL_ok, wpI_ok, wpO_ok, wpF_ok, wpF_exc, wpS_nx, wpS_ret, wpS_brk, wpS_cnt, wpS_exc, wpS_bad, wpB_bl, wp_v0sh, wp_v0ow, wp_v1sh, wp_v1ow, wp_v2sh, wp_v2ow, wp_v3sh, wp_v3ow, wp_v4sh, wp_v4ow, wp_v5sh, wp_v5ow, wp_v6sh, wp_v6ow, wp_v7sh, wp_v7ow, wp_v8sh, wp_v8ow, wp_v9sh, wp_v9ow, wp_v10sh, wp_v10ow, wp_v11sh, wp_v11ow, wp_v12sh, wp_v12ow, wp_v13sh, wp_v13ow, wp_v14sh, wp_v14ow, wp_v15sh, wp_v15ow, wp_v16sh, wp_v16ow, wp_v17sh, wp_v17ow, wp_v18sh, wp_v18ow, wp_v19sh, wp_v19ow, wp_v20sh, wp_v20ow, wp_v21sh, wp_v21ow, wp_v22sh, wp_v22ow, wp_v23sh, wp_v23ow, wp_v24sh, wp_v24ow, wp_v25sh, wp_v25ow, wp_c, wp_op2, wp_op1, wp_and, wp_or, wp_not, wp_if, wp_chain, wp_nil, wp_cons, wp_tup, wp_lst, wp_callB, wp_call1, wp_call2, wp_callD, wp_sl, wp_noPart, wpInt_int, wp_part, wpStr_str, wp_m1, wp_next, wp_brk, wp_cnt, wp_never, wp_asg, wp_asgO, wp_drop, wp_ret, wp_ifS, wp_asgT, wp_app, wp_clear, wp_clrFor, wp_thru, wp_iter, wp_rng1, wp_rng2, wp_enum, wp_zip, one1_1, one2_2, wp_rng1V, wp_rng2V, wp_enumV, wp_zipT, wp_zipLL, wp_add, wp_sub, wp_mul, wp_fdiv, wp_mod, wp_pow, wp_lt, wp_le, wp_gt, wp_ge, wp_eqI, wp_neI, wp_eqS, wp_neS, SX.S_len, S_cps, wp_ixT, atI_0, atI_1, atI_2, wp_lenL, wp_lenT, wp_lenN, wp_lenS, wp_tupL, wp_tupT, wp_lstL, wp_lstT, wp_intI, wp_intB, wpT_name, wpT_tup, wpT_cons, wpT_nil, ownL, List.getElem?_cons_zero, List.getElem?_cons_succ, List.set_cons_zero, List.set_cons_succ, List.length_cons, List.length_nil, List.map_cons, List.map_nil, plainL, wipeD, reduceCtorEq, if_true, if_false, decide_true, decide_false, decide_eq_true_eq, Bool.and_true, Bool.true_and, Bool.not_true, Bool.not_false, Bool.not_eq_true', decide_eq_false_iff_not, Bool.false_eq_true, not_true_eq_false, not_false_eq_true, ne_eq, eq_self, and_self, and_true, true_and, D.imm, immL, kidsImm, Option.some.injEq, exists_eq_left', Nat.zero_add, Nat.reduceAdd, Nat.reduceLeDiff, Nat.reduceLT, Int.reduceLT, Int.reduceLE, Int.reduceNeg, Int.reducePow, Int.reduceAdd, Int.reduceMul, Int.reduceSub, Int.reduceToNat, Int.reduceEq, D.int.injEq, D.bl.injEq, Bool.false_eq, Bool.not_eq_eq_eq_not, true_or, or_true, false_or, or_false, Bool.and_false, Bool.false_and]
    rw [wp_seq]
    simp only [FinK_nx, FinK_ret, FinK_exc, Nxt_nx, Nxt_ret, Nxt_brk, Nxt_cnt, Nxt_exc, wpE_ok, wpE_exc, wpE_bad, wpL_ok, wpI_ok, wpO_ok, wpF_ok, wpF_exc, wpS_nx, wpS_ret, wpS_brk, wpS_cnt, wpS_exc, wpS_bad, wpB_bl, wp_v0sh, wp_v0ow, wp_v1sh, wp_v1ow, wp_v2sh, wp_v2ow, wp_v3sh, wp_v3ow, wp_v4sh, wp_v4ow, wp_v5sh, wp_v5ow, wp_v6sh, wp_v6ow, wp_v7sh, wp_v7ow, wp_v8sh, wp_v8ow, wp_v9sh, wp_v9ow, wp_v10sh, wp_v10ow, wp_v11sh, wp_v11ow, wp_v12sh, wp_v12ow, wp_v13sh, wp_v13ow, wp_v14sh, wp_v14ow, wp_v15sh, wp_v15ow, wp_v16sh, wp_v16ow, wp_v17sh, wp_v17ow, wp_v18sh, wp_v18ow, wp_v19sh, wp_v19ow, wp_v20sh, wp_v20ow, wp_v21sh, wp_v21ow, wp_v22sh, wp_v22ow, wp_v23sh, wp_v23ow, wp_v24sh, wp_v24ow, wp_v25sh, wp_v25ow, wp_c, wp_op2, wp_op1, wp_and, wp_or, wp_not, wp_if, wp_chain, wp_nil, wp_cons, wp_tup, wp_lst, wp_callB, wp_call1, wp_call2, wp_callD, wp_sl, wp_noPart, wpInt_int, wp_part, wpStr_str, wp_m1, wp_next, wp_brk, wp_cnt, wp_never, wp_asg, wp_asgO, wp_drop, wp_ret, wp_ifS, wp_asgT, wp_app, wp_clear, wp_clrFor, wp_thru, wp_iter, wp_rng1, wp_rng2, wp_enum, wp_zip, one1_1, one2_2, wp_rng1V, wp_rng2V, wp_enumV, wp_zipT, wp_zipLL, wp_add, wp_sub, wp_mul, wp_fdiv, wp_mod, wp_pow, wp_lt, wp_le, wp_gt, wp_ge, wp_eqI, wp_neI, wp_eqS, wp_neS, SX.S_len, S_cps, wp_ixT, atI_0, atI_1, atI_2, wp_lenL, wp_lenT, wp_lenN, wp_lenS, wp_tupL, wp_tupT, wp_lstL, wp_lstT, wp_intI, wp_intB, wpT_name, wpT_tup, wpT_cons, wpT_nil, ownL, List.getElem?_cons_zero, List.getElem?_cons_succ, List.set_cons_zero, List.set_cons_succ, List.length_cons, List.length_nil, List.map_cons, List.map_nil, plainL, wipeD, reduceCtorEq, if_true, if_false, decide_true, decide_false, decide_eq_true_eq, Bool.and_true, Bool.true_and, Bool.not_true, Bool.not_false, Bool.not_eq_true', decide_eq_false_iff_not, Bool.false_eq_true, not_true_eq_false, not_false_eq_true, ne_eq, eq_self, and_self, and_true, true_and, D.imm, immL, kidsImm, Option.some.injEq, exists_eq_left', Nat.zero_add, Nat.reduceAdd, Nat.reduceLeDiff, Nat.reduceLT, Int.reduceLT, Int.reduceLE, Int.reduceNeg, Int.reducePow, Int.reduceAdd, Int.reduceMul, Int.reduceSub, Int.reduceToNat, Int.reduceEq, D.int.injEq, D.bl.injEq, Bool.false_eq, Bool.not_eq_eq_eq_not, true_or, or_true, false_or, or_false, Bool.and_false, Bool.false_and, mx 1 (by decide) (by decide), e1]
    obtain ⟨ws, as, ok, e2⟩ := row_ex hn (at_ := 2) (p := p) (most := 5) hc hcl (by decide) (by decide) hpp.1 hpp.2 (by decide) (by decide)
    rw [wp_seq]
    simp only [FinK_nx, FinK_ret, FinK_exc, Nxt_nx, Nxt_ret, Nxt_brk, Nxt_cnt, Nxt_exc, wpE_ok, wpE_exc, wpE_bad, wpL_ok, wpI_ok, wpO_ok, wpF_ok, wpF_exc, wpS_nx, wpS_ret, wpS_brk, wpS_cnt, wpS_exc, wpS_bad, wpB_bl, wp_v0sh, wp_v0ow, wp_v1sh, wp_v1ow, wp_v2sh, wp_v2ow, wp_v3sh, wp_v3ow, wp_v4sh, wp_v4ow, wp_v5sh, wp_v5ow, wp_v6sh, wp_v6ow, wp_v7sh, wp_v7ow, wp_v8sh, wp_v8ow, wp_v9sh, wp_v9ow, wp_v10sh, wp_v10ow, wp_v11sh, wp_v11ow, wp_v12sh, wp_v12ow, wp_v13sh, wp_v13ow, wp_v14sh, wp_v14ow, wp_v15sh, wp_v15ow, wp_v16sh, wp_v16ow, wp_v17sh, wp_v17ow, wp_v18sh, wp_v18ow, wp_v19sh, wp_v19ow, wp_v20sh, wp_v20ow, wp_v21sh, wp_v21ow, wp_v22sh, wp_v22ow, wp_v23sh, wp_v23ow, wp_v24sh, wp_v24ow, wp_v25sh, wp_v25ow, wp_c, wp_op2, wp_op1, wp_and, wp_or, wp_not, wp_if, wp_chain, wp_nil, wp_cons, wp_tup, wp_lst, wp_callB, wp_call1, wp_call2, wp_callD, wp_sl, wp_noPart, wpInt_int, wp_part, wpStr_str, wp_m1, wp_next, wp_brk, wp_cnt, wp_never, wp_asg, wp_asgO, wp_drop, wp_ret, wp_ifS, wp_asgT, wp_app, wp_clear, wp_clrFor, wp_thru, wp_iter, wp_rng1, wp_rng2, wp_enum, wp_zip, one1_1, one2_2, wp_rng1V, wp_rng2V, wp_enumV, wp_zipT, wp_zipLL, wp_add, wp_sub, wp_mul, wp_fdiv, wp_mod, wp_pow, wp_lt, wp_le, wp_gt, wp_ge, wp_eqI, wp_neI, wp_eqS, wp_neS, SX.S_len, S_cps, wp_ixT, atI_0, atI_1, atI_2, wp_lenL, wp_lenT, wp_lenN, wp_lenS, wp_tupL, wp_tupT, wp_lstL, wp_lstT, wp_intI, wp_intB, wpT_name, wpT_tup, wpT_cons, wpT_nil, ownL, List.getElem?_cons_zero, List.getElem?_cons_succ, List.set_cons_zero, List.set_cons_succ, List.length_cons, List.length_nil, List.map_cons, List.map_nil, plainL, wipeD, reduceCtorEq, if_true, if_false, decide_true, decide_false, decide_eq_true_eq, Bool.and_true, Bool.true_and, Bool.not_true, Bool.not_false, Bool.not_eq_true', decide_eq_false_iff_not, Bool.false_eq_true, not_true_eq_false, not_false_eq_true, ne_eq, eq_self, and_self, and_true, true_and, D.imm, immL, kidsImm, Option.some.injEq, exists_eq_left', Nat.zero_add, Nat.reduceAdd, Nat.reduceLeDiff, Nat.reduceLT, Int.reduceLT, Int.reduceLE, Int.reduceNeg, Int.reducePow, Int.reduceAdd, Int.reduceMul, Int.reduceSub, Int.reduceToNat, Int.reduceEq, D.int.injEq, D.bl.injEq, Bool.false_eq, Bool.not_eq_eq_eq_not, true_or, or_true, false_or, or_false, Bool.and_false, Bool.false_and, e2]
    have hal : as.length ≤ 5 := by have := ok.al; omega
    obtain ⟨ps, hps, e3⟩ := handed_ex hn (p := p) hp (ws := ws) (as := as) hal
    rw [wp_seq]
    simp only [FinK_nx, FinK_ret, FinK_exc, Nxt_nx, Nxt_ret, Nxt_brk, Nxt_cnt, Nxt_exc, wpE_ok, wpE_exc, wpE_bad, wpL_ok, wpI_ok, wpO_ok, wpF_ok, wpF_exc, wpS_nx, wpS_ret, wpS_brk, wpS_cnt, wpS_exc, wpS_bad, wpB_bl, wp_v0sh, wp_v0ow, wp_v1sh, wp_v1ow, wp_v2sh, wp_v2ow, wp_v3sh, wp_v3ow, wp_v4sh, wp_v4ow, wp_v5sh, wp_v5ow, wp_v6sh, wp_v6ow, wp_v7sh, wp_v7ow, wp_v8sh, wp_v8ow, wp_v9sh, wp_v9ow, wp_v10sh, wp_v10ow, wp_v11sh, wp_v11ow, wp_v12sh, wp_v12ow, wp_v13sh, wp_v13ow, wp_v14sh, wp_v14ow, wp_v15sh, wp_v15ow, wp_v16sh, wp_v16ow, wp_v17sh, wp_v17ow, wp_v18sh, wp_v18ow, wp_v19sh, wp_v19ow, wp_v20sh, wp_v20ow, wp_v21sh, wp_v21ow, wp_v22sh, wp_v22ow, wp_v23sh, wp_v23ow, wp_v24sh, wp_v24ow, wp_v25sh, wp_v25ow, wp_c, wp_op2, wp_op1, wp_and, wp_or, wp_not, wp_if, wp_chain, wp_nil, wp_cons, wp_tup, wp_lst, wp_callB, wp_call1, wp_call2, wp_callD, wp_sl, wp_noPart, wpInt_int, wp_part, wpStr_str, wp_m1, wp_next, wp_brk, wp_cnt, wp_never, wp_asg, wp_asgO, wp_drop, wp_ret, wp_ifS, wp_asgT, wp_app, wp_clear, wp_clrFor, wp_thru, wp_iter, wp_rng1, wp_rng2, wp_enum, wp_zip, one1_1, one2_2, wp_rng1V, wp_rng2V, wp_enumV, wp_zipT, wp_zipLL, wp_add, wp_sub, wp_mul, wp_fdiv, wp_mod, wp_pow, wp_lt, wp_le, wp_gt, wp_ge, wp_eqI, wp_neI, wp_eqS, wp_neS, SX.S_len, S_cps, wp_ixT, atI_0, atI_1, atI_2, wp_lenL, wp_lenT, wp_lenN, wp_lenS, wp_tupL, wp_tupT, wp_lstL, wp_lstT, wp_intI, wp_intB, wpT_name, wpT_tup, wpT_cons, wpT_nil, ownL, List.getElem?_cons_zero, List.getElem?_cons_succ, List.set_cons_zero, List.set_cons_succ, List.length_cons, List.length_nil, List.map_cons, List.map_nil, plainL, wipeD, reduceCtorEq, if_true, if_false, decide_true, decide_false, decide_eq_true_eq, Bool.and_true, Bool.true_and, Bool.not_true, Bool.not_false, Bool.not_eq_true', decide_eq_false_iff_not, Bool.false_eq_true, not_true_eq_false, not_false_eq_true, ne_eq, eq_self, and_self, and_true, true_and, D.imm, immL, kidsImm, Option.some.injEq, exists_eq_left', Nat.zero_add, Nat.reduceAdd, Nat.reduceLeDiff, Nat.reduceLT, Int.reduceLT, Int.reduceLE, Int.reduceNeg, Int.reducePow, Int.reduceAdd, Int.reduceMul, Int.reduceSub, Int.reduceToNat, Int.reduceEq, D.int.injEq, D.bl.injEq, Bool.false_eq, Bool.not_eq_eq_eq_not, true_or, or_true, false_or, or_false, Bool.and_false, Bool.false_and, e3]
    rw [wp_seq, wp_asg]
    refine wp_lcMap (fun d => d) ?_
    simp only [FinK_nx, FinK_ret, FinK_exc, Nxt_nx, Nxt_ret, Nxt_brk, Nxt_cnt, Nxt_exc, wpE_ok, wpE_exc, wpE_bad, wpL_ok, wpI_ok, wpO_ok, wpF_ok, wpF_exc, wpS_nx, wpS_ret, wpS_brk, wpS_cnt, wpS_exc, wpS_bad, wpB_bl, wp_v0sh, wp_v0ow, wp_v1sh, wp_v1ow, wp_v2sh, wp_v2ow, wp_v3sh, wp_v3ow, wp_v4sh, wp_v4ow, wp_v5sh, wp_v5ow, wp_v6sh, wp_v6ow, wp_v7sh, wp_v7ow, wp_v8sh, wp_v8ow, wp_v9sh, wp_v9ow, wp_v10sh, wp_v10ow, wp_v11sh, wp_v11ow, wp_v12sh, wp_v12ow, wp_v13sh, wp_v13ow, wp_v14sh, wp_v14ow, wp_v15sh, wp_v15ow, wp_v16sh, wp_v16ow, wp_v17sh, wp_v17ow, wp_v18sh, wp_v18ow, wp_v19sh, wp_v19ow, wp_v20sh, wp_v20ow, wp_v21sh, wp_v21ow, wp_v22sh, wp_v22ow, wp_v23sh, wp_v23ow, wp_v24sh, wp_v24ow, wp_v25sh, wp_v25ow, wp_c, wp_op2, wp_op1, wp_and, wp_or, wp_not, wp_if, wp_chain, wp_nil, wp_cons, wp_tup, wp_lst, wp_callB, wp_call1, wp_call2, wp_callD, wp_sl, wp_noPart, wpInt_int, wp_part, wpStr_str, wp_m1, wp_next, wp_brk, wp_cnt, wp_never, wp_asg, wp_asgO, wp_drop, wp_ret, wp_ifS, wp_asgT, wp_app, wp_clear, wp_clrFor, wp_thru, wp_iter, wp_rng1, wp_rng2, wp_enum, wp_zip, one1_1, one2_2, wp_rng1V, wp_rng2V, wp_enumV, wp_zipT, wp_zipLL, wp_add, wp_sub, wp_mul, wp_fdiv, wp_mod, wp_pow, wp_lt, wp_le, wp_gt, wp_ge, wp_eqI, wp_neI, wp_eqS, wp_neS, SX.S_len, S_cps, wp_ixT, atI_0, atI_1, atI_2, wp_lenL, wp_lenT, wp_lenN, wp_lenS, wp_tupL, wp_tupT, wp_lstL, wp_lstT, wp_intI, wp_intB, wpT_name, wpT_tup, wpT_cons, wpT_nil, ownL, List.getElem?_cons_zero, List.getElem?_cons_succ, List.set_cons_zero, List.set_cons_succ, List.length_cons, List.length_nil, List.map_cons, List.map_nil, plainL, wipeD, reduceCtorEq, if_true, if_false, decide_true, decide_false, decide_eq_true_eq, Bool.and_true, Bool.true_and, Bool.not_true, Bool.not_false, Bool.not_eq_true', decide_eq_false_iff_not, Bool.false_eq_true, not_true_eq_false, not_false_eq_true, ne_eq, eq_self, and_self, and_true, true_and, D.imm, immL, kidsImm, Option.some.injEq, exists_eq_left', Nat.zero_add, Nat.reduceAdd, Nat.reduceLeDiff, Nat.reduceLT, Int.reduceLT, Int.reduceLE, Int.reduceNeg, Int.reducePow, Int.reduceAdd, Int.reduceMul, Int.reduceSub, Int.reduceToNat, Int.reduceEq, D.int.injEq, D.bl.injEq, Bool.false_eq, Bool.not_eq_eq_eq_not, true_or, or_true, false_or, or_false, Bool.and_false, Bool.false_and]
    refine ⟨fun d hd => ?_, ?_⟩
    · obtain ⟨x, hx, rfl⟩ := List.mem_map.mp hd
      simp only [pairE, offT, FinK_nx, FinK_ret, FinK_exc, Nxt_nx, Nxt_ret, Nxt_brk, Nxt_cnt, Nxt_exc, wpE_ok, wpE_exc, wpE_bad, wpL_ok, wpI_ok, wpO_ok, wpF_ok, wpF_exc, wpS_nx, wpS_ret, wpS_brk, wpS_cnt, wpS_exc, wpS_bad, wpB_bl, wp_v0sh, wp_v0ow, wp_v1sh, wp_v1ow, wp_v2sh, wp_v2ow, wp_v3sh, wp_v3ow, wp_v4sh, wp_v4ow, wp_v5sh, wp_v5ow, wp_v6sh, wp_v6ow, wp_v7sh, wp_v7ow, wp_v8sh, wp_v8ow, wp_v9sh, wp_v9ow, wp_v10sh, wp_v10ow, wp_v11sh, wp_v11ow, wp_v12sh, wp_v12ow, wp_v13sh, wp_v13ow, wp_v14sh, wp_v14ow, wp_v15sh, wp_v15ow, wp_v16sh, wp_v16ow, wp_v17sh, wp_v17ow, wp_v18sh, wp_v18ow, wp_v19sh, wp_v19ow, wp_v20sh, wp_v20ow, wp_v21sh, wp_v21ow, wp_v22sh, wp_v22ow, wp_v23sh, wp_v23ow, wp_v24sh, wp_v24ow, wp_v25sh, wp_v25ow, wp_c, wp_op2, wp_op1, wp_and, wp_or, wp_not, wp_if, wp_chain, wp_nil, wp_cons, wp_tup, wp_lst, wp_callB, wp_call1, wp_call2, wp_callD, wp_sl, wp_noPart, wpInt_int, wp_part, wpStr_str, wp_m1, wp_next, wp_brk, wp_cnt, wp_never, wp_asg, wp_asgO, wp_drop, wp_ret, wp_ifS, wp_asgT, wp_app, wp_clear, wp_clrFor, wp_thru, wp_iter, wp_rng1, wp_rng2, wp_enum, wp_zip, one1_1, one2_2, wp_rng1V, wp_rng2V, wp_enumV, wp_zipT, wp_zipLL, wp_add, wp_sub, wp_mul, wp_fdiv, wp_mod, wp_pow, wp_lt, wp_le, wp_gt, wp_ge, wp_eqI, wp_neI, wp_eqS, wp_neS, SX.S_len, S_cps, wp_ixT, atI_0, atI_1, atI_2, wp_lenL, wp_lenT, wp_lenN, wp_lenS, wp_tupL, wp_tupT, wp_lstL, wp_lstT, wp_intI, wp_intB, wpT_name, wpT_tup, wpT_cons, wpT_nil, ownL, List.getElem?_cons_zero, List.getElem?_cons_succ, List.set_cons_zero, List.set_cons_succ, List.length_cons, List.length_nil, List.map_cons, List.map_nil, plainL, wipeD, reduceCtorEq, if_true, if_false, decide_true, decide_false, decide_eq_true_eq, Bool.and_true, Bool.true_and, Bool.not_true, Bool.not_false, Bool.not_eq_true', decide_eq_false_iff_not, Bool.false_eq_true, not_true_eq_false, not_false_eq_true, ne_eq, eq_self, and_self, and_true, true_and, D.imm, immL, kidsImm, Option.some.injEq, exists_eq_left', Nat.zero_add, Nat.reduceAdd, Nat.reduceLeDiff, Nat.reduceLT, Int.reduceLT, Int.reduceLE, Int.reduceNeg, Int.reducePow, Int.reduceAdd, Int.reduceMul, Int.reduceSub, Int.reduceToNat, Int.reduceEq, D.int.injEq, D.bl.injEq, Bool.false_eq, Bool.not_eq_eq_eq_not, true_or, or_true, false_or, or_false, Bool.and_false, Bool.false_and]
      refine wp_lcMap (fun d => d) ?_
      simp only [FinK_nx, FinK_ret, FinK_exc, Nxt_nx, Nxt_ret, Nxt_brk, Nxt_cnt, Nxt_exc, wpE_ok, wpE_exc, wpE_bad, wpL_ok, wpI_ok, wpO_ok, wpF_ok, wpF_exc, wpS_nx, wpS_ret, wpS_brk, wpS_cnt, wpS_exc, wpS_bad, wpB_bl, wp_v0sh, wp_v0ow, wp_v1sh, wp_v1ow, wp_v2sh, wp_v2ow, wp_v3sh, wp_v3ow, wp_v4sh, wp_v4ow, wp_v5sh, wp_v5ow, wp_v6sh, wp_v6ow, wp_v7sh, wp_v7ow, wp_v8sh, wp_v8ow, wp_v9sh, wp_v9ow, wp_v10sh, wp_v10ow, wp_v11sh, wp_v11ow, wp_v12sh, wp_v12ow, wp_v13sh, wp_v13ow, wp_v14sh, wp_v14ow, wp_v15sh, wp_v15ow, wp_v16sh, wp_v16ow, wp_v17sh, wp_v17ow, wp_v18sh, wp_v18ow, wp_v19sh, wp_v19ow, wp_v20sh, wp_v20ow, wp_v21sh, wp_v21ow, wp_v22sh, wp_v22ow, wp_v23sh, wp_v23ow, wp_v24sh, wp_v24ow, wp_v25sh, wp_v25ow, wp_c, wp_op2, wp_op1, wp_and, wp_or, wp_not, wp_if, wp_chain, wp_nil, wp_cons, wp_tup, wp_lst, wp_callB, wp_call1, wp_call2, wp_callD, wp_sl, wp_noPart, wpInt_int, wp_part, wpStr_str, wp_m1, wp_next, wp_brk, wp_cnt, wp_never, wp_asg, wp_asgO, wp_drop, wp_ret, wp_ifS, wp_asgT, wp_app, wp_clear, wp_clrFor, wp_thru, wp_iter, wp_rng1, wp_rng2, wp_enum, wp_zip, one1_1, one2_2, wp_rng1V, wp_rng2V, wp_enumV, wp_zipT, wp_zipLL, wp_add, wp_sub, wp_mul, wp_fdiv, wp_mod, wp_pow, wp_lt, wp_le, wp_gt, wp_ge, wp_eqI, wp_neI, wp_eqS, wp_neS, SX.S_len, S_cps, wp_ixT, atI_0, atI_1, atI_2, wp_lenL, wp_lenT, wp_lenN, wp_lenS, wp_tupL, wp_tupT, wp_lstL, wp_lstT, wp_intI, wp_intB, wpT_name, wpT_tup, wpT_cons, wpT_nil, ownL, List.getElem?_cons_zero, List.getElem?_cons_succ, List.set_cons_zero, List.set_cons_succ, List.length_cons, List.length_nil, List.map_cons, List.map_nil, plainL, wipeD, reduceCtorEq, if_true, if_false, decide_true, decide_false, decide_eq_true_eq, Bool.and_true, Bool.true_and, Bool.not_true, Bool.not_false, Bool.not_eq_true', decide_eq_false_iff_not, Bool.false_eq_true, not_true_eq_false, not_false_eq_true, ne_eq, eq_self, and_self, and_true, true_and, D.imm, immL, kidsImm, Option.some.injEq, exists_eq_left', Nat.zero_add, Nat.reduceAdd, Nat.reduceLeDiff, Nat.reduceLT, Int.reduceLT, Int.reduceLE, Int.reduceNeg, Int.reducePow, Int.reduceAdd, Int.reduceMul, Int.reduceSub, Int.reduceToNat, Int.reduceEq, D.int.injEq, D.bl.injEq, Bool.false_eq, Bool.not_eq_eq_eq_not, true_or, or_true, false_or, or_false, Bool.and_false, Bool.false_and]
      refine ⟨fun d hd => ?_, ?_⟩
      · obtain ⟨r, hr, rfl⟩ := List.mem_map.mp hd
        simp only [offR, FinK_nx, FinK_ret, FinK_exc, Nxt_nx, Nxt_ret, Nxt_brk, Nxt_cnt, Nxt_exc, wpE_ok, wpE_exc, wpE_bad, wpL_ok, wpI_ok, wpO_ok, wpF_ok, wpF_exc, wpS_nx, wpS_ret, wpS_brk, wpS_cnt, wpS_exc, wpS_bad, wpB_bl, wp_v0sh, wp_v0ow, wp_v1sh, wp_v1ow, wp_v2sh, wp_v2ow, wp_v3sh, wp_v3ow, wp_v4sh, wp_v4ow, wp_v5sh, wp_v5ow, wp_v6sh, wp_v6ow, wp_v7sh, wp_v7ow, wp_v8sh, wp_v8ow, wp_v9sh, wp_v9ow, wp_v10sh, wp_v10ow, wp_v11sh, wp_v11ow, wp_v12sh, wp_v12ow, wp_v13sh, wp_v13ow, wp_v14sh, wp_v14ow, wp_v15sh, wp_v15ow, wp_v16sh, wp_v16ow, wp_v17sh, wp_v17ow, wp_v18sh, wp_v18ow, wp_v19sh, wp_v19ow, wp_v20sh, wp_v20ow, wp_v21sh, wp_v21ow, wp_v22sh, wp_v22ow, wp_v23sh, wp_v23ow, wp_v24sh, wp_v24ow, wp_v25sh, wp_v25ow, wp_c, wp_op2, wp_op1, wp_and, wp_or, wp_not, wp_if, wp_chain, wp_nil, wp_cons, wp_tup, wp_lst, wp_callB, wp_call1, wp_call2, wp_callD, wp_sl, wp_noPart, wpInt_int, wp_part, wpStr_str, wp_m1, wp_next, wp_brk, wp_cnt, wp_never, wp_asg, wp_asgO, wp_drop, wp_ret, wp_ifS, wp_asgT, wp_app, wp_clear, wp_clrFor, wp_thru, wp_iter, wp_rng1, wp_rng2, wp_enum, wp_zip, one1_1, one2_2, wp_rng1V, wp_rng2V, wp_enumV, wp_zipT, wp_zipLL, wp_add, wp_sub, wp_mul, wp_fdiv, wp_mod, wp_pow, wp_lt, wp_le, wp_gt, wp_ge, wp_eqI, wp_neI, wp_eqS, wp_neS, SX.S_len, S_cps, wp_ixT, atI_0, atI_1, atI_2, wp_lenL, wp_lenT, wp_lenN, wp_lenS, wp_tupL, wp_tupT, wp_lstL, wp_lstT, wp_intI, wp_intB, wpT_name, wpT_tup, wpT_cons, wpT_nil, ownL, List.getElem?_cons_zero, List.getElem?_cons_succ, List.set_cons_zero, List.set_cons_succ, List.length_cons, List.length_nil, List.map_cons, List.map_nil, plainL, wipeD, reduceCtorEq, if_true, if_false, decide_true, decide_false, decide_eq_true_eq, Bool.and_true, Bool.true_and, Bool.not_true, Bool.not_false, Bool.not_eq_true', decide_eq_false_iff_not, Bool.false_eq_true, not_true_eq_false, not_false_eq_true, ne_eq, eq_self, and_self, and_true, true_and, D.imm, immL, kidsImm, Option.some.injEq, exists_eq_left', Nat.zero_add, Nat.reduceAdd, Nat.reduceLeDiff, Nat.reduceLT, Int.reduceLT, Int.reduceLE, Int.reduceNeg, Int.reducePow, Int.reduceAdd, Int.reduceMul, Int.reduceSub, Int.reduceToNat, Int.reduceEq, D.int.injEq, D.bl.injEq, Bool.false_eq, Bool.not_eq_eq_eq_not, true_or, or_true, false_or, or_false, Bool.and_false, Bool.false_and]
      · simp only [FinK_nx, FinK_ret, FinK_exc, Nxt_nx, Nxt_ret, Nxt_brk, Nxt_cnt, Nxt_exc, wpE_ok, wpE_exc, wpE_bad, wpL_ok, wpI_ok, wpO_ok, wpF_ok, wpF_exc, wpS_nx, wpS_ret, wpS_brk, wpS_cnt, wpS_exc, wpS_bad, wpB_bl, wp_v0sh, wp_v0ow, wp_v1sh, wp_v1ow, wp_v2sh, wp_v2ow, wp_v3sh, wp_v3ow, wp_v4sh, wp_v4ow, wp_v5sh, wp_v5ow, wp_v6sh, wp_v6ow, wp_v7sh, wp_v7ow, wp_v8sh, wp_v8ow, wp_v9sh, wp_v9ow, wp_v10sh, wp_v10ow, wp_v11sh, wp_v11ow, wp_v12sh, wp_v12ow, wp_v13sh, wp_v13ow, wp_v14sh, wp_v14ow, wp_v15sh, wp_v15ow, wp_v16sh, wp_v16ow, wp_v17sh, wp_v17ow, wp_v18sh, wp_v18ow, wp_v19sh, wp_v19ow, wp_v20sh, wp_v20ow, wp_v21sh, wp_v21ow, wp_v22sh, wp_v22ow, wp_v23sh, wp_v23ow, wp_v24sh, wp_v24ow, wp_v25sh, wp_v25ow, wp_c, wp_op2, wp_op1, wp_and, wp_or, wp_not, wp_if, wp_chain, wp_nil, wp_cons, wp_tup, wp_lst, wp_callB, wp_call1, wp_call2, wp_callD, wp_sl, wp_noPart, wpInt_int, wp_part, wpStr_str, wp_m1, wp_next, wp_brk, wp_cnt, wp_never, wp_asg, wp_asgO, wp_drop, wp_ret, wp_ifS, wp_asgT, wp_app, wp_clear, wp_clrFor, wp_thru, wp_iter, wp_rng1, wp_rng2, wp_enum, wp_zip, one1_1, one2_2, wp_rng1V, wp_rng2V, wp_enumV, wp_zipT, wp_zipLL, wp_add, wp_sub, wp_mul, wp_fdiv, wp_mod, wp_pow, wp_lt, wp_le, wp_gt, wp_ge, wp_eqI, wp_neI, wp_eqS, wp_neS, SX.S_len, S_cps, wp_ixT, atI_0, atI_1, atI_2, wp_lenL, wp_lenT, wp_lenN, wp_lenS, wp_tupL, wp_tupT, wp_lstL, wp_lstT, wp_intI, wp_intB, wpT_name, wpT_tup, wpT_cons, wpT_nil, ownL, List.getElem?_cons_zero, List.getElem?_cons_succ, List.set_cons_zero, List.set_cons_succ, List.length_cons, List.length_nil, List.map_cons, List.map_nil, plainL, wipeD, reduceCtorEq, if_true, if_false, decide_true, decide_false, decide_eq_true_eq, Bool.and_true, Bool.true_and, Bool.not_true, Bool.not_false, Bool.not_eq_true', decide_eq_false_iff_not, Bool.false_eq_true, not_true_eq_false, not_false_eq_true, ne_eq, eq_self, and_self, and_true, true_and, D.imm, immL, kidsImm, Option.some.injEq, exists_eq_left', Nat.zero_add, Nat.reduceAdd, Nat.reduceLeDiff, Nat.reduceLT, Int.reduceLT, Int.reduceLE, Int.reduceNeg, Int.reducePow, Int.reduceAdd, Int.reduceMul, Int.reduceSub, Int.reduceToNat, Int.reduceEq, D.int.injEq, D.bl.injEq, Bool.false_eq, Bool.not_eq_eq_eq_not, true_or, or_true, false_or, or_false, Bool.and_false, Bool.false_and, List.map_id']
    have hpk : D.pk 20 (.lst (ps.map (pairE p))) = true := by
      simp only [D.pk]
      refine pkL_of fun d hd => ?_
      obtain ⟨x, hx, rfl⟩ := List.mem_map.mp hd
      have hcx : IsWay x.1.c := by
        have : x.1 ∈ as := by rw [← hps]; exact List.mem_map_of_mem hx
        obtain ⟨i, hi, e⟩ := List.getElem_of_mem this
        exact hc _ (List.mem_of_getElem? (ok.ar i x.1 (by rw [List.getElem?_eq_getElem hi, e])).c)
      simp only [pairE, offT, D.pk, pkL, ok_way hcx, Bool.and_true, Bool.true_and]
      refine pkL_of fun d hd => ?_
      obtain ⟨r, hr, rfl⟩ := List.mem_map.mp hd
      simp only [offR, D.pk]
      refine pkL_of fun d hd => ?_
      obtain ⟨y, hy, rfl⟩ := List.mem_map.mp hd
      rfl
    simp only [FinK_nx, FinK_ret, FinK_exc, Nxt_nx, Nxt_ret, Nxt_brk, Nxt_cnt, Nxt_exc, wpE_ok, wpE_exc, wpE_bad, wpL_ok, wpI_ok, wpO_ok, wpF_ok, wpF_exc, wpS_nx, wpS_ret, wpS_brk, wpS_cnt, wpS_exc, wpS_bad, wpB_bl, wp_v0sh, wp_v0ow, wp_v1sh, wp_v1ow, wp_v2sh, wp_v2ow, wp_v3sh, wp_v3ow, wp_v4sh, wp_v4ow, wp_v5sh, wp_v5ow, wp_v6sh, wp_v6ow, wp_v7sh, wp_v7ow, wp_v8sh, wp_v8ow, wp_v9sh, wp_v9ow, wp_v10sh, wp_v10ow, wp_v11sh, wp_v11ow, wp_v12sh, wp_v12ow, wp_v13sh, wp_v13ow, wp_v14sh, wp_v14ow, wp_v15sh, wp_v15ow, wp_v16sh, wp_v16ow, wp_v17sh, wp_v17ow, wp_v18sh, wp_v18ow, wp_v19sh, wp_v19ow, wp_v20sh, wp_v20ow, wp_v21sh, wp_v21ow, wp_v22sh, wp_v22ow, wp_v23sh, wp_v23ow, wp_v24sh, wp_v24ow, wp_v25sh, wp_v25ow, wp_c, wp_op2, wp_op1, wp_and, wp_or, wp_not, wp_if, wp_chain, wp_nil, wp_cons, wp_tup, wp_lst, wp_callB, wp_call1, wp_call2, wp_callD, wp_sl, wp_noPart, wpInt_int, wp_part, wpStr_str, wp_m1, wp_next, wp_brk, wp_cnt, wp_never, wp_asg, wp_asgO, wp_drop, wp_ret, wp_ifS, wp_asgT, wp_app, wp_clear, wp_clrFor, wp_thru, wp_iter, wp_rng1, wp_rng2, wp_enum, wp_zip, one1_1, one2_2, wp_rng1V, wp_rng2V, wp_enumV, wp_zipT, wp_zipLL, wp_add, wp_sub, wp_mul, wp_fdiv, wp_mod, wp_pow, wp_lt, wp_le, wp_gt, wp_ge, wp_eqI, wp_neI, wp_eqS, wp_neS, SX.S_len, S_cps, wp_ixT, atI_0, atI_1, atI_2, wp_lenL, wp_lenT, wp_lenN, wp_lenS, wp_tupL, wp_tupT, wp_lstL, wp_lstT, wp_intI, wp_intB, wpT_name, wpT_tup, wpT_cons, wpT_nil, ownL, List.getElem?_cons_zero, List.getElem?_cons_succ, List.set_cons_zero, List.set_cons_succ, List.length_cons, List.length_nil, List.map_cons, List.map_nil, plainL, wipeD, reduceCtorEq, if_true, if_false, decide_true, decide_false, decide_eq_true_eq, Bool.and_true, Bool.true_and, Bool.not_true, Bool.not_false, Bool.not_eq_true', decide_eq_false_iff_not, Bool.false_eq_true, not_true_eq_false, not_false_eq_true, ne_eq, eq_self, and_self, and_true, true_and, D.imm, immL, kidsImm, Option.some.injEq, exists_eq_left', Nat.zero_add, Nat.reduceAdd, Nat.reduceLeDiff, Nat.reduceLT, Int.reduceLT, Int.reduceLE, Int.reduceNeg, Int.reducePow, Int.reduceAdd, Int.reduceMul, Int.reduceSub, Int.reduceToNat, Int.reduceEq, D.int.injEq, D.bl.injEq, Bool.false_eq, Bool.not_eq_eq_eq_not, true_or, or_true, false_or, or_false, Bool.and_false, Bool.false_and, List.map_id']
    rw [wp_seq]
    simp only [wp_row1, FinK_nx, FinK_ret, FinK_exc, Nxt_nx, Nxt_ret, Nxt_brk, Nxt_cnt, Nxt_exc, wpE_ok, wpE_exc, wpE_bad, wpL_ok, wpI_ok, wpO_ok, wpF_ok, wpF_exc, wpS_nx, wpS_ret, wpS_brk, wpS_cnt, wpS_exc, wpS_bad, wpB_bl, wp_v0sh, wp_v0ow, wp_v1sh, wp_v1ow, wp_v2sh, wp_v2ow, wp_v3sh, wp_v3ow, wp_v4sh, wp_v4ow, wp_v5sh, wp_v5ow, wp_v6sh, wp_v6ow, wp_v7sh, wp_v7ow, wp_v8sh, wp_v8ow, wp_v9sh, wp_v9ow, wp_v10sh, wp_v10ow, wp_v11sh, wp_v11ow, wp_v12sh, wp_v12ow, wp_v13sh, wp_v13ow, wp_v14sh, wp_v14ow, wp_v15sh, wp_v15ow, wp_v16sh, wp_v16ow, wp_v17sh, wp_v17ow, wp_v18sh, wp_v18ow, wp_v19sh, wp_v19ow, wp_v20sh, wp_v20ow, wp_v21sh, wp_v21ow, wp_v22sh, wp_v22ow, wp_v23sh, wp_v23ow, wp_v24sh, wp_v24ow, wp_v25sh, wp_v25ow, wp_c, wp_op2, wp_op1, wp_and, wp_or, wp_not, wp_if, wp_chain, wp_nil, wp_cons, wp_tup, wp_lst, wp_callB, wp_call1, wp_call2, wp_callD, wp_sl, wp_noPart, wpInt_int, wp_part, wpStr_str, wp_m1, wp_next, wp_brk, wp_cnt, wp_never, wp_asg, wp_asgO, wp_drop, wp_ret, wp_ifS, wp_asgT, wp_app, wp_clear, wp_clrFor, wp_thru, wp_iter, wp_rng1, wp_rng2, wp_enum, wp_zip, one1_1, one2_2, wp_rng1V, wp_rng2V, wp_enumV, wp_zipT, wp_zipLL, wp_add, wp_sub, wp_mul, wp_fdiv, wp_mod, wp_pow, wp_lt, wp_le, wp_gt, wp_ge, wp_eqI, wp_neI, wp_eqS, wp_neS, SX.S_len, S_cps, wp_ixT, atI_0, atI_1, atI_2, wp_lenL, wp_lenT, wp_lenN, wp_lenS, wp_tupL, wp_tupT, wp_lstL, wp_lstT, wp_intI, wp_intB, wpT_name, wpT_tup, wpT_cons, wpT_nil, ownL, List.getElem?_cons_zero, List.getElem?_cons_succ, List.set_cons_zero, List.set_cons_succ, List.length_cons, List.length_nil, List.map_cons, List.map_nil, plainL, wipeD, reduceCtorEq, if_true, if_false, decide_true, decide_false, decide_eq_true_eq, Bool.and_true, Bool.true_and, Bool.not_true, Bool.not_false, Bool.not_eq_true', decide_eq_false_iff_not, Bool.false_eq_true, not_true_eq_false, not_false_eq_true, ne_eq, eq_self, and_self, and_true, true_and, D.imm, immL, kidsImm, Option.some.injEq, exists_eq_left', Nat.zero_add, Nat.reduceAdd, Nat.reduceLeDiff, Nat.reduceLT, Int.reduceLT, Int.reduceLE, Int.reduceNeg, Int.reducePow, Int.reduceAdd, Int.reduceMul, Int.reduceSub, Int.reduceToNat, Int.reduceEq, D.int.injEq, D.bl.injEq, Bool.false_eq, Bool.not_eq_eq_eq_not, true_or, or_true, false_or, or_false, Bool.and_false, Bool.false_and]
    have e4 := rowof_eq hp hc hcl ok (by decide) (by decide) hps
    rw [wp_seq]
    simp only [FinK_nx, FinK_ret, FinK_exc, Nxt_nx, Nxt_ret, Nxt_brk, Nxt_cnt, Nxt_exc, wpE_ok, wpE_exc, wpE_bad, wpL_ok, wpI_ok, wpO_ok, wpF_ok, wpF_exc, wpS_nx, wpS_ret, wpS_brk, wpS_cnt, wpS_exc, wpS_bad, wpB_bl, wp_v0sh, wp_v0ow, wp_v1sh, wp_v1ow, wp_v2sh, wp_v2ow, wp_v3sh, wp_v3ow, wp_v4sh, wp_v4ow, wp_v5sh, wp_v5ow, wp_v6sh, wp_v6ow, wp_v7sh, wp_v7ow, wp_v8sh, wp_v8ow, wp_v9sh, wp_v9ow, wp_v10sh, wp_v10ow, wp_v11sh, wp_v11ow, wp_v12sh, wp_v12ow, wp_v13sh, wp_v13ow, wp_v14sh, wp_v14ow, wp_v15sh, wp_v15ow, wp_v16sh, wp_v16ow, wp_v17sh, wp_v17ow, wp_v18sh, wp_v18ow, wp_v19sh, wp_v19ow, wp_v20sh, wp_v20ow, wp_v21sh, wp_v21ow, wp_v22sh, wp_v22ow, wp_v23sh, wp_v23ow, wp_v24sh, wp_v24ow, wp_v25sh, wp_v25ow, wp_c, wp_op2, wp_op1, wp_and, wp_or, wp_not, wp_if, wp_chain, wp_nil, wp_cons, wp_tup, wp_lst, wp_callB, wp_call1, wp_call2, wp_callD, wp_sl, wp_noPart, wpInt_int, wp_part, wpStr_str, wp_m1, wp_next, wp_brk, wp_cnt, wp_never, wp_asg, wp_asgO, wp_drop, wp_ret, wp_ifS, wp_asgT, wp_app, wp_clear, wp_clrFor, wp_thru, wp_iter, wp_rng1, wp_rng2, wp_enum, wp_zip, one1_1, one2_2, wp_rng1V, wp_rng2V, wp_enumV, wp_zipT, wp_zipLL, wp_add, wp_sub, wp_mul, wp_fdiv, wp_mod, wp_pow, wp_lt, wp_le, wp_gt, wp_ge, wp_eqI, wp_neI, wp_eqS, wp_neS, SX.S_len, S_cps, wp_ixT, atI_0, atI_1, atI_2, wp_lenL, wp_lenT, wp_lenN, wp_lenS, wp_tupL, wp_tupT, wp_lstL, wp_lstT, wp_intI, wp_intB, wpT_name, wpT_tup, wpT_cons, wpT_nil, ownL, List.getElem?_cons_zero, List.getElem?_cons_succ, List.set_cons_zero, List.set_cons_succ, List.length_cons, List.length_nil, List.map_cons, List.map_nil, plainL, wipeD, reduceCtorEq, if_true, if_false, decide_true, decide_false, decide_eq_true_eq, Bool.and_true, Bool.true_and, Bool.not_true, Bool.not_false, Bool.not_eq_true', decide_eq_false_iff_not, Bool.false_eq_true, not_true_eq_false, not_false_eq_true, ne_eq, eq_self, and_self, and_true, true_and, D.imm, immL, kidsImm, Option.some.injEq, exists_eq_left', Nat.zero_add, Nat.reduceAdd, Nat.reduceLeDiff, Nat.reduceLT, Int.reduceLT, Int.reduceLE, Int.reduceNeg, Int.reducePow, Int.reduceAdd, Int.reduceMul, Int.reduceSub, Int.reduceToNat, Int.reduceEq, D.int.injEq, D.bl.injEq, Bool.false_eq, Bool.not_eq_eq_eq_not, true_or, or_true, false_or, or_false, Bool.and_false, Bool.false_and, e4, imm_row]
    have hpkw : D.pk 20 (.lst (ws.map .int)) = true := by
      simp only [D.pk]
      exact pk_ints _ _
    rw [wp_seq]
    simp only [FinK_nx, FinK_ret, FinK_exc, Nxt_nx, Nxt_ret, Nxt_brk, Nxt_cnt, Nxt_exc, wpE_ok, wpE_exc, wpE_bad, wpL_ok, wpI_ok, wpO_ok, wpF_ok, wpF_exc, wpS_nx, wpS_ret, wpS_brk, wpS_cnt, wpS_exc, wpS_bad, wpB_bl, wp_v0sh, wp_v0ow, wp_v1sh, wp_v1ow, wp_v2sh, wp_v2ow, wp_v3sh, wp_v3ow, wp_v4sh, wp_v4ow, wp_v5sh, wp_v5ow, wp_v6sh, wp_v6ow, wp_v7sh, wp_v7ow, wp_v8sh, wp_v8ow, wp_v9sh, wp_v9ow, wp_v10sh, wp_v10ow, wp_v11sh, wp_v11ow, wp_v12sh, wp_v12ow, wp_v13sh, wp_v13ow, wp_v14sh, wp_v14ow, wp_v15sh, wp_v15ow, wp_v16sh, wp_v16ow, wp_v17sh, wp_v17ow, wp_v18sh, wp_v18ow, wp_v19sh, wp_v19ow, wp_v20sh, wp_v20ow, wp_v21sh, wp_v21ow, wp_v22sh, wp_v22ow, wp_v23sh, wp_v23ow, wp_v24sh, wp_v24ow, wp_v25sh, wp_v25ow, wp_c, wp_op2, wp_op1, wp_and, wp_or, wp_not, wp_if, wp_chain, wp_nil, wp_cons, wp_tup, wp_lst, wp_callB, wp_call1, wp_call2, wp_callD, wp_sl, wp_noPart, wpInt_int, wp_part, wpStr_str, wp_m1, wp_next, wp_brk, wp_cnt, wp_never, wp_asg, wp_asgO, wp_drop, wp_ret, wp_ifS, wp_asgT, wp_app, wp_clear, wp_clrFor, wp_thru, wp_iter, wp_rng1, wp_rng2, wp_enum, wp_zip, one1_1, one2_2, wp_rng1V, wp_rng2V, wp_enumV, wp_zipT, wp_zipLL, wp_add, wp_sub, wp_mul, wp_fdiv, wp_mod, wp_pow, wp_lt, wp_le, wp_gt, wp_ge, wp_eqI, wp_neI, wp_eqS, wp_neS, SX.S_len, S_cps, wp_ixT, atI_0, atI_1, atI_2, wp_lenL, wp_lenT, wp_lenN, wp_lenS, wp_tupL, wp_tupT, wp_lstL, wp_lstT, wp_intI, wp_intB, wpT_name, wpT_tup, wpT_cons, wpT_nil, ownL, List.getElem?_cons_zero, List.getElem?_cons_succ, List.set_cons_zero, List.set_cons_succ, List.length_cons, List.length_nil, List.map_cons, List.map_nil, plainL, wipeD, reduceCtorEq, if_true, if_false, decide_true, decide_false, decide_eq_true_eq, Bool.and_true, Bool.true_and, Bool.not_true, Bool.not_false, Bool.not_eq_true', decide_eq_false_iff_not, Bool.false_eq_true, not_true_eq_false, not_false_eq_true, ne_eq, eq_self, and_self, and_true, true_and, D.imm, immL, kidsImm, Option.some.injEq, exists_eq_left', Nat.zero_add, Nat.reduceAdd, Nat.reduceLeDiff, Nat.reduceLT, Int.reduceLT, Int.reduceLE, Int.reduceNeg, Int.reducePow, Int.reduceAdd, Int.reduceMul, Int.reduceSub, Int.reduceToNat, Int.reduceEq, D.int.injEq, D.bl.injEq, Bool.false_eq, Bool.not_eq_eq_eq_not, true_or, or_true, false_or, or_false, Bool.and_false, Bool.false_and, wp_row1, wp_neR _ hpk, wp_neR _ hpkw]
    rw [wp_seq]
    simp only [FinK_nx, FinK_ret, FinK_exc, Nxt_nx, Nxt_ret, Nxt_brk, Nxt_cnt, Nxt_exc, wpE_ok, wpE_exc, wpE_bad, wpL_ok, wpI_ok, wpO_ok, wpF_ok, wpF_exc, wpS_nx, wpS_ret, wpS_brk, wpS_cnt, wpS_exc, wpS_bad, wpB_bl, wp_v0sh, wp_v0ow, wp_v1sh, wp_v1ow, wp_v2sh, wp_v2ow, wp_v3sh, wp_v3ow, wp_v4sh, wp_v4ow, wp_v5sh, wp_v5ow, wp_v6sh, wp_v6ow, wp_v7sh, wp_v7ow, wp_v8sh, wp_v8ow, wp_v9sh, wp_v9ow, wp_v10sh, wp_v10ow, wp_v11sh, wp_v11ow, wp_v12sh, wp_v12ow, wp_v13sh, wp_v13ow, wp_v14sh, wp_v14ow, wp_v15sh, wp_v15ow, wp_v16sh, wp_v16ow, wp_v17sh, wp_v17ow, wp_v18sh, wp_v18ow, wp_v19sh, wp_v19ow, wp_v20sh, wp_v20ow, wp_v21sh, wp_v21ow, wp_v22sh, wp_v22ow, wp_v23sh, wp_v23ow, wp_v24sh, wp_v24ow, wp_v25sh, wp_v25ow, wp_c, wp_op2, wp_op1, wp_and, wp_or, wp_not, wp_if, wp_chain, wp_nil, wp_cons, wp_tup, wp_lst, wp_callB, wp_call1, wp_call2, wp_callD, wp_sl, wp_noPart, wpInt_int, wp_part, wpStr_str, wp_m1, wp_next, wp_brk, wp_cnt, wp_never, wp_asg, wp_asgO, wp_drop, wp_ret, wp_ifS, wp_asgT, wp_app, wp_clear, wp_clrFor, wp_thru, wp_iter, wp_rng1, wp_rng2, wp_enum, wp_zip, one1_1, one2_2, wp_rng1V, wp_rng2V, wp_enumV, wp_zipT, wp_zipLL, wp_add, wp_sub, wp_mul, wp_fdiv, wp_mod, wp_pow, wp_lt, wp_le, wp_gt, wp_ge, wp_eqI, wp_neI, wp_eqS, wp_neS, SX.S_len, S_cps, wp_ixT, atI_0, atI_1, atI_2, wp_lenL, wp_lenT, wp_lenN, wp_lenS, wp_tupL, wp_tupT, wp_lstL, wp_lstT, wp_intI, wp_intB, wpT_name, wpT_tup, wpT_cons, wpT_nil, ownL, List.getElem?_cons_zero, List.getElem?_cons_succ, List.set_cons_zero, List.set_cons_succ, List.length_cons, List.length_nil, List.map_cons, List.map_nil, plainL, wipeD, reduceCtorEq, if_true, if_false, decide_true, decide_false, decide_eq_true_eq, Bool.and_true, Bool.true_and, Bool.not_true, Bool.not_false, Bool.not_eq_true', decide_eq_false_iff_not, Bool.false_eq_true, not_true_eq_false, not_false_eq_true, ne_eq, eq_self, and_self, and_true, true_and, D.imm, immL, kidsImm, Option.some.injEq, exists_eq_left', Nat.zero_add, Nat.reduceAdd, Nat.reduceLeDiff, Nat.reduceLT, Int.reduceLT, Int.reduceLE, Int.reduceNeg, Int.reducePow, Int.reduceAdd, Int.reduceMul, Int.reduceSub, Int.reduceToNat, Int.reduceEq, D.int.injEq, D.bl.injEq, Bool.false_eq, Bool.not_eq_eq_eq_not, true_or, or_true, false_or, or_false, Bool.and_false, Bool.false_and]
    rw [wp_seq]
    simp only [FinK_nx, FinK_ret, FinK_exc, Nxt_nx, Nxt_ret, Nxt_brk, Nxt_cnt, Nxt_exc, wpE_ok, wpE_exc, wpE_bad, wpL_ok, wpI_ok, wpO_ok, wpF_ok, wpF_exc, wpS_nx, wpS_ret, wpS_brk, wpS_cnt, wpS_exc, wpS_bad, wpB_bl, wp_v0sh, wp_v0ow, wp_v1sh, wp_v1ow, wp_v2sh, wp_v2ow, wp_v3sh, wp_v3ow, wp_v4sh, wp_v4ow, wp_v5sh, wp_v5ow, wp_v6sh, wp_v6ow, wp_v7sh, wp_v7ow, wp_v8sh, wp_v8ow, wp_v9sh, wp_v9ow, wp_v10sh, wp_v10ow, wp_v11sh, wp_v11ow, wp_v12sh, wp_v12ow, wp_v13sh, wp_v13ow, wp_v14sh, wp_v14ow, wp_v15sh, wp_v15ow, wp_v16sh, wp_v16ow, wp_v17sh, wp_v17ow, wp_v18sh, wp_v18ow, wp_v19sh, wp_v19ow, wp_v20sh, wp_v20ow, wp_v21sh, wp_v21ow, wp_v22sh, wp_v22ow, wp_v23sh, wp_v23ow, wp_v24sh, wp_v24ow, wp_v25sh, wp_v25ow, wp_c, wp_op2, wp_op1, wp_and, wp_or, wp_not, wp_if, wp_chain, wp_nil, wp_cons, wp_tup, wp_lst, wp_callB, wp_call1, wp_call2, wp_callD, wp_sl, wp_noPart, wpInt_int, wp_part, wpStr_str, wp_m1, wp_next, wp_brk, wp_cnt, wp_never, wp_asg, wp_asgO, wp_drop, wp_ret, wp_ifS, wp_asgT, wp_app, wp_clear, wp_clrFor, wp_thru, wp_iter, wp_rng1, wp_rng2, wp_enum, wp_zip, one1_1, one2_2, wp_rng1V, wp_rng2V, wp_enumV, wp_zipT, wp_zipLL, wp_add, wp_sub, wp_mul, wp_fdiv, wp_mod, wp_pow, wp_lt, wp_le, wp_gt, wp_ge, wp_eqI, wp_neI, wp_eqS, wp_neS, SX.S_len, S_cps, wp_ixT, atI_0, atI_1, atI_2, wp_lenL, wp_lenT, wp_lenN, wp_lenS, wp_tupL, wp_tupT, wp_lstL, wp_lstT, wp_intI, wp_intB, wpT_name, wpT_tup, wpT_cons, wpT_nil, ownL, List.getElem?_cons_zero, List.getElem?_cons_succ, List.set_cons_zero, List.set_cons_succ, List.length_cons, List.length_nil, List.map_cons, List.map_nil, plainL, wipeD, reduceCtorEq, if_true, if_false, decide_true, decide_false, decide_eq_true_eq, Bool.and_true, Bool.true_and, Bool.not_true, Bool.not_false, Bool.not_eq_true', decide_eq_false_iff_not, Bool.false_eq_true, not_true_eq_false, not_false_eq_true, ne_eq, eq_self, and_self, and_true, true_and, D.imm, immL, kidsImm, Option.some.injEq, exists_eq_left', Nat.zero_add, Nat.reduceAdd, Nat.reduceLeDiff, Nat.reduceLT, Int.reduceLT, Int.reduceLE, Int.reduceNeg, Int.reducePow, Int.reduceAdd, Int.reduceMul, Int.reduceSub, Int.reduceToNat, Int.reduceEq, D.int.injEq, D.bl.injEq, Bool.false_eq, Bool.not_eq_eq_eq_not, true_or, or_true, false_or, or_false, Bool.and_false, Bool.false_and]
    refine ⟨⟨?_, by decide⟩, ?_⟩
    · refine List.all_eq_true.mpr fun d hd => ?_
      obtain ⟨x, hx, rfl⟩ := List.mem_map.mp hd
      rfl
    have hsh : pois (.sh (.lst (ps.map (pairE p)))) = .no := pois_f rfl
    have hsi : ∀ i : Int, pois (.sh (.int i)) = .sh (.int i) := fun _ => pois_t rfl
    have hsn : pois (.sh (.scr ns)) = .sh (.scr ns) := pois_t rfl
    have hss : ∀ x : Str, pois (.sh (.str x)) = .sh (.str x) := fun _ => pois_t rfl
    have hso : pois (.ow (.lst [])) = .ow (.lst []) := pois_o rfl
    generalize hop : pois (.ow (.lst (ps.map (pairE p)))) = op
    have hrw := pois_t (imm_row p ws as)
    rw [wp_seq]
    have e5 := isrow_eq (by decide) hc ok
    have e6 := waysof_eq hcl ok
    simp only [poisE, hop, hsh, hsi, hsn, hss, hso, hrw, pois_n, FinK_nx, FinK_ret, FinK_exc, Nxt_nx, Nxt_ret, Nxt_brk, Nxt_cnt, Nxt_exc, wpE_ok, wpE_exc, wpE_bad, wpL_ok, wpI_ok, wpO_ok, wpF_ok, wpF_exc, wpS_nx, wpS_ret, wpS_brk, wpS_cnt, wpS_exc, wpS_bad, wpB_bl, wp_v0sh, wp_v0ow, wp_v1sh, wp_v1ow, wp_v2sh, wp_v2ow, wp_v3sh, wp_v3ow, wp_v4sh, wp_v4ow, wp_v5sh, wp_v5ow, wp_v6sh, wp_v6ow, wp_v7sh, wp_v7ow, wp_v8sh, wp_v8ow, wp_v9sh, wp_v9ow, wp_v10sh, wp_v10ow, wp_v11sh, wp_v11ow, wp_v12sh, wp_v12ow, wp_v13sh, wp_v13ow, wp_v14sh, wp_v14ow, wp_v15sh, wp_v15ow, wp_v16sh, wp_v16ow, wp_v17sh, wp_v17ow, wp_v18sh, wp_v18ow, wp_v19sh, wp_v19ow, wp_v20sh, wp_v20ow, wp_v21sh, wp_v21ow, wp_v22sh, wp_v22ow, wp_v23sh, wp_v23ow, wp_v24sh, wp_v24ow, wp_v25sh, wp_v25ow, wp_c, wp_op2, wp_op1, wp_and, wp_or, wp_not, wp_if, wp_chain, wp_nil, wp_cons, wp_tup, wp_lst, wp_callB, wp_call1, wp_call2, wp_callD, wp_sl, wp_noPart, wpInt_int, wp_part, wpStr_str, wp_m1, wp_next, wp_brk, wp_cnt, wp_never, wp_asg, wp_asgO, wp_drop, wp_ret, wp_ifS, wp_asgT, wp_app, wp_clear, wp_clrFor, wp_thru, wp_iter, wp_rng1, wp_rng2, wp_enum, wp_zip, one1_1, one2_2, wp_rng1V, wp_rng2V, wp_enumV, wp_zipT, wp_zipLL, wp_add, wp_sub, wp_mul, wp_fdiv, wp_mod, wp_pow, wp_lt, wp_le, wp_gt, wp_ge, wp_eqI, wp_neI, wp_eqS, wp_neS, SX.S_len, S_cps, wp_ixT, atI_0, atI_1, atI_2, wp_lenL, wp_lenT, wp_lenN, wp_lenS, wp_tupL, wp_tupT, wp_lstL, wp_lstT, wp_intI, wp_intB, wpT_name, wpT_tup, wpT_cons, wpT_nil, ownL, List.getElem?_cons_zero, List.getElem?_cons_succ, List.set_cons_zero, List.set_cons_succ, List.length_cons, List.length_nil, List.map_cons, List.map_nil, plainL, wipeD, reduceCtorEq, if_true, if_false, decide_true, decide_false, decide_eq_true_eq, Bool.and_true, Bool.true_and, Bool.not_true, Bool.not_false, Bool.not_eq_true', decide_eq_false_iff_not, Bool.false_eq_true, not_true_eq_false, not_false_eq_true, ne_eq, eq_self, and_self, and_true, true_and, D.imm, immL, kidsImm, Option.some.injEq, exists_eq_left', Nat.zero_add, Nat.reduceAdd, Nat.reduceLeDiff, Nat.reduceLT, Int.reduceLT, Int.reduceLE, Int.reduceNeg, Int.reducePow, Int.reduceAdd, Int.reduceMul, Int.reduceSub, Int.reduceToNat, Int.reduceEq, D.int.injEq, D.bl.injEq, Bool.false_eq, Bool.not_eq_eq_eq_not, true_or, or_true, false_or, or_false, Bool.and_false, Bool.false_and, e5, e6, wp_isS]
    refine ⟨sOk hc, ?_⟩
    obtain ⟨cs2, hcl2, hc2, e7⟩ := ways_ex (mixV ns 59) (nn 59 (by decide) (by decide))
    rw [wp_seq]
    simp only [FinK_nx, FinK_ret, FinK_exc, Nxt_nx, Nxt_ret, Nxt_brk, Nxt_cnt, Nxt_exc, wpE_ok, wpE_exc, wpE_bad, wpL_ok, wpI_ok, wpO_ok, wpF_ok, wpF_exc, wpS_nx, wpS_ret, wpS_brk, wpS_cnt, wpS_exc, wpS_bad, wpB_bl, wp_v0sh, wp_v0ow, wp_v1sh, wp_v1ow, wp_v2sh, wp_v2ow, wp_v3sh, wp_v3ow, wp_v4sh, wp_v4ow, wp_v5sh, wp_v5ow, wp_v6sh, wp_v6ow, wp_v7sh, wp_v7ow, wp_v8sh, wp_v8ow, wp_v9sh, wp_v9ow, wp_v10sh, wp_v10ow, wp_v11sh, wp_v11ow, wp_v12sh, wp_v12ow, wp_v13sh, wp_v13ow, wp_v14sh, wp_v14ow, wp_v15sh, wp_v15ow, wp_v16sh, wp_v16ow, wp_v17sh, wp_v17ow, wp_v18sh, wp_v18ow, wp_v19sh, wp_v19ow, wp_v20sh, wp_v20ow, wp_v21sh, wp_v21ow, wp_v22sh, wp_v22ow, wp_v23sh, wp_v23ow, wp_v24sh, wp_v24ow, wp_v25sh, wp_v25ow, wp_c, wp_op2, wp_op1, wp_and, wp_or, wp_not, wp_if, wp_chain, wp_nil, wp_cons, wp_tup, wp_lst, wp_callB, wp_call1, wp_call2, wp_callD, wp_sl, wp_noPart, wpInt_int, wp_part, wpStr_str, wp_m1, wp_next, wp_brk, wp_cnt, wp_never, wp_asg, wp_asgO, wp_drop, wp_ret, wp_ifS, wp_asgT, wp_app, wp_clear, wp_clrFor, wp_thru, wp_iter, wp_rng1, wp_rng2, wp_enum, wp_zip, one1_1, one2_2, wp_rng1V, wp_rng2V, wp_enumV, wp_zipT, wp_zipLL, wp_add, wp_sub, wp_mul, wp_fdiv, wp_mod, wp_pow, wp_lt, wp_le, wp_gt, wp_ge, wp_eqI, wp_neI, wp_eqS, wp_neS, SX.S_len, S_cps, wp_ixT, atI_0, atI_1, atI_2, wp_lenL, wp_lenT, wp_lenN, wp_lenS, wp_tupL, wp_tupT, wp_lstL, wp_lstT, wp_intI, wp_intB, wpT_name, wpT_tup, wpT_cons, wpT_nil, ownL, List.getElem?_cons_zero, List.getElem?_cons_succ, List.set_cons_zero, List.set_cons_succ, List.length_cons, List.length_nil, List.map_cons, List.map_nil, plainL, wipeD, reduceCtorEq, if_true, if_false, decide_true, decide_false, decide_eq_true_eq, Bool.and_true, Bool.true_and, Bool.not_true, Bool.not_false, Bool.not_eq_true', decide_eq_false_iff_not, Bool.false_eq_true, not_true_eq_false, not_false_eq_true, ne_eq, eq_self, and_self, and_true, true_and, D.imm, immL, kidsImm, Option.some.injEq, exists_eq_left', Nat.zero_add, Nat.reduceAdd, Nat.reduceLeDiff, Nat.reduceLT, Int.reduceLT, Int.reduceLE, Int.reduceNeg, Int.reducePow, Int.reduceAdd, Int.reduceMul, Int.reduceSub, Int.reduceToNat, Int.reduceEq, D.int.injEq, D.bl.injEq, Bool.false_eq, Bool.not_eq_eq_eq_not, true_or, or_true, false_or, or_false, Bool.and_false, Bool.false_and, mx 59 (by decide) (by decide), e7]
    rw [wp_seq]
    simp only [FinK_nx, FinK_ret, FinK_exc, Nxt_nx, Nxt_ret, Nxt_brk, Nxt_cnt, Nxt_exc, wpE_ok, wpE_exc, wpE_bad, wpL_ok, wpI_ok, wpO_ok, wpF_ok, wpF_exc, wpS_nx, wpS_ret, wpS_brk, wpS_cnt, wpS_exc, wpS_bad, wpB_bl, wp_v0sh, wp_v0ow, wp_v1sh, wp_v1ow, wp_v2sh, wp_v2ow, wp_v3sh, wp_v3ow, wp_v4sh, wp_v4ow, wp_v5sh, wp_v5ow, wp_v6sh, wp_v6ow, wp_v7sh, wp_v7ow, wp_v8sh, wp_v8ow, wp_v9sh, wp_v9ow, wp_v10sh, wp_v10ow, wp_v11sh, wp_v11ow, wp_v12sh, wp_v12ow, wp_v13sh, wp_v13ow, wp_v14sh, wp_v14ow, wp_v15sh, wp_v15ow, wp_v16sh, wp_v16ow, wp_v17sh, wp_v17ow, wp_v18sh, wp_v18ow, wp_v19sh, wp_v19ow, wp_v20sh, wp_v20ow, wp_v21sh, wp_v21ow, wp_v22sh, wp_v22ow, wp_v23sh, wp_v23ow, wp_v24sh, wp_v24ow, wp_v25sh, wp_v25ow, wp_c, wp_op2, wp_op1, wp_and, wp_or, wp_not, wp_if, wp_chain, wp_nil, wp_cons, wp_tup, wp_lst, wp_callB, wp_call1, wp_call2, wp_callD, wp_sl, wp_noPart, wpInt_int, wp_part, wpStr_str, wp_m1, wp_next, wp_brk, wp_cnt, wp_never, wp_asg, wp_asgO, wp_drop, wp_ret, wp_ifS, wp_asgT, wp_app, wp_clear, wp_clrFor, wp_thru, wp_iter, wp_rng1, wp_rng2, wp_enum, wp_zip, one1_1, one2_2, wp_rng1V, wp_rng2V, wp_enumV, wp_zipT, wp_zipLL, wp_add, wp_sub, wp_mul, wp_fdiv, wp_mod, wp_pow, wp_lt, wp_le, wp_gt, wp_ge, wp_eqI, wp_neI, wp_eqS, wp_neS, SX.S_len, S_cps, wp_ixT, atI_0, atI_1, atI_2, wp_lenL, wp_lenT, wp_lenN, wp_lenS, wp_tupL, wp_tupT, wp_lstL, wp_lstT, wp_intI, wp_intB, wpT_name, wpT_tup, wpT_cons, wpT_nil, ownL, List.getElem?_cons_zero, List.getElem?_cons_succ, List.set_cons_zero, List.set_cons_succ, List.length_cons, List.length_nil, List.map_cons, List.map_nil, plainL, wipeD, reduceCtorEq, if_true, if_false, decide_true, decide_false, decide_eq_true_eq, Bool.and_true, Bool.true_and, Bool.not_true, Bool.not_false, Bool.not_eq_true', decide_eq_false_iff_not, Bool.false_eq_true, not_true_eq_false, not_false_eq_true, ne_eq, eq_self, and_self, and_true, true_and, D.imm, immL, kidsImm, Option.some.injEq, exists_eq_left', Nat.zero_add, Nat.reduceAdd, Nat.reduceLeDiff, Nat.reduceLT, Int.reduceLT, Int.reduceLE, Int.reduceNeg, Int.reducePow, Int.reduceAdd, Int.reduceMul, Int.reduceSub, Int.reduceToNat, Int.reduceEq, D.int.injEq, D.bl.injEq, Bool.false_eq, Bool.not_eq_eq_eq_not, true_or, or_true, false_or, or_false, Bool.and_false, Bool.false_and, mx 59 (by decide) (by decide)]
    split
    · exact law_tail hn hp hcl hc hcl hc ok op
    · exact law_tail hn hp hcl hc hcl2 hc2 ok op
  obtain ⟨c, d, e, rfl⟩ := wpF_ex main
  exact ⟨c, e⟩
end My
end

namespace My
open PySem PySem.Spec PyProof.Rows L2 VL
theorem all_law {P : Program} {w : World} {K : PySem.W.Frag} {mg : Str → Option Value} {base : Heap} {f : Addr} {fd : FuncData} (C : Cfx fa fn exB K mg) (F : FunD K d_law.name d_law.qual d_law.params d_law.body d_law.scope [] [] f fd) : FnOk P w K mg base (L2N.CX P w) 5 f fd ["_law_script"] (spL K den_law) := by
  have F_law_ways : HasF P w K mg base 1 "_law_ways" ["_law_cell"] den_law_ways := has_law_ways C 
  have F_law_mix : HasF P w K mg base 1 "_law_mix" ["_law_script", "_law_k"] den_law_mix := has_law_mix C 
  have F_law_table : HasF P w K mg base 2 "_law_table" ["_law_script", "_law_at", "_law_p", "_law_high", "_law_wide"] den_law_table := has_law_table C F_law_mix
  have F_law_row : HasF P w K mg base 3 "_law_row" ["_law_script", "_law_at", "_law_p", "_law_ways_here", "_law_most"] den_law_row := has_law_row C F_law_mix F_law_table
  have F_law_handed : HasF P w K mg base 2 "_law_handed" ["_law_script", "_law_row_here"] den_law_handed := has_law_handed C F_law_mix
  have F_look_at_widths : HasF P w K mg base 1 "look_at_widths" ["widths"] den_look_at_widths := has_look_at_widths C 
  have F_size_at : HasF P w K mg base 1 "size_at" ["widths", "k", "way"] den_size_at := has_size_at C 
  have F_table_of : HasF P w K mg base 1 "table_of" ["p", "high", "wide", "rows"] den_table_of := has_table_of C 
  have F_arrow_of : HasF P w K mg base 2 "arrow_of" ["p", "widths", "k", "pair"] den_arrow_of := has_arrow_of C F_size_at F_table_of
  have F_row_of : HasF P w K mg base 3 "row_of" ["p", "widths", "arrows"] den_row_of := has_row_of C F_look_at_widths F_arrow_of
  have F_law_truth : HasF P w K mg base 1 "_law_truth" ["_law_found", "_law_due"] den_law_truth := has_law_truth C 
  have F_law_whole : HasF P w K mg base 1 "_law_whole" ["_law_found"] den_law_whole := has_law_whole C 
  have F_law_rests : HasF P w K mg base 2 "_law_rests" ["_law_found", "_law_due"] den_law_rests := has_law_rests C F_law_whole
  have F_law_is_table : HasF P w K mg base 3 "_law_is_table" ["_law_found", "_law_due"] den_law_is_table := has_law_is_table C F_law_whole F_law_rests
  have F_law_is_row : HasF P w K mg base 4 "_law_is_row" ["_law_found", "_law_due"] den_law_is_row := has_law_is_row C F_law_whole F_law_rests F_law_is_table
  have F_ways_of : HasF P w K mg base 1 "ways_of" ["row"] den_ways_of := has_ways_of C 
  have F_one_kind : HasF P w K mg base 2 "one_kind" ["one", "other"] den_one_kind := has_one_kind C F_ways_of
  exact fn_law_ C F_law_mix F_law_ways F_law_row F_law_handed F_row_of F_law_is_row F_ways_of F_one_kind F_law_truth F
end My
open PySem PySem.W PySem.Calls PyProof.Rows
theorem PySem.Challenge.cw_barsplit_k10_rows_made_holds : PySem.Challenge.rw_barsplit_k10_rows_made.Holds := by
  w_on; o_law
  refine HandSHeadRun.head_any (r := OpenLaw.row PySem.Challenge.rw_barsplit_k10_rows_made) (q := view (OpenLaw.row PySem.Challenge.rw_barsplit_k10_rows_made).prog [31]) (H := My.hk) (ob := My.ob) (M := 40000) (loose := My.loose) (d := HandSHeadRun.topDef (OpenLaw.row PySem.Challenge.rw_barsplit_k10_rows_made).prog 31) (kwd := []) My.ob_eq
    (by kernel_rfl) (fun s => by kernel_rfl) My.run (by kernel_rfl) (by kernel_rfl) (by kernel_rfl) (by rfl) (by first | assumption | decide +kernel) (by decide +kernel) ⟨rfl, rfl, rfl, rfl, rfl, by decide +kernel⟩ ?hw ?hc
  case hw => w_witness2
  case hc =>
    refine VL.walk_ofL (l := PySem.Challenge.rw_barsplit_k10_rows_made) (n := 63) (k := 5) (x := "_law_script") (den := My.den_law) rfl (by decide) (by kernel_rfl) ⟨rfl, by decide, by decide⟩ ?F My.law_true
    intro w mg fa h Y G hmg0
    obtain ⟨K, KX, c⟩ := Y
    have hmg : mg ("law" : PySem.Str) = some (.ref fa) := by
      have e : (HandSHeadRun.topDef (OpenLaw.row PySem.Challenge.rw_barsplit_k10_rows_made).prog 31).name = ("law" : PySem.Str) := by kernel_rfl
      rw [← e]
      exact hmg0
    have C : VL.Cfx My.fa My.fn My.exB K mg := ⟨c, h, KX, G⟩
    obtain ⟨fd, F⟩ := C.fn_ 17 (d := My.d_law) rfl
    have ea : He.ga K "law" = fa := by
      have e1 := C.gl 17 (x := "law") rfl
      rw [hmg] at e1
      injection e1 with e1
      injection e1 with e1
      exact e1.symm
    refine ⟨K, fd, KX, fun s v => L2.FunD.bindsA (ps := ["_law_script"]) F (fun _ _ _ _ _ _ us hl => match us, hl with | [_], _ => rfl) s [v] rfl, fun base _ _ => ?_⟩
    subst ea
    exact My.all_law C F
