import PyProof.Rows.All
import Wide.All
import OpenK.AllK
import Wide.FinOn
import HandS.ForMost
import HandS.ForExc
import HandS.Conv
import HandS.IsInst
import HandS.TupAny
import HandS.SortInts
import HandS.DictComp
import HandS.Zip
import HandS.Style
import KE.KTupSum
import KE.GoesEnum
import PyProof.ReprRoads
import PyProof.ReprLen
import HandS.SetFor
import HandS.Strs
import KE.SortCalls
import PySem.Challenge.RW_putbetween_k15_whole_meets_left_out
set_option Elab.async false
set_option linter.all false
set_option maxRecDepth 100000
set_option maxHeartbeats 4000000
/-! The layer over the layer: tuples by value, what is not named stands. -/
namespace T3
open PySem PySem.Spec PyProof.Rows L2
/-! ### data -/
inductive D where
  | non | bl (b : Bool) | int (i : Int) | str (x : Str) | ref (a : Addr) | ty (n : String) | tup (xs : List D) | kl (a : Addr) (ns : List Int)
mutual
def R (K : PySem.W.Frag) (H : Hp) : D → V → Prop
  | .non, v => v = .non
  | .bl b, v => v = .bl b
  | .int i, v => v = .int i
  | .str x, v => v = .str x
  | .ref a, v => v = .ref a
  | .ty n, v => v = .ty n
  | .kl a ns, v => v = .ref a ∧ ∀ H2, SqL K H2 a (ns.map V.int)
  | .tup ds, v => ∃ a vs, v = .ref a ∧ H a = some (.tup vs) ∧ Rs K H ds vs
def Rs (K : PySem.W.Frag) (H : Hp) : List D → List V → Prop
  | [], vs => vs = []
  | d :: ds, vs => ∃ v us, vs = v :: us ∧ R K H d v ∧ Rs K H ds us
end
/-- every tuple stands -/
def Tx (K : PySem.W.Frag) (H H' : Hp) : Prop := ∀ a xs, H a = some (.tup xs) → H' a = some (.tup xs)
section
variable {K : PySem.W.Frag} {H H' H2 : Hp}
theorem Tx.refl : Tx K H H := fun _ _ h => h
theorem Tx.trans (a : Tx K H H') (b : Tx K H' H2) : Tx K H H2 := fun x xs h => b x xs (a x xs h)
mutual
theorem R.mono (t : Tx K H H') : ∀ {d : D} {v : V}, R K H d v → R K H' d v
  | .non, _, h => by unfold R at h ⊢; exact h
  | .bl _, _, h => by unfold R at h ⊢; exact h
  | .int _, _, h => by unfold R at h ⊢; exact h
  | .str _, _, h => by unfold R at h ⊢; exact h
  | .ref _, _, h => by unfold R at h ⊢; exact h
  | .ty _, _, h => by unfold R at h ⊢; exact h
  | .kl _ _, _, h => by unfold R at h ⊢; exact h
  | .tup ds, v, h => by
    unfold R at h ⊢
    obtain ⟨a, vs, e, s, r⟩ := h
    exact ⟨a, vs, e, t _ _ s, Rs.mono t r⟩
theorem Rs.mono (t : Tx K H H') : ∀ {ds : List D} {vs : List V}, Rs K H ds vs → Rs K H' ds vs
  | [], _, h => h
  | d :: ds, vs, h => by
    unfold Rs at h ⊢
    obtain ⟨v, us, e, r, rs⟩ := h
    exact ⟨v, us, e, R.mono t r, Rs.mono t rs⟩
end
theorem R.tup {ds : List D} {a : Addr} {vs : List V} (h : H a = some (.tup vs)) (r : Rs K H ds vs) : R K H (.tup ds) (.ref a) := by
  unfold R
  exact ⟨a, vs, rfl, h, r⟩
theorem R.untup {ds : List D} {v : V} (h : R K H (.tup ds) v) : ∃ a vs, v = .ref a ∧ H a = some (.tup vs) ∧ Rs K H ds vs := by
  unfold R at h
  exact h
theorem Rs.nil : Rs K H [] [] := by
  unfold Rs
  rfl
theorem Rs.cons {d : D} {v : V} {ds : List D} {vs : List V} (h : R K H d v) (t : Rs K H ds vs) : Rs K H (d :: ds) (v :: vs) := by
  unfold Rs
  exact ⟨v, vs, rfl, h, t⟩
theorem Rs.unil {vs : List V} (h : Rs K H [] vs) : vs = [] := by
  unfold Rs at h
  exact h
theorem Rs.ucons {d : D} {ds : List D} {vs : List V} (h : Rs K H (d :: ds) vs) : ∃ v us, vs = v :: us ∧ R K H d v ∧ Rs K H ds us := by
  unfold Rs at h
  exact h
theorem Rs.len : ∀ {ds : List D} {vs : List V}, Rs K H ds vs → vs.length = ds.length
  | [], _, h => by rw [h.unil]; rfl
  | d :: ds, vs, h => by
    obtain ⟨v, us, rfl, r, rs⟩ := h.ucons
    simp [Rs.len rs]
theorem Rs.get : ∀ {ds : List D} {vs : List V} {i : Nat} {d : D}, Rs K H ds vs → ds[i]? = some d → ∃ v, vs[i]? = some v ∧ R K H d v
  | [], _, _, _, _, e => by simp at e
  | d :: ds, vs, 0, x, h, e => by
    obtain ⟨v, us, rfl, r, rs⟩ := h.ucons
    simp at e; subst e
    exact ⟨v, rfl, r⟩
  | d :: ds, vs, i + 1, x, h, e => by
    obtain ⟨v, us, rfl, r, rs⟩ := h.ucons
    obtain ⟨w, e1, e2⟩ := Rs.get (i := i) rs (by simpa using e)
    exact ⟨w, by simpa using e1, e2⟩
theorem Rs.app : ∀ {ds es : List D} {vs us : List V}, Rs K H ds vs → Rs K H es us → Rs K H (ds ++ es) (vs ++ us)
  | [], _, _, _, h, k => by rw [h.unil]; exact k
  | d :: ds, es, vs, us, h, k => by
    obtain ⟨v, ws, rfl, r, rs⟩ := h.ucons
    exact .cons r (Rs.app rs k)
theorem Rs.one {d : D} {v : V} (h : R K H d v) : Rs K H [d] [v] := .cons h .nil
theorem Rs.set {d : D} {v : V} (r : R K H d v) : ∀ {ds : List D} {vs : List V} (i : Nat), Rs K H ds vs → Rs K H (ds.set i d) (vs.set i v)
  | [], _, i, h => by rw [h.unil]; exact .nil
  | e :: ds, vs, 0, h => by
    obtain ⟨w, us, rfl, _, rs⟩ := h.ucons
    exact .cons r rs
  | e :: ds, vs, i + 1, h => by
    obtain ⟨w, us, rfl, q, rs⟩ := h.ucons
    exact .cons q (Rs.set r i rs)
theorem Rs.take : ∀ {ds : List D} {vs : List V} (n : Nat), Rs K H ds vs → Rs K H (ds.take n) (vs.take n)
  | _, _, 0, _ => .nil
  | [], _, n + 1, h => by rw [h.unil]; exact .nil
  | d :: ds, vs, n + 1, h => by
    obtain ⟨v, us, rfl, r, rs⟩ := h.ucons
    exact .cons r (Rs.take n rs)
theorem Rs.drop : ∀ {ds : List D} {vs : List V} (n : Nat), Rs K H ds vs → Rs K H (ds.drop n) (vs.drop n)
  | _, _, 0, h => h
  | [], _, n + 1, h => by rw [h.unil]; exact .nil
  | d :: ds, vs, n + 1, h => by
    obtain ⟨v, us, rfl, r, rs⟩ := h.ucons
    exact Rs.drop n rs
theorem Rs.erase : ∀ {ds : List D} {vs : List V} (i : Nat), Rs K H ds vs → Rs K H (ds.eraseIdx i) (vs.eraseIdx i)
  | [], _, i, h => by rw [h.unil]; exact .nil
  | d :: ds, vs, 0, h => by
    obtain ⟨v, us, rfl, r, rs⟩ := h.ucons
    exact rs
  | d :: ds, vs, i + 1, h => by
    obtain ⟨v, us, rfl, r, rs⟩ := h.ucons
    exact .cons r (Rs.erase i rs)
theorem Rs.rev {ds : List D} {vs : List V} (h : Rs K H ds vs) : Rs K H ds.reverse vs.reverse := by
  induction ds generalizing vs with
  | nil => rw [h.unil]; exact .nil
  | cons d ds ih =>
    obtain ⟨v, us, rfl, r, rs⟩ := h.ucons
    rw [List.reverse_cons, List.reverse_cons]
    exact (ih rs).app (.one r)
theorem Rs.ints : ∀ {ns : List Int} {vs : List V}, Rs K H (ns.map D.int) vs → vs = ns.map V.int
  | [], _, h => h.unil
  | n :: ns, vs, h => by
    obtain ⟨v, us, rfl, r, rs⟩ := h.ucons
    unfold R at r
    rw [r, Rs.ints rs]
    rfl
theorem Rs.of_ints : ∀ ns : List Int, Rs K H (ns.map D.int) (ns.map V.int)
  | [] => .nil
  | n :: ns => .cons (by unfold R; rfl) (Rs.of_ints ns)
theorem Rs.bls : ∀ {ns : List Bool} {vs : List V}, Rs K H (ns.map D.bl) vs → vs = ns.map V.bl
  | [], _, h => h.unil
  | n :: ns, vs, h => by
    obtain ⟨v, us, rfl, r, rs⟩ := h.ucons
    unfold R at r
    rw [r, Rs.bls rs]
    rfl
theorem Rs.strs : ∀ {ns : List Str} {vs : List V}, Rs K H (ns.map D.str) vs → vs = ns.map V.str
  | [], _, h => h.unil
  | n :: ns, vs, h => by
    obtain ⟨v, us, rfl, r, rs⟩ := h.ucons
    unfold R at r
    rw [r, Rs.strs rs]
    rfl
theorem Rs.of_strs : ∀ ns : List Str, Rs K H (ns.map D.str) (ns.map V.str)
  | [] => .nil
  | n :: ns => .cons (by unfold R; rfl) (Rs.of_strs ns)
theorem R.int' {i : Int} : R K H (.int i) (.int i) := by unfold R; rfl
theorem R.bl' {b : Bool} : R K H (.bl b) (.bl b) := by unfold R; rfl
theorem R.str' {x : Str} : R K H (.str x) (.str x) := by unfold R; rfl
theorem R.non' : R K H .non .non := by unfold R; rfl
theorem R.ref' {a : Addr} : R K H (.ref a) (.ref a) := by unfold R; rfl
theorem R.ty' {n : String} : R K H (.ty n) (.ty n) := by unfold R; rfl
theorem R.int_ {i : Int} {v : V} (h : R K H (.int i) v) : v = .int i := by unfold R at h; exact h
theorem R.bl_ {i : Bool} {v : V} (h : R K H (.bl i) v) : v = .bl i := by unfold R at h; exact h
theorem R.str_ {i : Str} {v : V} (h : R K H (.str i) v) : v = .str i := by unfold R at h; exact h
theorem R.non_ {v : V} (h : R K H .non v) : v = .non := by unfold R at h; exact h
theorem R.ref_ {a : Addr} {v : V} (h : R K H (.ref a) v) : v = .ref a := by unfold R at h; exact h
theorem R.kl_ {a : Addr} {ns : List Int} {v : V} (h : R K H (.kl a ns) v) : v = .ref a ∧ ∀ H2, SqL K H2 a (ns.map V.int) := by unfold R at h; exact h
theorem R.kl' {a : Addr} {ns : List Int} (h : ∀ H2, SqL K H2 a (ns.map V.int)) : R K H (.kl a ns) (.ref a) := by unfold R; exact ⟨rfl, h⟩
theorem R.ty_ {n : String} {v : V} (h : R K H (.ty n) v) : v = .ty n := by unfold R at h; exact h
end
/-! ### the heap of what may change -/
inductive O where
  | lst (xs : List D) | fz (xs : List D)
  | dK (kvs : List (Key × D)) | dKz (kvs : List (Key × D))
  | dT (kvs : List (List Key × D))
  | ext (I : Hp → Prop) (own : List Addr) | own (a : Addr)
abbrev Hd := Addr → Option O
def up (M : Hd) (a : Addr) (o : O) : Hd := fun b => if b = a then some o else M b
theorem up_same {M : Hd} {a : Addr} {o : O} : up M a o a = some o := by unfold up; rw [if_pos rfl]
theorem up_ne {M : Hd} {a b : Addr} {o : O} (h : b ≠ a) : up M a o b = M b := by unfold up; rw [if_neg h]
theorem up_up {M : Hd} {a : Addr} {o u : O} : up (up M a o) a u = up M a u := by funext b; unfold up; split <;> rfl
theorem up_self {M : Hd} {a : Addr} {o : O} (h : M a = some o) : up M a o = M := by
  funext b; unfold up; split
  · rename_i e; rw [e, h]
  · rfl
theorem neM {M : Hd} {a b : Addr} {o : O} (h : M a = some o) (h' : M b = none) : a ≠ b := by
  intro e; subst e; rw [h] at h'; cases h'
/-- not a tuple -/
def NotTup : HO → Prop
  | .tup _ => False
  | .frz _ (.tup _) => False
  | .xd _ => False
  | _ => True
abbrev RK {κ : Type} (K : PySem.W.Frag) (H : Hp) : List (κ × D) → List (κ × V) → Prop := Paired fun p q => p.1 = q.1 ∧ R K H p.2 q.2
theorem RK.mono {κ : Type} {K : PySem.W.Frag} {H H' : Hp} (t : Tx K H H') {kvs : List (κ × D)} {ws : List (κ × V)} (h : RK K H kvs ws) : RK K H' kvs ws :=
  Paired.mapP h fun _ _ q => ⟨q.1, q.2.mono t⟩
def OR (K : PySem.W.Frag) (H : Hp) (M : Hd) (a : Addr) : O → Prop
  | .lst xs => ∃ vs, H a = some (.lst vs) ∧ Rs K H xs vs
  | .fz xs => ∃ ob vs, H a = some (.frz ob (.lst vs)) ∧ Rs K H xs vs
  | .dK kvs => ∃ ws, H a = some (.dK ws) ∧ RK K H kvs ws
  | .dKz kvs => ∃ ob ws, H a = some (.frz ob (.dK ws)) ∧ RK K H kvs ws
  | .dT kvs => ∃ ws, H a = some (.dT ws) ∧ RK K H kvs ws
  | .ext I own => I H ∧ (∃ u, H a = some u ∧ NotTup u) ∧ (∀ b ∈ own, M b = some (.own a)) ∧ ∀ H2, Tx K H H2 → (∀ b u, (b = a ∨ b ∈ own) → H b = some u → H2 b = some u) → I H2
  | .own _ => ∃ u, H a = some u ∧ NotTup u
def Rep (K : PySem.W.Frag) (H : Hp) (M : Hd) : Prop := ∀ a o, M a = some o → OR K H M a o
/-- what is not named stands, and stays unnamed -/
def Go (H : Hp) (M : Hd) (H' : Hp) (M' : Hd) : Prop := ∀ a u, H a = some u → M a = none → H' a = some u ∧ M' a = none
section
variable {K : PySem.W.Frag} {H H' H2 : Hp} {M M' M2 : Hd}
theorem OR.there {a : Addr} {o : O} (h : OR K H M a o) : ∃ u, H a = some u ∧ NotTup u := by
  cases o with
  | lst xs => obtain ⟨vs, e, _⟩ := h; exact ⟨_, e, trivial⟩
  | fz xs => obtain ⟨ob, vs, e, _⟩ := h; exact ⟨_, e, trivial⟩
  | dK xs => obtain ⟨vs, e, _⟩ := h; exact ⟨_, e, trivial⟩
  | dKz xs => obtain ⟨ob, vs, e, _⟩ := h; exact ⟨_, e, trivial⟩
  | dT xs => obtain ⟨vs, e, _⟩ := h; exact ⟨_, e, trivial⟩
  | ext I own => exact h.2.1
  | own => exact h
theorem Rep.free (rep : Rep K H M) {p : Addr} (h : H p = none) : M p = none := by
  cases e : M p with
  | none => rfl
  | some o =>
    obtain ⟨u, q, _⟩ := (rep p o e).there
    rw [h] at q; cases q
theorem Rep.xd (rep : Rep K H M) {p : Addr} {fs : List (Str × V)} (h : H p = some (.xd fs)) : M p = none := by
  cases e : M p with
  | none => rfl
  | some o =>
    obtain ⟨u, q, t⟩ := (rep p o e).there
    rw [h] at q; cases q; exact t.elim
theorem Go.refl : Go H M H M := fun _ _ h n => ⟨h, n⟩
theorem Go.trans (a : Go H M H' M') (b : Go H' M' H2 M2) : Go H M H2 M2 := fun x u h n => let ⟨h1, n1⟩ := a x u h n; b x u h1 n1
theorem Rep.tx (rep : Rep K H M) (g : Go H M H' M') : Tx K H H' := by
  intro a xs h
  have n : M a = none := by
    cases e : M a with
    | none => rfl
    | some o =>
      obtain ⟨u, q, t⟩ := (rep a o e).there
      rw [h] at q; cases q; exact t.elim
  exact (g a _ h n).1
/-- an object's description leans on its own cell, and on tuples -/
theorem OR.stay {a : Addr} {o : O} (h : OR K H M a o) (t : Tx K H H') (k : ∀ b u, (b = a ∨ M b = some (.own a)) → H b = some u → H' b = some u) (m : ∀ b c, M b = some (.own c) → M' b = some (.own c)) : OR K H' M' a o := by
  cases o with
  | lst xs => obtain ⟨vs, e, r⟩ := h; exact ⟨vs, k _ _ (.inl rfl) e, r.mono t⟩
  | fz xs => obtain ⟨ob, vs, e, r⟩ := h; exact ⟨ob, vs, k _ _ (.inl rfl) e, r.mono t⟩
  | dK xs => obtain ⟨vs, e, r⟩ := h; exact ⟨vs, k _ _ (.inl rfl) e, r.mono t⟩
  | dKz xs => obtain ⟨ob, vs, e, r⟩ := h; exact ⟨ob, vs, k _ _ (.inl rfl) e, r.mono t⟩
  | dT xs => obtain ⟨vs, e, r⟩ := h; exact ⟨vs, k _ _ (.inl rfl) e, r.mono t⟩
  | ext I own =>
    obtain ⟨i, ⟨u, e, nt⟩, o, st⟩ := h
    have kk : ∀ b u, (b = a ∨ b ∈ own) → H b = some u → H' b = some u := fun b u hb q => by
      rcases hb with hb | hb
      · exact k b u (.inl hb) q
      · exact k b u (.inr (o b hb)) q
    exact ⟨st _ t kk, ⟨u, k _ _ (.inl rfl) e, nt⟩, fun b hb => m b _ (o b hb), fun H2 t2 hk => st _ (t.trans t2) fun b u hb q => hk b u hb (kk b u hb q)⟩
  | own => obtain ⟨u, e, nt⟩ := h; exact ⟨u, k _ _ (.inl rfl) e, nt⟩
/-- a cell is written, or laid: p -/
theorem Rep.put (rep : Rep K H M) {p : Addr} {u : HO} {o : O} (t : Tx K H (upd H p u)) (ho : ∀ c, M p ≠ some (.own c)) (hn : H p = none ∨ M p ≠ none) (new : OR K (upd H p u) (up M p o) p o) : Rep K (upd H p u) (up M p o) := by
  intro a q e
  by_cases ha : a = p
  · subst ha; rw [up_same] at e; cases e; exact new
  · rw [up_ne ha] at e
    refine (rep a q e).stay t (fun b v hb hv => ?_) fun b c hb => ?_
    · have nb : b ≠ p := by
        rintro rfl
        rcases hb with hb | hb
        · exact ha hb.symm
        · exact ho _ hb
      rw [upd_ne nb]; exact hv
    · have nb : b ≠ p := by
        rintro rfl
        exact ho _ hb
      rw [up_ne nb]; exact hb
theorem tx_new {p : Addr} {u : HO} (h : H p = none) : Tx K H (upd H p u) := fun a xs q => by
  rw [upd_ne (ne_of_none q h)]; exact q
theorem tx_put {p : Addr} {u v : HO} (h : H p = some v) (nt : NotTup v) : Tx K H (upd H p u) := fun a xs q => by
  have : a ≠ p := by rintro rfl; rw [h] at q; cases q; exact nt.elim
  rw [upd_ne this]; exact q
theorem go_new {p : Addr} {u : HO} {o : O} (h : H p = none) : Go H M (upd H p u) (up M p o) := fun a v e n => by
  have na : a ≠ p := ne_of_none e h
  rw [upd_ne na, up_ne na]
  exact ⟨e, n⟩
theorem go_put {p : Addr} {u : HO} {o : O} (h : M p ≠ none) : Go H M (upd H p u) (up M p o) := fun a v e n => by
  have na : a ≠ p := by rintro rfl; exact h n
  rw [upd_ne na, up_ne na]
  exact ⟨e, n⟩
/-- a tuple is laid -/
theorem Rep.tup (rep : Rep K H M) {p : Addr} {u : HO} (h : H p = none) : Rep K (upd H p u) M := by
  intro a q e
  refine (rep a q e).stay (tx_new h) (fun b v _ hv => ?_) fun _ _ hb => hb
  rw [upd_ne (ne_of_none hv h)]; exact hv
theorem go_tup {p : Addr} {u : HO} (h : H p = none) : Go H M (upd H p u) M := fun a v e n => ⟨by rw [upd_ne (ne_of_none e h)]; exact e, n⟩
/-- forgetting -/
theorem Rep.sub (rep : Rep K H M) (h : ∀ a o, M' a = some o → M a = some o) (ho : ∀ a c, M a = some (.own c) → M' a = some (.own c)) : Rep K H M' := fun a o e =>
  (rep a o (h a o e)).stay Tx.refl (fun _ _ _ q => q) ho
end
/-! ### slots -/
abbrev DS := List (Option D)
structure Sl (K : PySem.W.Frag) (H : Hp) (σ : L2.St) (δ : DS) : Prop where
  len : σ.length = δ.length
  at_ : ∀ (i : Nat) (d : D), δ[i]? = some (some d) → ∃ v : V, σ[i]? = some (some v) ∧ R K H d v
section
variable {K : PySem.W.Frag} {H H' : Hp} {σ : L2.St} {δ : DS}
theorem Sl.mono (s : Sl K H σ δ) (t : Tx K H H') : Sl K H' σ δ := ⟨s.len, fun i d e => let ⟨v, q, r⟩ := s.at_ i d e; ⟨v, q, r.mono t⟩⟩
theorem Sl.set (s : Sl K H σ δ) {v : V} {d : D} (i : Nat) (r : R K H d v) : Sl K H (σ.set i (some v)) (δ.set i (some d)) := by
  refine ⟨by rw [List.length_set, List.length_set]; exact s.len, fun j e q => ?_⟩
  by_cases h : i = j
  · subst h
    have hl : i < δ.length := by
      have := (List.getElem?_eq_some_iff.mp q).1
      rwa [List.length_set] at this
    rw [List.getElem?_set_self hl] at q
    cases q
    rw [List.getElem?_set_self (by rw [s.len]; exact hl)]
    exact ⟨v, rfl, r⟩
  · rw [List.getElem?_set_ne h] at q ⊢
    exact s.at_ j e q
theorem Sl.unset (s : Sl K H σ δ) (i : Nat) : Sl K H (σ.set i none) (δ.set i none) := by
  refine ⟨by rw [List.length_set, List.length_set]; exact s.len, fun j e q => ?_⟩
  by_cases h : i = j
  · subst h
    have hl : i < δ.length := by
      have := (List.getElem?_eq_some_iff.mp q).1
      rwa [List.length_set] at this
    rw [List.getElem?_set_self hl] at q
    cases q
  · rw [List.getElem?_set_ne h] at q ⊢
    exact s.at_ j e q
def wipeD (δ : DS) : List Nat → DS
  | [] => δ
  | v :: vs => (wipeD δ vs).set v none
theorem Sl.wipe (s : Sl K H σ δ) : ∀ vs : List Nat, Sl K H (L2.wipe σ vs) (wipeD δ vs)
  | [] => s
  | v :: vs => (Sl.wipe s vs).unset v
/-- the start -/
def startD (N : Nat) (ds : List D) : DS := ds.map some ++ List.replicate (N - ds.length) none
theorem Sl.start {N : List Str} {ds : List D} {vs : List V} (r : Rs K H ds vs) : Sl K H (L2.start N vs) (startD N.length ds) := by
  have hl := r.len
  refine ⟨by unfold L2.start startD; simp [hl], fun i d e => ?_⟩
  unfold startD at e
  unfold L2.start
  by_cases h : i < ds.length
  · rw [List.getElem?_append_left (by simpa using h)] at e
    rw [List.getElem?_append_left (by simpa [hl] using h)]
    rw [List.getElem?_map] at e ⊢
    cases q : ds[i]? with
    | none => rw [q] at e; cases e
    | some x =>
      rw [q] at e
      cases e
      obtain ⟨v, e1, e2⟩ := r.get q
      exact ⟨v, by rw [e1]; rfl, e2⟩
  · rw [List.getElem?_append_right (by simpa using h)] at e
    have := List.getElem?_eq_some_iff.mp e
    obtain ⟨h1, h2⟩ := this
    rw [List.getElem_replicate] at h2
    cases h2
end
end T3
namespace T3
open PySem PySem.Spec PyProof.Rows L2
/-! ### readings over data -/
abbrev DK := D → Hd → Prop
abbrev DE := DS → Hd → DK → Prop
abbrev DT := DS → Hd → (Bool → Hd → Prop) → Prop
abbrev DA := DS → Hd → (List D → Hd → Prop) → Prop
structure DEnds where
  nx : DS → Hd → Prop
  rt : DK
  bk : DS → Hd → Prop := fun _ _ => False
  ct : DS → Hd → Prop := fun _ _ => False
abbrev DSt := DEnds → DS → Hd → Prop
/-- what is known all along -/
structure Am where
  B : Hp → Hd → Prop
  pres : ∀ H M H' M', Go H M H' M' → B H M → B H' M'
def Am.no : Am := ⟨fun _ _ => True, fun _ _ _ _ _ h => h⟩
def Am.since (H0 : Hp) (M0 : Hd) : Am := ⟨fun H M => Go H0 M0 H M, fun _ _ _ _ g h => h.trans g⟩
def SndE (K : PySem.W.Frag) (B : Am) (t : TE) (d : DE) : Prop := ∀ (σ : L2.St) (H : Hp) (δ : DS) (M : Hd) (Q : VK) (Qd : DK), Sl K H σ δ → Rep K H M → B.B H M → d δ M Qd →
  (∀ v H' x M', Go H M H' M' → Rep K H' M' → R K H' x v → Qd x M' → Q v H') → t σ H Q
def SndT (K : PySem.W.Frag) (B : Am) (t : TT) (d : DT) : Prop := ∀ (σ : L2.St) (H : Hp) (δ : DS) (M : Hd) (Q : Bool → Hp → Prop) (Qd : Bool → Hd → Prop), Sl K H σ δ → Rep K H M → B.B H M → d δ M Qd →
  (∀ b H' M', Go H M H' M' → Rep K H' M' → Qd b M' → Q b H') → t σ H Q
def SndA (K : PySem.W.Frag) (B : Am) (n : Nat) (t : TA) (d : DA) : Prop := ∀ (σ : L2.St) (H : Hp) (δ : DS) (M : Hd) (Q : List V → Hp → Prop) (Qd : List D → Hd → Prop), Sl K H σ δ → Rep K H M → B.B H M → d δ M Qd →
  (∀ vs H' xs M', Go H M H' M' → Rep K H' M' → Rs K H' xs vs → xs.length = n → Qd xs M' → Q vs H') → t σ H Q
structure EndOk (K : PySem.W.Frag) (H : Hp) (M : Hd) (D : Ends) (Dd : DEnds) : Prop where
  nx : ∀ σ' H' δ' M', Go H M H' M' → Sl K H' σ' δ' → Rep K H' M' → Dd.nx δ' M' → D.nx σ' H'
  rt : ∀ v H' x M', Go H M H' M' → Rep K H' M' → R K H' x v → Dd.rt x M' → D.rt v H'
  bk : ∀ σ' H' δ' M', Go H M H' M' → Sl K H' σ' δ' → Rep K H' M' → Dd.bk δ' M' → D.bk σ' H'
  ct : ∀ σ' H' δ' M', Go H M H' M' → Sl K H' σ' δ' → Rep K H' M' → Dd.ct δ' M' → D.ct σ' H'
theorem EndOk.mono {K : PySem.W.Frag} {H H1 : Hp} {M M1 : Hd} {D : Ends} {Dd : DEnds} (g : Go H M H1 M1) (e : EndOk K H M D Dd) : EndOk K H1 M1 D Dd :=
  ⟨fun a b c d h => e.nx a b c d (g.trans h), fun a b c d h => e.rt a b c d (g.trans h), fun a b c d h => e.bk a b c d (g.trans h), fun a b c d h => e.ct a b c d (g.trans h)⟩
def SndS (K : PySem.W.Frag) (B : Am) (t : TS) (d : DSt) : Prop := ∀ (σ : L2.St) (H : Hp) (δ : DS) (M : Hd) (D : Ends) (Dd : DEnds), Sl K H σ δ → Rep K H M → B.B H M → d Dd δ M → EndOk K H M D Dd → t D σ H
structure PE3 (X : Cx) (B : Am) (e : Expr) (d : DE) : Prop where
  ex : ∃ t, PE X e t ∧ SndE X.K B t d
structure PT3 (X : Cx) (B : Am) (e : Expr) (d : DT) : Prop where
  ex : ∃ t, PT X e t ∧ SndT X.K B t d
structure PW3 (X : Cx) (B : Am) (e : Expr) (d : DT) : Prop where
  ex : ∃ t, PW X e t ∧ SndT X.K B t d
structure PA3 (X : Cx) (B : Am) (es : List Expr) (d : DA) : Prop where
  ex : ∃ t, PA X es t ∧ SndA X.K B es.length t d
structure PS3 (X : Cx) (B : Am) (s : Stmt) (d : DSt) : Prop where
  ex : ∃ t, PS X s t ∧ SndS X.K B t d
structure PB3 (X : Cx) (B : Am) (s : List Stmt) (d : DSt) : Prop where
  ex : ∃ t, PSs X s t ∧ SndS X.K B t d
/-! ### forgetting -/
def Fgt (K : PySem.W.Frag) (M M' : Hd) : Prop := (∀ H, Rep K H M → Rep K H M') ∧ ∀ a, M a = none → M' a = none
theorem Fgt.refl {K : PySem.W.Frag} {M : Hd} : Fgt K M M := ⟨fun _ h => h, fun _ h => h⟩
theorem Fgt.trans {K : PySem.W.Frag} {M M' M2 : Hd} (a : Fgt K M M') (b : Fgt K M' M2) : Fgt K M M2 := ⟨fun H h => b.1 H (a.1 H h), fun x h => b.2 x (a.2 x h)⟩
theorem Fgt.go {K : PySem.W.Frag} {H : Hp} {M M' : Hd} (a : Fgt K M M') : Go H M H M' := fun x u h n => ⟨h, a.2 x n⟩
/-- only new lists, dicts are forgotten -/
def Sub (M M' : Hd) : Prop := (∀ a o, M' a = some o → M a = some o) ∧ ∀ a c, M a = some (.own c) → M' a = some (.own c)
theorem Sub.refl {M : Hd} : Sub M M := ⟨fun _ _ h => h, fun _ _ h => h⟩
theorem Sub.trans {M M' M2 : Hd} (a : Sub M M') (b : Sub M' M2) : Sub M M2 := ⟨fun x o h => a.1 x o (b.1 x o h), fun x c h => b.2 x c (a.2 x c h)⟩
theorem Sub.fgt {K : PySem.W.Frag} {M M' : Hd} (a : Sub M M') : Fgt K M M' := ⟨fun H h => h.sub a.1 a.2, fun x h => by
  cases e : M' x with
  | none => rfl
  | some o => rw [a.1 x o e] at h; cases h⟩
theorem Sub.new {M : Hd} {p : Addr} {o : O} (h : M p = none) (ho : ∀ c, o ≠ .own c) : Sub (up M p o) M := ⟨fun a u e => by rw [up_ne (neM e h)]; exact e, fun a c e => by
  by_cases z : a = p
  · subst z; rw [up_same] at e; cases e; exact absurd rfl (ho _)
  · rw [up_ne z] at e; exact e⟩
theorem Sub.put {M M0 : Hd} {p : Addr} {o : O} (s : Sub M M0) (h : M0 p = none) (ho : ∀ c, o ≠ .own c) : Sub (up M p o) M0 := ⟨fun a u e => by rw [up_ne (neM e h)]; exact s.1 a u e, fun a c e => by
  by_cases z : a = p
  · subst z; rw [up_same] at e; cases e; exact absurd rfl (ho _)
  · rw [up_ne z] at e; exact s.2 a _ e⟩
theorem Sub.at {M M' : Hd} (s : Sub M M') {a : Addr} {o : O} (h : M' a = some o) : M a = some o := s.1 a o h
theorem Sub.free {M M' : Hd} (s : Sub M M') {a : Addr} (h : M a = none) : M' a = none := by
  cases e : M' a with
  | none => rfl
  | some o => rw [s.1 a o e] at h; cases h
/-! ### expressions -/
section
variable {X : Cx} {B : Am}
def dVar (i : Nat) : DE := fun δ M Q => ∃ x, δ[i]? = some (some x) ∧ Q x M
theorem e_var (i : Nat) {x : Str} {pos : Pos} (hN : X.N[i]? = some x := by rfl) (hv : Vis X.env.scope x := by first | exact Or.inl rfl | exact Or.inr (Or.inl rfl) | exact Or.inr (Or.inr rfl)) (hd : (x == ("__debug__" : Str)) = false := by decide)
    (hcd : (x == ("__classdict__" : Str)) = false := by decide) : PE3 X B (.Name x pos) (dVar i) := ⟨_, pv i hN hv hd hcd, fun σ H δ M Q Qd sl rep _ ⟨x, e, h⟩ q => by
  obtain ⟨v, e1, r⟩ := sl.at_ i x e
  exact ⟨v, e1, q v H x M Go.refl rep r h⟩⟩
def dC (d : D) : DE := fun _ M Q => Q d M
theorem sndC {K : PySem.W.Frag} {v : V} {d : D} (h : ∀ H, R K H d v) : SndE K B (tC v) (dC d) := fun σ H δ M Q Qd sl rep _ h' q => q v H d M Go.refl rep (h H) h'
theorem e_int {i j pos} : PE3 X B (.Constant (.int i) j pos) (dC (.int i)) := ⟨_, pe_int, sndC fun _ => R.int'⟩
theorem e_bl {b j pos} : PE3 X B (.Constant (.bool b) j pos) (dC (.bl b)) := ⟨_, pe_bl, sndC fun _ => R.bl'⟩
theorem e_non {j pos} : PE3 X B (.Constant .none j pos) (dC .non) := ⟨_, pe_non, sndC fun _ => R.non'⟩
theorem e_str {x j pos} : PE3 X B (.Constant (.str x) j pos) (dC (.str x)) := ⟨_, pe_str, sndC fun _ => R.str'⟩
/-- a module's int, text -/
theorem e_gint {x : Str} {i : Int} {u : Value} {pos : Pos} (hg : Gl X x) (hm : X.mg x = some u) (r : RelV (.int i) u) (hd : (x == ("__debug__" : Str)) = false := by decide) : PE3 X B (.Name x pos) (dC (.int i)) :=
  ⟨_, pe_glob hg hm r hd, sndC fun _ => R.int'⟩
theorem e_gstr {x : Str} {i : Str} {u : Value} {pos : Pos} (hg : Gl X x) (hm : X.mg x = some u) (r : RelV (.str i) u) (hd : (x == ("__debug__" : Str)) = false := by decide) : PE3 X B (.Name x pos) (dC (.str i)) :=
  ⟨_, pe_glob hg hm r hd, sndC fun _ => R.str'⟩
theorem e_gref {x : Str} {a : Addr} {pos : Pos} (hg : Gl X x) (hm : X.mg x = some (.ref a)) (hd : (x == ("__debug__" : Str)) = false := by decide) : PE3 X B (.Name x pos) (dC (.ref a)) :=
  ⟨_, pe_glob (v := .ref a) hg hm (show RelV (.ref a) (.ref a) from rfl) hd, sndC fun _ => R.ref'⟩
/-- a built-in class as a value -/
theorem e_ty {x : Str} {T : String} {pos : Pos} (hg : Gl X x) (hm : X.mg x = none) (hv : bootBuiltins x = some (.type T)) (hn : x ≠ "__name__" := by decide) (hd : (x == ("__debug__" : Str)) = false := by decide) : PE3 X B (.Name x pos) (dC (.ty T)) :=
  ⟨_, pe_bltn (v := .ty T) hg hm hv rfl hn hd, sndC fun _ => R.ty'⟩
abbrev DR2 := D → D → Hd → DK → Prop
def SndR2 (K : PySem.W.Frag) (r : R2) (rd : DR2) : Prop := ∀ (H : Hp) (M : Hd) (x y : D) (v u : V) (Q : VK) (Qd : DK), Rep K H M → R K H x v → R K H y u → rd x y M Qd →
  (∀ v' H' x' M', Go H M H' M' → Rep K H' M' → R K H' x' v' → Qd x' M' → Q v' H') → r v u H Q
structure OpD (X : Cx) (f : Value → Value → Sem Value) (rd : DR2) : Prop where
  ex : ∃ r, OpR X f r ∧ SndR2 X.K r rd
def dOp (rd : DR2) (da db : DE) : DE := fun δ M Q => da δ M fun x M1 => db δ M1 fun y M2 => rd x y M2 Q
theorem SndE.op {K : PySem.W.Frag} {ta tb : TE} {da db : DE} {r : R2} {rd : DR2} (ha : SndE K B ta da) (hb : SndE K B tb db) (hr : SndR2 K r rd) : SndE K B (tOp r ta tb) (dOp rd da db) := by
  intro σ H δ M Q Qd sl rep b h q
  refine ha σ H δ M _ _ sl rep b h fun x1 H1 d1 M1 g1 rep1 r1 h1 => ?_
  refine hb σ H1 δ M1 _ _ (sl.mono (rep.tx g1)) rep1 (B.pres _ _ _ _ g1 b) h1 fun x2 H2 d2 M2 g2 rep2 r2 h2 => ?_
  exact hr H2 M2 d1 d2 x1 x2 Q Qd rep2 (r1.mono (rep1.tx g2)) r2 h2 fun v' H' x' M' g rep' r' q' => q v' H' x' M' ((g1.trans g2).trans g) rep' r' q'
variable {a b c e : Expr} {da db dc de : DE} {pos : Pos}
theorem e_op {op : Operator} {rd : DR2} (ho : OpD X (binaryOp op) rd) (ha : PE3 X B a da) (hb : PE3 X B b db) : PE3 X B (.BinOp a op b pos) (dOp rd da db) := by
  obtain ⟨r, h1, h2⟩ := ho.ex
  obtain ⟨ta, a1, a2⟩ := ha.ex
  obtain ⟨tb, b1, b2⟩ := hb.ex
  exact ⟨_, pe_op h1 a1 b1, a2.op b2 h2⟩
theorem e_cmp {op : CmpOp} {rd : DR2} (ho : OpD X (compareOp op) rd) (ha : PE3 X B a da) (hb : PE3 X B b db) (hm : behindInMarks op b = false := by first | exact nomark _ | rfl) : PE3 X B (.Compare a [op] [b] pos) (dOp rd da db) := by
  obtain ⟨r, h1, h2⟩ := ho.ex
  obtain ⟨ta, a1, a2⟩ := ha.ex
  obtain ⟨tb, b1, b2⟩ := hb.ex
  exact ⟨_, pe_cmpR h1 a1 b1 hm, a2.op b2 h2⟩
/-- of a value, its truth (a flag) -/
def dFlag (x : D) (M : Hd) (Q : Bool → Hd → Prop) : Prop := ∃ k, x = .bl k ∧ Q k M
def dTest (d : DE) : DT := fun δ M Q => d δ M fun x M1 => dFlag x M1 Q
theorem SndE.test {K : PySem.W.Frag} {t : TE} {d : DE} (h : SndE K B t d) : SndT K B (tTest t) (dTest d) := fun σ H δ M Q Qd sl rep bb h' q =>
  h σ H δ M _ _ sl rep bb h' fun v H' x M' g rep' r ⟨k, e, h''⟩ => by
    subst e
    exact ⟨k, r.bl_, q k H' M' g rep' h''⟩
theorem t_cmp {op : CmpOp} {rd : DR2} (ho : OpD X (compareOp op) rd) (ha : PE3 X B a da) (hb : PE3 X B b db) (hm : behindInMarks op b = false := by first | exact nomark _ | rfl) : PT3 X B (.Compare a [op] [b] pos) (dTest (dOp rd da db)) := by
  obtain ⟨r, h1, h2⟩ := ho.ex
  obtain ⟨ta, a1, a2⟩ := ha.ex
  obtain ⟨tb, b1, b2⟩ := hb.ex
  exact ⟨_, pt_cmpR h1 a1 b1 hm, (a2.op b2 h2).test⟩
/-- a < b < c -/
def dChain (r r' : DR2) (da db dc : DE) : DE := fun δ M Q => da δ M fun x M1 => db δ M1 fun y M2 => r x y M2 fun z M3 => ∃ k, z = .bl k ∧ (k = true → dc δ M3 fun w M4 => r' y w M4 Q) ∧ (k = false → Q (.bl false) M3)
theorem SndE.chain {K : PySem.W.Frag} {ta tb tc : TE} {r r' : R2} {rd rd' : DR2} (ha : SndE K B ta da) (hb : SndE K B tb db) (hc : SndE K B tc dc) (hr : SndR2 K r rd) (hr' : SndR2 K r' rd') : SndE K B (tChain r r' ta tb tc) (dChain rd rd' da db dc) := by
  intro σ H δ M Q Qd sl rep bb h q
  refine ha σ H δ M _ _ sl rep bb h fun x1 H1 d1 M1 g1 rep1 r1 h1 => ?_
  have bb1 := B.pres _ _ _ _ g1 bb
  have sl1 := sl.mono (rep.tx g1)
  refine hb σ H1 δ M1 _ _ sl1 rep1 bb1 h1 fun x2 H2 d2 M2 g2 rep2 r2 h2 => ?_
  have bb2 := B.pres _ _ _ _ g2 bb1
  have sl2 := sl1.mono (rep1.tx g2)
  refine hr H2 M2 d1 d2 x1 x2 _ _ rep2 (r1.mono (rep1.tx g2)) r2 h2 fun v3 H3 x3 M3 g3 rep3 r3 ⟨k, ek, h3, h4⟩ => ?_
  subst ek
  refine ⟨k, r3.bl_, ?_⟩
  have bb3 := B.pres _ _ _ _ g3 bb2
  have sl3 := sl2.mono (rep2.tx g3)
  cases k with
  | true =>
    refine iteT (hc σ H3 δ M3 _ _ sl3 rep3 bb3 (h3 rfl) fun x4 H4 d4 M4 g4 rep4 r4 h5 => ?_)
    exact hr' H4 M4 d2 d4 x2 x4 Q Qd rep4 ((r2.mono (rep2.tx g3)).mono (rep3.tx g4)) r4 h5 fun v' H' x' M' g rep' r' q' => q v' H' x' M' ((((g1.trans g2).trans g3).trans g4).trans g) rep' r' q'
  | false => exact iteF (q _ H3 _ M3 ((g1.trans g2).trans g3) rep3 R.bl' (h4 rfl))
theorem e_chain {op op' : CmpOp} {rd rd' : DR2} (ho : OpD X (compareOp op) rd) (ho' : OpD X (compareOp op') rd') (ha : PE3 X B a da) (hb : PE3 X B b db) (hc : PE3 X B c dc) (hm : lastMarks [op, op'] [b, c] = false := by rfl) :
    PE3 X B (.Compare a [op, op'] [b, c] pos) (dChain rd rd' da db dc) := by
  obtain ⟨r, h1, h2⟩ := ho.ex
  obtain ⟨r', h1', h2'⟩ := ho'.ex
  obtain ⟨ta, a1, a2⟩ := ha.ex
  obtain ⟨tb, b1, b2⟩ := hb.ex
  obtain ⟨tc, c1, c2⟩ := hc.ex
  exact ⟨_, pe_chain h1 h1' a1 b1 c1 hm, a2.chain b2 c2 h2 h2'⟩
theorem t_chain {op op' : CmpOp} {rd rd' : DR2} (ho : OpD X (compareOp op) rd) (ho' : OpD X (compareOp op') rd') (ha : PE3 X B a da) (hb : PE3 X B b db) (hc : PE3 X B c dc) (hm : lastMarks [op, op'] [b, c] = false := by rfl) :
    PT3 X B (.Compare a [op, op'] [b, c] pos) (dTest (dChain rd rd' da db dc)) := by
  obtain ⟨r, h1, h2⟩ := ho.ex
  obtain ⟨r', h1', h2'⟩ := ho'.ex
  obtain ⟨ta, a1, a2⟩ := ha.ex
  obtain ⟨tb, b1, b2⟩ := hb.ex
  obtain ⟨tc, c1, c2⟩ := hc.ex
  exact ⟨_, pt_chain h1 h1' a1 b1 c1 hm, (a2.chain b2 c2 h2 h2').test⟩
/-! ### tests -/
theorem SndE.tb {K : PySem.W.Frag} {t : TE} {d : DE} (h : SndE K B t d) : SndT K B (tB t) (dTest d) := fun σ H δ M Q Qd sl rep bb h' q =>
  h σ H δ M _ _ sl rep bb h' fun v H' x M' g rep' r ⟨k, e, h''⟩ => by
    subst e
    exact ⟨k, r.bl_, q k H' M' g rep' h''⟩
theorem t_val (h : PE3 X B e de) (he : ∀ whole, isTrue e X.env whole = (do let v ← whole; standAt e.pos; holding [v] (truthy v)) := by intro _; rfl) : PT3 X B e (dTest de) := by
  obtain ⟨t, h1, h2⟩ := h.ex
  exact ⟨_, pt_val h1 he, h2.tb⟩
variable {tA tB' : DT} {rest : List Expr}
def dAnd (t u : DT) : DT := fun δ M Q => t δ M fun k M1 => (k = true → u δ M1 Q) ∧ (k = false → Q false M1)
def dOr (t u : DT) : DT := fun δ M Q => t δ M fun k M1 => (k = true → Q true M1) ∧ (k = false → u δ M1 Q)
def dNot (t : DT) : DT := fun δ M Q => t δ M fun k M1 => Q (!k) M1
theorem PW3.pt (h : PW3 X B e tA) : PT3 X B e tA := by
  obtain ⟨t, h1, h2⟩ := h.ex
  exact ⟨_, h1.pt, h2⟩
theorem w_and1 (h : PT3 X B a tA) : PW3 X B (.BoolOp .And [a] pos) tA := by
  obtain ⟨t, h1, h2⟩ := h.ex
  exact ⟨_, pw_and1 h1, h2⟩
theorem w_or1 (h : PT3 X B a tA) : PW3 X B (.BoolOp .Or [a] pos) tA := by
  obtain ⟨t, h1, h2⟩ := h.ex
  exact ⟨_, pw_or1 h1, h2⟩
theorem SndT.and {K : PySem.W.Frag} {t u : TT} (h : SndT K B t tA) (k : SndT K B u tB') : SndT K B (tAnd t u) (dAnd tA tB') := fun σ H δ M Q Qd sl rep bb h' q =>
  h σ H δ M _ _ sl rep bb h' fun b H1 M1 g rep1 ⟨q1, q2⟩ => by
    cases b with
    | true => exact iteT (k σ H1 δ M1 _ _ (sl.mono (rep.tx g)) rep1 (B.pres _ _ _ _ g bb) (q1 rfl) fun b' H' M' g' => q b' H' M' (g.trans g'))
    | false => exact iteF (q _ _ _ g rep1 (q2 rfl))
theorem SndT.or {K : PySem.W.Frag} {t u : TT} (h : SndT K B t tA) (k : SndT K B u tB') : SndT K B (tOr t u) (dOr tA tB') := fun σ H δ M Q Qd sl rep bb h' q =>
  h σ H δ M _ _ sl rep bb h' fun b H1 M1 g rep1 ⟨q1, q2⟩ => by
    cases b with
    | false => exact iteF (k σ H1 δ M1 _ _ (sl.mono (rep.tx g)) rep1 (B.pres _ _ _ _ g bb) (q2 rfl) fun b' H' M' g' => q b' H' M' (g.trans g'))
    | true => exact iteT (q _ _ _ g rep1 (q1 rfl))
theorem w_and (ha : PT3 X B a tA) (hb : PW3 X B (.BoolOp .And (b :: rest) pos) tB') : PW3 X B (.BoolOp .And (a :: b :: rest) pos) (dAnd tA tB') := by
  obtain ⟨t, h1, h2⟩ := ha.ex
  obtain ⟨u, k1, k2⟩ := hb.ex
  exact ⟨_, pw_and h1 k1, h2.and k2⟩
theorem w_or (ha : PT3 X B a tA) (hb : PW3 X B (.BoolOp .Or (b :: rest) pos) tB') : PW3 X B (.BoolOp .Or (a :: b :: rest) pos) (dOr tA tB') := by
  obtain ⟨t, h1, h2⟩ := ha.ex
  obtain ⟨u, k1, k2⟩ := hb.ex
  exact ⟨_, pw_or h1 k1, h2.or k2⟩
theorem t_not (h : PT3 X B a tA) : PT3 X B (.UnaryOp .Not a pos) (dNot tA) := by
  obtain ⟨t, h1, h2⟩ := h.ex
  exact ⟨_, pt_not h1, fun σ H δ M Q Qd sl rep bb h' q => h2 σ H δ M _ _ sl rep bb h' fun b H' M' g rep' q' => q _ _ _ g rep' q'⟩
/-- as values (flags) -/
def dAndV (da db : DE) : DE := fun δ M Q => da δ M fun x M1 => ∃ k, x = .bl k ∧ (k = true → db δ M1 Q) ∧ (k = false → Q (.bl false) M1)
def dOrV (da db : DE) : DE := fun δ M Q => da δ M fun x M1 => ∃ k, x = .bl k ∧ (k = true → Q (.bl true) M1) ∧ (k = false → db δ M1 Q)
def dNotV (da : DE) : DE := fun δ M Q => da δ M fun x M1 => ∃ k, x = .bl k ∧ Q (.bl (!k)) M1
theorem e_one {op} (h : PE3 X B a da) : PE3 X B (.BoolOp op [a] pos) da := by
  obtain ⟨t, h1, h2⟩ := h.ex
  exact ⟨_, pe_one h1, h2⟩
theorem e_and (ha : PE3 X B a da) (hb : PE3 X B (.BoolOp .And (b :: rest) pos) db) : PE3 X B (.BoolOp .And (a :: b :: rest) pos) (dAndV da db) := by
  obtain ⟨t, h1, h2⟩ := ha.ex
  obtain ⟨u, k1, k2⟩ := hb.ex
  refine ⟨_, pe_and h1 k1, fun σ H δ M Q Qd sl rep bb h' q => h2 σ H δ M _ _ sl rep bb h' fun v H1 x M1 g rep1 r ⟨k, ek, q1, q2⟩ => ?_⟩
  subst ek
  refine ⟨k, r.bl_, ?_⟩
  cases k with
  | true => exact iteT (k2 σ H1 δ M1 _ _ (sl.mono (rep.tx g)) rep1 (B.pres _ _ _ _ g bb) (q1 rfl) fun v' H' x' M' g' => q v' H' x' M' (g.trans g'))
  | false => exact iteF (q _ _ _ _ g rep1 R.bl' (q2 rfl))
theorem e_or (ha : PE3 X B a da) (hb : PE3 X B (.BoolOp .Or (b :: rest) pos) db) : PE3 X B (.BoolOp .Or (a :: b :: rest) pos) (dOrV da db) := by
  obtain ⟨t, h1, h2⟩ := ha.ex
  obtain ⟨u, k1, k2⟩ := hb.ex
  refine ⟨_, pe_or h1 k1, fun σ H δ M Q Qd sl rep bb h' q => h2 σ H δ M _ _ sl rep bb h' fun v H1 x M1 g rep1 r ⟨k, ek, q1, q2⟩ => ?_⟩
  subst ek
  refine ⟨k, r.bl_, ?_⟩
  cases k with
  | false => exact iteF (k2 σ H1 δ M1 _ _ (sl.mono (rep.tx g)) rep1 (B.pres _ _ _ _ g bb) (q2 rfl) fun v' H' x' M' g' => q v' H' x' M' (g.trans g'))
  | true => exact iteT (q _ _ _ _ g rep1 R.bl' (q1 rfl))
theorem e_not (ha : PE3 X B a da) : PE3 X B (.UnaryOp .Not a pos) (dNotV da) := by
  obtain ⟨t, h1, h2⟩ := ha.ex
  exact ⟨_, pe_not h1, fun σ H δ M Q Qd sl rep bb h' q => h2 σ H δ M _ _ sl rep bb h' fun v H1 x M1 g rep1 r ⟨k, ek, q1⟩ => by
    subst ek
    exact ⟨k, r.bl_, q _ _ _ _ g rep1 R.bl' q1⟩⟩
def dIf (t : DT) (da db : DE) : DE := fun δ M Q => t δ M fun k M1 => (k = true → da δ M1 Q) ∧ (k = false → db δ M1 Q)
theorem e_if (hc : PT3 X B c tA) (ha : PE3 X B a da) (hb : PE3 X B b db) : PE3 X B (.IfExp c a b pos) (dIf tA da db) := by
  obtain ⟨t, h1, h2⟩ := hc.ex
  obtain ⟨ta, a1, a2⟩ := ha.ex
  obtain ⟨tb, b1, b2⟩ := hb.ex
  refine ⟨_, pe_ifExp h1 a1 b1, fun σ H δ M Q Qd sl rep bb h' q => h2 σ H δ M _ _ sl rep bb h' fun k H1 M1 g rep1 ⟨q1, q2⟩ => ?_⟩
  cases k with
  | true => exact iteT (a2 σ H1 δ M1 _ _ (sl.mono (rep.tx g)) rep1 (B.pres _ _ _ _ g bb) (q1 rfl) fun v' H' x' M' g' => q v' H' x' M' (g.trans g'))
  | false => exact iteF (b2 σ H1 δ M1 _ _ (sl.mono (rep.tx g)) rep1 (B.pres _ _ _ _ g bb) (q2 rfl) fun v' H' x' M' g' => q v' H' x' M' (g.trans g'))
/-! ### lists of expressions, displays, calls -/
def dNil : DA := fun _ M Q => Q [] M
def dCons (da : DE) (dr : DA) : DA := fun δ M Q => da δ M fun x M1 => dr δ M1 fun xs M2 => Q (x :: xs) M2
variable {es : List Expr} {dr : DA}
theorem a_nil : PA3 X B [] dNil := ⟨_, pa_nil, fun σ H δ M Q Qd sl rep bb h q => q [] H [] M Go.refl rep .nil rfl h⟩
theorem a_cons (ha : PE3 X B e de) (hr : PA3 X B es dr) (hs : starEach (e :: es) X.env = (false, eval e X.env) :: starEach es X.env := by rfl) : PA3 X B (e :: es) (dCons de dr) := by
  obtain ⟨t, h1, h2⟩ := ha.ex
  obtain ⟨u, k1, k2⟩ := hr.ex
  refine ⟨_, pa_cons h1 k1 hs, fun σ H δ M Q Qd sl rep bb h q => h2 σ H δ M _ _ sl rep bb h fun v H1 x M1 g rep1 r h1 => ?_⟩
  exact k2 σ H1 δ M1 _ _ (sl.mono (rep.tx g)) rep1 (B.pres _ _ _ _ g bb) h1 fun vs H2 xs M2 g2 rep2 rs hl h2 => q _ _ _ _ (g.trans g2) rep2 (.cons (r.mono (rep1.tx g2)) rs) (by simp [hl]) h2
def dTup (dr : DA) : DE := fun δ M Q => dr δ M fun xs M1 => Q (.tup xs) M1
def dLst (dr : DA) : DE := fun δ M Q => dr δ M fun xs M1 => ∀ p, M1 p = none → Q (.ref p) (up M1 p (.lst xs))
theorem small_es {n : Nat} (h : n ≤ 1000) : n ≤ sizeLine := Nat.le_of_lt (small1000 h)
theorem e_tup {x1} (h : PA3 X B es dr) (hn : es.length ≤ 1000 := by decide) : PE3 X B (.Tuple es x1 pos) (dTup dr) := by
  obtain ⟨t, h1, h2⟩ := h.ex
  refine ⟨_, pe_tup h1, fun σ H δ M Q Qd sl rep bb h q => h2 σ H δ M _ _ sl rep bb h fun vs H1 xs M1 g rep1 rs hl h1 => ?_⟩
  refine ⟨by rw [rs.len, hl]; exact small_es hn, fun p hp => ?_⟩
  exact q _ _ _ M1 (g.trans (go_tup hp)) (rep1.tup hp) (.tup upd_same (rs.mono (tx_new hp))) h1
theorem e_lst (h : PA3 X B es dr) (hn : es.length ≤ 1000 := by decide) : PE3 X B (.List es pos) (dLst dr) := by
  obtain ⟨t, h1, h2⟩ := h.ex
  refine ⟨_, pe_lst h1, fun σ H δ M Q Qd sl rep bb h q => h2 σ H δ M _ _ sl rep bb h fun vs H1 xs M1 g rep1 rs hl h1 => ?_⟩
  refine ⟨by rw [rs.len, hl]; exact small_es hn, fun p hp => ?_⟩
  exact q _ _ _ (up M1 p (.lst xs)) (g.trans (go_new hp)) (rep1.put (tx_new hp) (by rw [rep1.free hp]; exact fun _ z => nomatch z) (.inl hp) ⟨vs, upd_same, rs.mono (tx_new hp)⟩) R.ref' (h1 p (rep1.free hp))
/-- a built-in of values -/
abbrev DRL := List D → Hd → DK → Prop
def SndC (K : PySem.W.Frag) (r : List V → Hp → VK → Prop) (rd : DRL) : Prop := ∀ (H : Hp) (M : Hd) (xs : List D) (vs : List V) (Q : VK) (Qd : DK), Rep K H M → Rs K H xs vs → rd xs M Qd →
  (∀ v' H' x' M', Go H M H' M' → Rep K H' M' → R K H' x' v' → Qd x' M' → Q v' H') → r vs H Q
structure CallD (X : Cx) (f : Value) (rd : DRL) : Prop where
  ex : ∃ r, CallR X f r ∧ SndC X.K r rd
def dCB (rd : DRL) (dr : DA) : DE := fun δ M Q => dr δ M fun xs M1 => rd xs M1 Q
theorem SndA.cb {K : PySem.W.Frag} {n : Nat} {t : TA} {r : List V → Hp → VK → Prop} {rd : DRL} (h : SndA K B n t dr) (k : SndC K r rd) : SndE K B (fun σ H Q => t σ H fun vs H1 => r vs H1 Q) (dCB rd dr) := fun σ H δ M Q Qd sl rep bb h' q =>
  h σ H δ M _ _ sl rep bb h' fun vs H1 xs M1 g rep1 rs _ h1 => k H1 M1 xs vs Q Qd rep1 rs h1 fun v' H' x' M' g' => q v' H' x' M' (g.trans g')
theorem e_callB {x : Str} {id : String} {rd : DRL} {p : Pos} (hc : CallD X (.builtin id) rd) (hg : Gl X x) (hm : X.mg x = none) (hv : bootBuiltins x = some (.builtin id)) (ha : PA3 X B (e :: es) dr) (hn : x ≠ "__name__" := by decide) (hdb : (x == ("__debug__" : Str)) = false := by decide)
    (he : starEach (e :: es) X.env = (false, eval e X.env) :: starEach es X.env := by rfl) (hpl : (backTo pos (starEach es X.env)).any (·.1) = false := by rfl) : PE3 X B (.Call (.Name x p) (e :: es) [] pos) (dCB rd dr) := by
  obtain ⟨r, c1, c2⟩ := hc.ex
  obtain ⟨t, a1, a2⟩ := ha.ex
  exact ⟨_, pe_callB c1 hg hm hv a1 hn hdb he hpl, a2.cb c2⟩
theorem e_callTy {x : Str} {T : String} {rd : DRL} {p : Pos} (hc : CallD X (.type T) rd) (hg : Gl X x) (hm : X.mg x = none) (hv : bootBuiltins x = some (.type T)) (ha : PA3 X B (e :: es) dr) (hn : x ≠ "__name__" := by decide) (hdb : (x == ("__debug__" : Str)) = false := by decide)
    (he : starEach (e :: es) X.env = (false, eval e X.env) :: starEach es X.env := by rfl) (hpl : (backTo pos (starEach es X.env)).any (·.1) = false := by rfl) : PE3 X B (.Call (.Name x p) (e :: es) [] pos) (dCB rd dr) := by
  obtain ⟨r, c1, c2⟩ := hc.ex
  obtain ⟨t, a1, a2⟩ := ha.ex
  exact ⟨_, pe_callTy c1 hg hm hv a1 hn hdb he hpl, a2.cb c2⟩
end
end T3
namespace T3
open PySem PySem.Spec PyProof.Rows L2
/-! ### reading a list -/
def LS (M : Hd) (p : Addr) (xs : List D) : Prop := M p = some (.lst xs) ∨ M p = some (.fz xs)
theorem LS.of {M : Hd} {p : Addr} {xs : List D} (h : M p = some (.lst xs)) : LS M p xs := .inl h
def Sq (M : Hd) (y : D) (xs : List D) : Prop := y = .tup xs ∨ ∃ p, y = .ref p ∧ LS M p xs
theorem Sq.t {M : Hd} {xs : List D} : Sq M (.tup xs) xs := .inl rfl
theorem Sq.l {M : Hd} {p : Addr} {xs : List D} (h : M p = some (.lst xs)) : Sq M (.ref p) xs := .inr ⟨p, rfl, .inl h⟩
section
variable {K : PySem.W.Frag} {H H' : Hp} {M M' : Hd}
theorem Rep.ls (rep : Rep K H M) {p : Addr} {xs : List D} (h : LS M p xs) : ∃ vs, SqL K H p vs ∧ Rs K H xs vs := by
  rcases h with h | h
  · obtain ⟨vs, e, r⟩ := rep p _ h
    exact ⟨vs, .inl (.inl e), r⟩
  · obtain ⟨ob, vs, e, r⟩ := rep p _ h
    exact ⟨vs, .inl (.inr ⟨ob, e⟩), r⟩
theorem Rep.sq (rep : Rep K H M) {y : D} {v : V} {xs : List D} (h : Sq M y xs) (r : R K H y v) : ∃ p vs, v = .ref p ∧ (SqL K H p vs ∨ SqT K H p vs) ∧ Rs K H xs vs := by
  rcases h with rfl | ⟨p, rfl, h⟩
  · obtain ⟨a, vs, e, s, rs⟩ := r.untup
    exact ⟨a, vs, e, .inr (SqT.of s), rs⟩
  · obtain ⟨vs, s, rs⟩ := rep.ls h
    exact ⟨p, vs, r.ref_, .inl s, rs⟩
theorem Rep.lst (rep : Rep K H M) {p : Addr} {xs : List D} (h : M p = some (.lst xs)) : ∃ vs, H p = some (.lst vs) ∧ Rs K H xs vs := rep p _ h
/-- a new list -/
theorem Rep.newL (rep : Rep K H M) {p : Addr} {vs : List V} {xs : List D} (hp : H p = none) (r : Rs K H xs vs) : Go H M (upd H p (.lst vs)) (up M p (.lst xs)) ∧ Rep K (upd H p (.lst vs)) (up M p (.lst xs)) :=
  ⟨go_new hp, rep.put (tx_new hp) (by rw [rep.free hp]; exact fun _ z => nomatch z) (.inl hp) ⟨vs, upd_same, r.mono (tx_new hp)⟩⟩
/-- a list is changed -/
theorem Rep.putL (rep : Rep K H M) {p : Addr} {vs : List V} {xs ys : List D} (h : M p = some (.lst ys)) (r : Rs K H xs vs) : Go H M (upd H p (.lst vs)) (up M p (.lst xs)) ∧ Rep K (upd H p (.lst vs)) (up M p (.lst xs)) := by
  obtain ⟨us, e, _⟩ := rep.lst h
  have t : Tx K H (upd H p (.lst vs)) := tx_put e trivial
  exact ⟨go_put (by rw [h]; exact fun z => nomatch z), rep.put t (by rw [h]; exact fun _ z => nomatch z) (.inr (by rw [h]; exact fun z => nomatch z)) ⟨vs, upd_same, r.mono t⟩⟩
theorem Rep.newT (rep : Rep K H M) {p : Addr} {vs : List V} {xs : List D} (hp : H p = none) (r : Rs K H xs vs) : Go H M (upd H p (.tup vs)) M ∧ Rep K (upd H p (.tup vs)) M ∧ R K (upd H p (.tup vs)) (.tup xs) (.ref p) :=
  ⟨go_tup hp, rep.tup hp, .tup upd_same (r.mono (tx_new hp))⟩
end
/-! ### operators -/
section
variable {X : Cx}
def dI0 (g : Int → Int → D) : DR2 := fun x y M Q => match x, y with
  | .int i, .int j => Q (g i j) M
  | _, _ => False
def dI (C : Int → Int → Prop) (g : Int → Int → D) : DR2 := fun x y M Q => match x, y with
  | .int i, .int j => C i j ∧ Q (g i j) M
  | _, _ => False
theorem dI0_inv {g : Int → Int → D} {x y : D} {M : Hd} {Q : DK} (h : dI0 g x y M Q) : ∃ i j, x = .int i ∧ y = .int j ∧ Q (g i j) M := by
  cases x with
  | int i =>
    cases y with
    | int j => exact ⟨i, j, rfl, rfl, h⟩
    | _ => exact h.elim
  | _ => exact h.elim
theorem dI_inv {C : Int → Int → Prop} {g : Int → Int → D} {x y : D} {M : Hd} {Q : DK} (h : dI C g x y M Q) : ∃ i j, x = .int i ∧ y = .int j ∧ C i j ∧ Q (g i j) M := by
  cases x with
  | int i =>
    cases y with
    | int j => exact ⟨i, j, rfl, rfl, h⟩
    | _ => exact h.elim
  | _ => exact h.elim
theorem snd_I0 {K : PySem.W.Frag} {g : Int → Int → V} {gd : Int → Int → D} (hg : ∀ H i j, R K H (gd i j) (g i j)) : SndR2 K (rI0 g) (dI0 gd) := fun H M x y v u Q Qd rep r1 r2 h q => by
  obtain ⟨i, j, rfl, rfl, h⟩ := dI0_inv h
  exact ⟨i, j, r1.int_, r2.int_, q _ _ _ M Go.refl rep (hg H i j) h⟩
theorem snd_I {K : PySem.W.Frag} {C : Int → Int → Prop} {g : Int → Int → V} {gd : Int → Int → D} (hg : ∀ H i j, R K H (gd i j) (g i j)) : SndR2 K (rI C g) (dI C gd) := fun H M x y v u Q Qd rep r1 r2 h q => by
  obtain ⟨i, j, rfl, rfl, c, h⟩ := dI_inv h
  exact ⟨i, j, r1.int_, r2.int_, c, q _ _ _ M Go.refl rep (hg H i j) h⟩
theorem OpD.or {f : Value → Value → Sem Value} {r r' : DR2} (h : OpD X f r) (h' : OpD X f r') : OpD X f (fun x y M Q => r x y M Q ∨ r' x y M Q) := by
  obtain ⟨a, a1, a2⟩ := h.ex
  obtain ⟨b, b1, b2⟩ := h'.ex
  refine ⟨_, a1.or b1, fun H M x y v u Q Qd rep r1 r2 h q => ?_⟩
  rcases h with h | h
  · exact .inl (a2 H M x y v u Q Qd rep r1 r2 h q)
  · exact .inr (b2 H M x y v u Q Qd rep r1 r2 h q)
theorem OpD.imp {f : Value → Value → Sem Value} {r r' : DR2} (h : OpD X f r) (k : ∀ x y M Q, r' x y M Q → r x y M Q) : OpD X f r' := by
  obtain ⟨a, a1, a2⟩ := h.ex
  exact ⟨a, a1, fun H M x y v u Q Qd rep r1 r2 h q => a2 H M x y v u Q Qd rep r1 r2 (k _ _ _ _ h) q⟩
theorem od_sub : OpD X (binaryOp .Sub) (dI0 fun i j => .int (i - j)) := ⟨_, op_sub, snd_I0 fun _ _ _ => R.int'⟩
theorem od_addI : OpD X (binaryOp .Add) (dI0 fun i j => .int (i + j)) := ⟨_, op_add, snd_I0 fun _ _ _ => R.int'⟩
theorem od_mul : OpD X (binaryOp .Mult) (dI CMul fun i j => .int (i * j)) := ⟨_, op_mul, snd_I fun _ _ _ => R.int'⟩
theorem od_fdiv : OpD X (binaryOp .FloorDiv) (dI CDiv fun i j => .int (i / j)) := ⟨_, op_fdiv, snd_I fun _ _ _ => R.int'⟩
theorem od_mod : OpD X (binaryOp .Mod) (dI (fun _ j => 0 < j) fun i j => .int (i % j)) := ⟨_, op_mod, snd_I fun _ _ _ => R.int'⟩
theorem od_pow : OpD X (binaryOp .Pow) (dI CPow fun i j => .int (i ^ j.toNat)) := ⟨_, op_pow, snd_I fun _ _ _ => R.int'⟩
theorem od_lt : OpD X (compareOp .Lt) (dI0 fun i j => .bl (decide (i < j))) := ⟨_, op_lt, snd_I0 fun _ _ _ => R.bl'⟩
theorem od_le : OpD X (compareOp .LtE) (dI0 fun i j => .bl (decide (i ≤ j))) := ⟨_, op_le, snd_I0 fun _ _ _ => R.bl'⟩
theorem od_gt : OpD X (compareOp .Gt) (dI0 fun i j => .bl (decide (j < i))) := ⟨_, op_gt, snd_I0 fun _ _ _ => R.bl'⟩
theorem od_ge : OpD X (compareOp .GtE) (dI0 fun i j => .bl (decide (j ≤ i))) := ⟨_, op_ge, snd_I0 fun _ _ _ => R.bl'⟩
/-- + of ints, texts, tuples, lists -/
def dAdd : DR2 := fun x y M Q => match x, y with
  | .int i, .int j => Q (.int (i + j)) M
  | .str a, .str b => a.length + b.length ≤ sizeLine ∧ Q (.str (a ++ b)) M
  | .tup xs, .tup ys => xs.length + ys.length ≤ sizeLine ∧ Q (.tup (xs ++ ys)) M
  | .ref p, .ref q => ∃ xs ys, M p = some (.lst xs) ∧ M q = some (.lst ys) ∧ xs.length + ys.length ≤ sizeLine ∧ ∀ l, M l = none → Q (.ref l) (up M l (.lst (xs ++ ys)))
  | _, _ => False
theorem od_add : OpD X (binaryOp .Add) dAdd := by
  refine ⟨_, ((op_add.or op_add_str).or op_catA).or op_cat, fun H M x y v u Q Qd rep r1 r2 h q => ?_⟩
  cases x with
  | int i =>
    cases y with
    | int j => exact .inl (.inl (.inl ⟨i, j, r1.int_, r2.int_, q _ _ _ M Go.refl rep R.int' h⟩))
    | _ => exact h.elim
  | str i =>
    cases y with
    | str j => exact .inl (.inl (.inr ⟨i, j, r1.str_, r2.str_, h.1, q _ _ _ M Go.refl rep R.str' h.2⟩))
    | _ => exact h.elim
  | tup xs =>
    cases y with
    | tup ys =>
      obtain ⟨hz, h⟩ := h
      obtain ⟨a, vs, rfl, s1, rs1⟩ := r1.untup
      obtain ⟨b, us, rfl, s2, rs2⟩ := r2.untup
      refine .inl (.inr ⟨a, b, vs, us, rfl, rfl, SqT.of s1, SqT.of s2, by rw [rs1.len, rs2.len]; exact hz, fun e => ?_, fun _ e => ?_, fun _ _ p hp => ?_⟩)
      · subst e
        have e2 : xs = [] := List.eq_nil_of_length_eq_zero (by rw [← rs1.len]; rfl)
        subst e2
        exact q _ _ _ M Go.refl rep r2 h
      · subst e
        have e2 : ys = [] := List.eq_nil_of_length_eq_zero (by rw [← rs2.len]; rfl)
        subst e2
        rw [List.append_nil] at h
        exact q _ _ _ M Go.refl rep r1 h
      · obtain ⟨g, rep', r'⟩ := rep.newT hp (rs1.app rs2)
        exact q _ _ _ M g rep' r' h
    | _ => exact h.elim
  | ref p =>
    cases y with
    | ref b =>
      obtain ⟨xs, ys, e1, e2, hz, h⟩ := h
      obtain ⟨vs, h1, rs1⟩ := rep.lst e1
      obtain ⟨us, h2, rs2⟩ := rep.lst e2
      refine .inr ⟨p, b, vs, us, r1.ref_, r2.ref_, h1, h2, by rw [rs1.len, rs2.len]; exact hz, fun l hl => ?_⟩
      obtain ⟨g, rep'⟩ := rep.newL hl (rs1.app rs2)
      exact q _ _ _ _ g rep' R.ref' (h l (rep.free hl))
    | _ => exact h.elim
  | _ => exact h.elim
/-- is None -/
def dIsN : DR2 := fun x y M Q => match y with
  | .non => (match x with
    | .non => Q (.bl true) M
    | _ => Q (.bl false) M)
  | _ => False
def dNotN : DR2 := fun x y M Q => match y with
  | .non => (match x with
    | .non => Q (.bl false) M
    | _ => Q (.bl true) M)
  | _ => False
def isNon : D → Bool
  | .non => true
  | _ => false
theorem R.nonB {K : PySem.W.Frag} {H : Hp} {x : D} {v : V} (r : R K H x v) : decide (v = V.non) = isNon x := by
  cases x with
  | non => rw [r.non_]; exact decide_eq_true rfl
  | bl b => rw [r.bl_]; exact decide_eq_false fun z => nomatch z
  | int b => rw [r.int_]; exact decide_eq_false fun z => nomatch z
  | str b => rw [r.str_]; exact decide_eq_false fun z => nomatch z
  | ref b => rw [r.ref_]; exact decide_eq_false fun z => nomatch z
  | ty b => rw [r.ty_]; exact decide_eq_false fun z => nomatch z
  | kl b ns => rw [r.kl_.1]; exact decide_eq_false fun z => nomatch z
  | tup b => obtain ⟨a, vs, e, _⟩ := r.untup; rw [e]; exact decide_eq_false fun z => nomatch z
theorem od_is : OpD X (compareOp .Is) dIsN := by
  refine ⟨_, op_isN, fun H M x y v u Q Qd rep r1 r2 h q => ?_⟩
  cases y with
  | non =>
    refine ⟨r2.non_, ?_⟩
    rw [r1.nonB]
    cases x <;> exact q _ _ _ M Go.refl rep R.bl' h
  | _ => exact h.elim
theorem od_isnot : OpD X (compareOp .IsNot) dNotN := by
  refine ⟨_, op_notN, fun H M x y v u Q Qd rep r1 r2 h q => ?_⟩
  cases y with
  | non =>
    refine ⟨r2.non_, ?_⟩
    rw [r1.nonB]
    cases x <;> exact q _ _ _ M Go.refl rep R.bl' h
  | _ => exact h.elim
/-! ### == -/
mutual
inductive Pd (M : Hd) : D → PyData → Prop
  | non : Pd M .non .none
  | bl (b : Bool) : Pd M (.bl b) (.bool b)
  | int (i : Int) : Pd M (.int i) (.int i)
  | str (x : Str) : Pd M (.str x) (.str x)
  | lst {a : Addr} {xs : List D} {ds : List PyData} : LS M a xs → PdAll M xs ds → Pd M (.ref a) (.list ds)
  | tup {xs : List D} {ds : List PyData} : PdAll M xs ds → Pd M (.tup xs) (.tuple ds)
inductive PdAll (M : Hd) : List D → List PyData → Prop
  | nil : PdAll M [] []
  | cons {x : D} {xs : List D} {d : PyData} {ds : List PyData} : Pd M x d → PdAll M xs ds → PdAll M (x :: xs) (d :: ds)
end
mutual
theorem Pd.dp {K : PySem.W.Frag} {H : Hp} {M : Hd} (rep : Rep K H M) : ∀ (d : PyData) (x : D) (v : V), Pd M x d → R K H x v → Dp K H v d
  | .none, _, _, h, r => by
    cases h
    rw [r.non_]
    exact .non
  | .bool b, _, _, h, r => by
    cases h
    rw [r.bl_]
    exact .bl _
  | .int b, _, _, h, r => by
    cases h
    rw [r.int_]
    exact .int _
  | .str b, _, _, h, r => by
    cases h
    rw [r.str_]
    exact .str _
  | .list ds, _, _, h, r => by
    cases h with
    | lst l ha =>
      rw [r.ref_]
      obtain ⟨vs, s, rs⟩ := rep.ls l
      exact .lst s (PdAll.dp rep ds _ _ ha rs)
  | .tuple ds, _, _, h, r => by
    cases h with
    | tup ha =>
      obtain ⟨a, vs, rfl, s, rs⟩ := r.untup
      exact .tup (SqT.of s) (PdAll.dp rep ds _ _ ha rs)
  | .dict _, _, _, h, _ => by cases h
theorem PdAll.dp {K : PySem.W.Frag} {H : Hp} {M : Hd} (rep : Rep K H M) : ∀ (ds : List PyData) (xs : List D) (vs : List V), PdAll M xs ds → Rs K H xs vs → DpAll K H vs ds
  | [], _, _, h, r => by
    cases h
    rw [r.unil]
    exact .nil
  | d :: ds, _, _, h, r => by
    cases h with
    | cons h1 h2 =>
      obtain ⟨v, us, rfl, r1, rs⟩ := r.ucons
      exact .cons (Pd.dp rep d _ _ h1 r1) (PdAll.dp rep ds _ _ h2 rs)
end
def dEqD (x y : D) (M : Hd) (Q : Bool → Prop) : Prop := ∃ a b, Pd M x a ∧ Pd M y b ∧ SeqAt.shaped a = true ∧ SeqAt.shaped b = true ∧ Q (PyData.eqv a b)
def dEq : DR2 := fun x y M Q => match x, y with
  | .int i, .int j => Q (.bl (decide (i = j))) M
  | .str i, .str j => Q (.bl (decide (i = j))) M
  | .bl i, .bl j => Q (.bl (decide (i = j))) M
  | x, y => dEqD x y M fun b => Q (.bl b) M
def dNe : DR2 := fun x y M Q => match x, y with
  | .int i, .int j => Q (.bl (!decide (i = j))) M
  | .str i, .str j => Q (.bl (!decide (i = j))) M
  | .bl i, .bl j => Q (.bl (!decide (i = j))) M
  | x, y => dEqD x y M fun b => Q (.bl (!b)) M
theorem decV {i j : Int} : decide (V.int i = V.int j) = decide (i = j) := decide_eq_decide.mpr ⟨V.int.inj, congrArg _⟩
theorem decVs {i j : Str} : decide (V.str i = V.str j) = decide (i = j) := decide_eq_decide.mpr ⟨V.str.inj, congrArg _⟩
theorem decVb {i j : Bool} : decide (V.bl i = V.bl j) = decide (i = j) := decide_eq_decide.mpr ⟨V.bl.inj, congrArg _⟩
theorem od_eq (hu : X.A.units + 64 < cLine) : OpD X (compareOp .Eq) dEq := by
  refine ⟨_, op_eq.or (op_eqD hu), fun H M x y v u Q Qd rep r1 r2 h q => ?_⟩
  have gen : (dEqD x y M fun b => Qd (.bl b) M) → (rEq v u H Q ∨ rEqD X.K v u H Q) := fun ⟨a, b, h1, h2, s1, s2, h⟩ => .inr ⟨a, b, h1.dp rep _ _ _ r1, h2.dp rep _ _ _ r2, s1, s2, q _ _ _ M Go.refl rep R.bl' h⟩
  cases x with
  | int i =>
    cases y with
    | int j => rw [r1.int_, r2.int_]; exact .inl ⟨rfl, by rw [decV]; exact q _ _ _ M Go.refl rep R.bl' h⟩
    | _ => exact gen h
  | str i =>
    cases y with
    | str j => rw [r1.str_, r2.str_]; exact .inl ⟨rfl, by rw [decVs]; exact q _ _ _ M Go.refl rep R.bl' h⟩
    | _ => exact gen h
  | bl i =>
    cases y with
    | bl j => rw [r1.bl_, r2.bl_]; exact .inl ⟨rfl, by rw [decVb]; exact q _ _ _ M Go.refl rep R.bl' h⟩
    | _ => exact gen h
  | _ => exact gen h
theorem od_ne (hu : X.A.units + 64 < cLine) : OpD X (compareOp .NotEq) dNe := by
  refine ⟨_, op_ne.or (op_neD hu), fun H M x y v u Q Qd rep r1 r2 h q => ?_⟩
  have gen : (dEqD x y M fun b => Qd (.bl (!b)) M) → (rNe v u H Q ∨ rNeD X.K v u H Q) := fun ⟨a, b, h1, h2, s1, s2, h⟩ => .inr ⟨a, b, h1.dp rep _ _ _ r1, h2.dp rep _ _ _ r2, s1, s2, q _ _ _ M Go.refl rep R.bl' h⟩
  cases x with
  | int i =>
    cases y with
    | int j => rw [r1.int_, r2.int_]; exact .inl ⟨rfl, by rw [decV]; exact q _ _ _ M Go.refl rep R.bl' h⟩
    | _ => exact gen h
  | str i =>
    cases y with
    | str j => rw [r1.str_, r2.str_]; exact .inl ⟨rfl, by rw [decVs]; exact q _ _ _ M Go.refl rep R.bl' h⟩
    | _ => exact gen h
  | bl i =>
    cases y with
    | bl j => rw [r1.bl_, r2.bl_]; exact .inl ⟨rfl, by rw [decVb]; exact q _ _ _ M Go.refl rep R.bl' h⟩
    | _ => exact gen h
  | _ => exact gen h
/-! ### in -/
abbrev valD {κ : Type} [DecidableEq κ] (kvs : List (κ × D)) (k : κ) : Option D := (kvs.find? fun kv => decide (kv.1 = k)).map (·.2)
def kD : Key → D
  | .inl i => .int i
  | .inr x => .str x
theorem R.kD {K : PySem.W.Frag} {H : Hp} {k : Key} {v : V} (h : R K H (kD k) v) : v = kV k := by
  cases k with
  | inl i => exact h.int_
  | inr x => exact h.str_
theorem R.of_kD {K : PySem.W.Frag} {H : Hp} (k : Key) : R K H (T3.kD k) (kV k) := by
  cases k with
  | inl i => exact R.int'
  | inr x => exact R.str'
theorem RK.val {κ : Type} [DecidableEq κ] {K : PySem.W.Frag} {H : Hp} (k : κ) : ∀ {kvs : List (κ × D)} {ws : List (κ × V)}, RK K H kvs ws → (∀ d, valD kvs k = some d → ∃ v, valV ws k = some v ∧ R K H d v) ∧ (valD kvs k = none → valV ws k = none)
  | _, _, .nil => ⟨fun _ e => (nomatch e), fun _ => rfl⟩
  | p :: kvs, q :: ws, .cons ⟨e, r⟩ t => by
    obtain ⟨h1, h2⟩ := RK.val k t
    by_cases hk : p.1 = k
    · have a1 : valD (p :: kvs) k = some p.2 := by simp [valD, List.find?_cons, hk]
      have a2 : valV (q :: ws) k = some q.2 := valV_pos (by rw [← e]; exact hk)
      rw [a1, a2]
      exact ⟨fun d ed => by cases ed; exact ⟨_, rfl, r⟩, fun z => nomatch z⟩
    · have a1 : valD (p :: kvs) k = valD kvs k := by simp [valD, List.find?_cons, hk]
      have a2 : valV (q :: ws) k = valV ws k := valV_neg (by rw [← e]; exact hk)
      rw [a1, a2]
      exact ⟨h1, h2⟩
/-- a dict that may be read -/
def DK_ (M : Hd) (p : Addr) (kvs : List (Key × D)) : Prop := M p = some (.dK kvs) ∨ M p = some (.dKz kvs)
theorem Rep.dk {K : PySem.W.Frag} {H : Hp} {M : Hd} (rep : Rep K H M) {p : Addr} {kvs : List (Key × D)} (h : DK_ M p kvs) : ∃ ws, Rd H p (.dK ws) ∧ RK K H kvs ws := by
  rcases h with h | h
  · obtain ⟨ws, e, r⟩ := rep p _ h
    exact ⟨ws, .inl e, r⟩
  · obtain ⟨ob, ws, e, r⟩ := rep p _ h
    exact ⟨ws, .inr ⟨ob, e⟩, r⟩
theorem inV_int {i : Int} : ∀ ns : List Int, inV (.int i) (ns.map V.int) = decide (i ∈ ns)
  | [] => by simp [inV]
  | n :: ns => by
    have ih := inV_int (i := i) ns
    unfold inV at ih ⊢
    rw [List.map_cons, List.any_cons, ih]
    show ((n == i) || decide (i ∈ ns)) = decide (i ∈ n :: ns)
    by_cases e : n = i
    · subst e; simp
    · have e' : ¬ i = n := fun z => e z.symm
      simp [e, e']
theorem inV_str {i : Str} : ∀ ns : List Str, inV (.str i) (ns.map V.str) = decide (i ∈ ns)
  | [] => by simp [inV]
  | n :: ns => by
    have ih := inV_str (i := i) ns
    unfold inV at ih ⊢
    rw [List.map_cons, List.any_cons, ih]
    show ((n == i) || decide (i ∈ ns)) = decide (i ∈ n :: ns)
    by_cases e : n = i
    · subst e; simp
    · have e' : ¬ i = n := fun z => e z.symm
      simp [e, e']
theorem all_flat_int (ns : List Int) : (ns.map V.int).all flatV = true := by simp [flatV]
theorem all_flat_str (ns : List Str) : (ns.map V.str).all flatV = true := by simp [flatV]
/-- membership, told by the flag -/
def dInB (x y : D) (M : Hd) (Q : Bool → Prop) : Prop :=
  (∃ (i : Int) (ns : List Int), x = .int i ∧ Sq M y (ns.map D.int) ∧ Q (decide (i ∈ ns))) ∨
  (∃ (i : Str) (ns : List Str), x = .str i ∧ Sq M y (ns.map D.str) ∧ Q (decide (i ∈ ns))) ∨
  (∃ (p : Addr) (kvs : List (Key × D)) (k : Key), x = kD k ∧ y = .ref p ∧ DK_ M p kvs ∧ Q (valD kvs k).isSome) ∨
  (∃ (p : Addr) (kvs : List (List Key × D)) (ks : List Key), x = .tup (ks.map kD) ∧ y = .ref p ∧ M p = some (.dT kvs) ∧ Q (valD kvs ks).isSome)
theorem R.tupK {K : PySem.W.Frag} {H : Hp} {ks : List Key} {vs : List V} (h : Rs K H (ks.map T3.kD) vs) : vs = ks.map kV := by
  induction ks generalizing vs with
  | nil => exact h.unil
  | cons k ks ih =>
    obtain ⟨v, us, rfl, r, rs⟩ := h.ucons
    rw [r.kD, ih rs]
    rfl
theorem or_dict (hu : X.A.units + 1 < cLine) : OpR X (compareOp .In) (fun x y H Q => ∃ a o, y = .ref a ∧ DGet H a x o ∧ Q (.bl o.isSome) H) := by
  intro pins s σ H x y v u Q I rx ry h
  obtain ⟨a, o, rfl, g, q⟩ := h
  cases ry
  exact d_in hu I g rx fun s' I' => ⟨.bl _, H, I', rfl, q⟩
theorem or_ndict (hu : X.A.units + 1 < cLine) : OpR X (compareOp .NotIn) (fun x y H Q => ∃ a o, y = .ref a ∧ DGet H a x o ∧ Q (.bl (!o.isSome)) H) := by
  intro pins s σ H x y v u Q I rx ry h
  obtain ⟨a, o, rfl, g, q⟩ := h
  cases ry
  exact d_notIn hu I g rx fun s' I' => ⟨.bl _, H, I', rfl, q⟩
theorem isSome_of {κ : Type} [DecidableEq κ] {K : PySem.W.Frag} {H : Hp} {k : κ} {kvs : List (κ × D)} {ws : List (κ × V)} (r : RK K H kvs ws) : (valV ws k).isSome = (valD kvs k).isSome := by
  obtain ⟨h1, h2⟩ := RK.val k r
  cases e : valD kvs k with
  | none => rw [h2 e]; rfl
  | some d => obtain ⟨v, ev, _⟩ := h1 d e; rw [ev]; rfl
theorem od_in (hu : X.A.units + 1 < cLine) : OpD X (compareOp .In) (fun x y M Q => dInB x y M fun b => Q (.bl b) M) := by
  refine ⟨_, op_in_seq.or (or_dict hu), fun H M x y v u Q Qd rep r1 r2 h q => ?_⟩
  rcases h with ⟨i, ns, rfl, sq, h⟩ | ⟨i, ns, rfl, sq, h⟩ | ⟨p, kvs, k, rfl, rfl, d, h⟩ | ⟨p, kvs, ks, rfl, rfl, d, h⟩
  · obtain ⟨p, vs, rfl, s, rs⟩ := rep.sq sq r2
    have ev := rs.ints
    subst ev
    rw [r1.int_]
    exact .inl ⟨p, _, rfl, s, rfl, all_flat_int ns, q _ _ _ M Go.refl rep R.bl' (by rw [if_neg Bool.false_ne_true, inV_int]; exact h)⟩
  · obtain ⟨p, vs, rfl, s, rs⟩ := rep.sq sq r2
    have ev := rs.strs
    subst ev
    rw [r1.str_]
    exact .inl ⟨p, _, rfl, s, rfl, all_flat_str ns, q _ _ _ M Go.refl rep R.bl' (by rw [if_neg Bool.false_ne_true, inV_str]; exact h)⟩
  · obtain ⟨ws, e, r⟩ := rep.dk d
    rw [r1.kD, r2.ref_]
    exact .inr ⟨p, _, rfl, .inl ⟨ws, k, e, rfl, rfl⟩, q _ _ _ M Go.refl rep R.bl' (by rw [isSome_of r]; exact h)⟩
  · obtain ⟨ws, e, r⟩ := rep p _ d
    obtain ⟨a, vs, rfl, s, rs⟩ := r1.untup
    have ev := R.tupK rs
    subst ev
    rw [r2.ref_]
    exact .inr ⟨p, _, rfl, .inr ⟨ws, ks, a, .inl e, rfl, s, rfl⟩, q _ _ _ M Go.refl rep R.bl' (by rw [isSome_of r]; exact h)⟩
theorem od_notin (hu : X.A.units + 1 < cLine) : OpD X (compareOp .NotIn) (fun x y M Q => dInB x y M fun b => Q (.bl (!b)) M) := by
  refine ⟨_, op_notIn_seq.or (or_ndict hu), fun H M x y v u Q Qd rep r1 r2 h q => ?_⟩
  rcases h with ⟨i, ns, rfl, sq, h⟩ | ⟨i, ns, rfl, sq, h⟩ | ⟨p, kvs, k, rfl, rfl, d, h⟩ | ⟨p, kvs, ks, rfl, rfl, d, h⟩
  · obtain ⟨p, vs, rfl, s, rs⟩ := rep.sq sq r2
    have ev := rs.ints
    subst ev
    rw [r1.int_]
    exact .inl ⟨p, _, rfl, s, rfl, all_flat_int ns, q _ _ _ M Go.refl rep R.bl' (by rw [if_pos rfl, inV_int]; exact h)⟩
  · obtain ⟨p, vs, rfl, s, rs⟩ := rep.sq sq r2
    have ev := rs.strs
    subst ev
    rw [r1.str_]
    exact .inl ⟨p, _, rfl, s, rfl, all_flat_str ns, q _ _ _ M Go.refl rep R.bl' (by rw [if_pos rfl, inV_str]; exact h)⟩
  · obtain ⟨ws, e, r⟩ := rep.dk d
    rw [r1.kD, r2.ref_]
    exact .inr ⟨p, _, rfl, .inl ⟨ws, k, e, rfl, rfl⟩, q _ _ _ M Go.refl rep R.bl' (by rw [isSome_of r]; exact h)⟩
  · obtain ⟨ws, e, r⟩ := rep p _ d
    obtain ⟨a, vs, rfl, s, rs⟩ := r1.untup
    have ev := R.tupK rs
    subst ev
    rw [r2.ref_]
    exact .inr ⟨p, _, rfl, .inr ⟨ws, ks, a, .inl e, rfl, s, rfl⟩, q _ _ _ M Go.refl rep R.bl' (by rw [isSome_of r]; exact h)⟩
end
end T3
namespace T3
open PySem PySem.Spec PyProof.Rows L2
/-! ### subscripts -/
section
variable {X : Cx} {B : Am}
structure IxD (X : Cx) (rd : DR2) : Prop where
  ex : ∃ r, IxR X r ∧ SndR2 X.K r rd
variable {a b e o : Expr} {da db de dd : DE} {pos : Pos}
theorem e_ix {rd : DR2} (hr : IxD X rd) (ha : PE3 X B a da) (hb : PE3 X B b db) (hs : PlainIx b := by intro _ _; rfl) : PE3 X B (.Subscript a b pos) (dOp rd da db) := by
  obtain ⟨r, h1, h2⟩ := hr.ex
  obtain ⟨ta, a1, a2⟩ := ha.ex
  obtain ⟨tb, b1, b2⟩ := hb.ex
  exact ⟨_, pe_ix h1 a1 b1 hs, a2.op b2 h2⟩
/-- of a list's, a tuple's, a text's place; of a dict's key -/
def dIxR (p : Addr) (y : D) (M : Hd) (Q : D → Prop) : Prop :=
  (∃ (xs : List D) (i : Int) (v : D), y = .int i ∧ LS M p xs ∧ atI xs i = some v ∧ Q v) ∨
  (∃ (kvs : List (Key × D)) (k : Key) (v : D), y = kD k ∧ DK_ M p kvs ∧ valD kvs k = some v ∧ Q v) ∨
  (∃ (kvs : List (List Key × D)) (ks : List Key) (v : D), y = .tup (ks.map kD) ∧ M p = some (.dT kvs) ∧ valD kvs ks = some v ∧ Q v)
def dIx : DR2 := fun x y M Q => match x, y with
  | .tup xs, .int i => ∃ v, atI xs i = some v ∧ Q v M
  | .str z, .int i => ∃ c, z.length ≤ sizeLine ∧ atI z.cps.toList i = some c ∧ Q (.str ⟨#[c]⟩) M
  | .ref p, y => dIxR p y M fun v => Q v M
  | .kl _ ns, .int i => ∃ v, atI (ns.map D.int) i = some v ∧ Q v M
  | _, _ => False
theorem Rs.atI {K : PySem.W.Frag} {H : Hp} {ds : List D} {vs : List V} (h : Rs K H ds vs) {i : Int} {d : D} (e : L2.atI ds i = some d) : ∃ v, L2.atI vs i = some v ∧ R K H d v := by
  unfold L2.atI at e ⊢
  rw [h.len]
  cases q : ixN ds.length i with
  | none => rw [q] at e; cases e
  | some j =>
    rw [q] at e
    exact h.get e
theorem ix_dictR (hu : X.A.units + 1 < cLine) : IxR X (fun x y H Q => ∃ a v, x = .ref a ∧ DGet H a y (some v) ∧ Q v H) := by
  intro value slice pins s σ H x y v u Q I rx ry h hs
  obtain ⟨a, z, rfl, g, q⟩ := h
  cases rx
  exact tail_any (dict_typeIs I g) PySem.F.slot_dict_getitem.lookup (d_getItem hu I g ry fun w' s' I' r' => ⟨z, H, I', r', q⟩) hs
theorem ixd (hu : X.A.units + 1 < cLine) : IxD X dIx := by
  refine ⟨_, ((ix_list.or ix_tup).or ix_str).or (ix_dictR hu), fun H M x y v u Q Qd rep r1 r2 h q => ?_⟩
  cases x with
  | tup xs =>
    cases y with
    | int i =>
      obtain ⟨z, e, h⟩ := h
      obtain ⟨a, vs, rfl, s, rs⟩ := r1.untup
      obtain ⟨w, ew, rw'⟩ := rs.atI e
      exact .inl (.inl (.inr ⟨a, vs, i, w, rfl, r2.int_, SqT.of s, ew, q _ _ _ M Go.refl rep rw' h⟩))
    | _ => exact h.elim
  | kl p ns =>
    cases y with
    | int i =>
      obtain ⟨z, e, h⟩ := h
      obtain ⟨rfl, s⟩ := r1.kl_
      obtain ⟨w, ew, rw'⟩ := (Rs.of_ints (K := X.K) (H := H) ns).atI e
      exact .inl (.inl (.inl ⟨p, _, i, w, rfl, r2.int_, s H, ew, q _ _ _ M Go.refl rep rw' h⟩))
    | _ => exact h.elim
  | str z =>
    cases y with
    | int i =>
      obtain ⟨c, hz, e, h⟩ := h
      exact .inl (.inr ⟨z, i, c, r1.str_, r2.int_, hz, e, q _ _ _ M Go.refl rep R.str' h⟩)
    | _ => exact h.elim
  | ref p =>
    have h : dIxR p y M fun v => Qd v M := h
    rcases h with ⟨xs, i, z, rfl, l, e, h⟩ | ⟨kvs, k, z, rfl, d, e, h⟩ | ⟨kvs, ks, z, rfl, d, e, h⟩
    · obtain ⟨vs, s, rs⟩ := rep.ls l
      obtain ⟨w, ew, rw'⟩ := rs.atI e
      exact .inl (.inl (.inl ⟨p, vs, i, w, r1.ref_, r2.int_, s, ew, q _ _ _ M Go.refl rep rw' h⟩))
    · obtain ⟨ws, hd, rk⟩ := rep.dk d
      obtain ⟨w, ew, rw'⟩ := (RK.val k rk).1 _ e
      exact .inr ⟨p, w, r1.ref_, .inl ⟨ws, k, hd, r2.kD, ew.symm⟩, q _ _ _ M Go.refl rep rw' h⟩
    · obtain ⟨ws, hd, rk⟩ := rep p _ d
      obtain ⟨a, vs, rfl, s, rs⟩ := r2.untup
      have ev := R.tupK rs
      subst ev
      obtain ⟨w, ew, rw'⟩ := (RK.val ks rk).1 _ e
      exact .inr ⟨p, w, r1.ref_, .inr ⟨ws, ks, a, .inl hd, rfl, s, ew.symm⟩, q _ _ _ M Go.refl rep rw' h⟩
  | _ => exact h.elim
/-! ### slices -/
abbrev DO := DS → Hd → (Option Int → Hd → Prop) → Prop
def SndO (K : PySem.W.Frag) (B : Am) (t : TO) (d : DO) : Prop := ∀ (σ : L2.St) (H : Hp) (δ : DS) (M : Hd) (Q : Option Int → Hp → Prop) (Qd : Option Int → Hd → Prop), Sl K H σ δ → Rep K H M → B.B H M → d δ M Qd →
  (∀ o H' M', Go H M H' M' → Rep K H' M' → Qd o M' → Q o H') → t σ H Q
structure PO3 (X : Cx) (B : Am) (e : Option Expr) (d : DO) : Prop where
  ex : ∃ t, PO X e t ∧ SndO X.K B t d
def dNoPart : DO := fun _ M Q => Q none M
def dPart (de : DE) : DO := fun δ M Q => de δ M fun x M1 => match x with
  | .int i => Q (some i) M1
  | _ => False
theorem o_none : PO3 X B none dNoPart := ⟨_, po_none, fun σ H δ M Q Qd sl rep bb h q => q _ _ _ Go.refl rep h⟩
theorem o_some (h : PE3 X B e de) : PO3 X B (some e) (dPart de) := by
  obtain ⟨t, h1, h2⟩ := h.ex
  refine ⟨_, po_some h1, fun σ H δ M Q Qd sl rep bb h q => h2 σ H δ M _ _ sl rep bb h fun v H1 x M1 g rep1 r h1 => ?_⟩
  cases x with
  | int i => exact ⟨i, r.int_, q _ _ _ g rep1 h1⟩
  | _ => exact h1.elim
def cutD (xs : List D) (lo hi : Option Int) : List D := (xs.drop (HT.sIx xs.length 0 lo)).take (HT.sIx xs.length xs.length hi - HT.sIx xs.length 0 lo)
theorem Rs.cut {K : PySem.W.Frag} {H : Hp} {ds : List D} {vs : List V} (h : Rs K H ds vs) (lo hi : Option Int) : Rs K H (cutD ds lo hi) (cutV vs lo hi) := by
  unfold cutD cutV
  rw [h.len]
  exact (h.drop _).take _
theorem cutD_nat (xs : List D) (a b : Nat) : cutD xs (some a) (some b) = (xs.drop (min a xs.length)).take (min b xs.length - min a xs.length) := by
  unfold cutD; rw [HT.sIx_nat, HT.sIx_nat]
theorem cutD_to (xs : List D) (b : Nat) : cutD xs none (some b) = xs.take b := by
  unfold cutD
  rw [HT.sIx_nat, HT.sIx_none, List.drop_zero, Nat.sub_zero]
  by_cases h : b ≤ xs.length
  · rw [Nat.min_eq_left h]
  · rw [Nat.min_eq_right (by omega), List.take_length, List.take_of_length_le (by omega)]
theorem cutD_from (xs : List D) (a : Nat) : cutD xs (some a) none = xs.drop a := by
  unfold cutD
  rw [HT.sIx_nat, HT.sIx_none]
  by_cases h : a ≤ xs.length
  · rw [Nat.min_eq_left h, List.take_of_length_le (by rw [List.length_drop]; exact Nat.le_refl _)]
  · rw [Nat.min_eq_right (by omega), List.drop_length, List.drop_of_length_le (by omega)]
    simp
theorem cutD_all (xs : List D) : cutD xs none none = xs := by
  unfold cutD
  rw [HT.sIx_none, HT.sIx_none, List.drop_zero, Nat.sub_zero, List.take_length]
abbrev DSl := D → Option Int → Option Int → Hd → DK → Prop
structure SlD (X : Cx) (rd : DSl) : Prop where
  ex : ∃ r, SlR X r ∧ ∀ (H : Hp) (M : Hd) (x : D) (v : V) (lo hi : Option Int) (Q : VK) (Qd : DK), Rep X.K H M → R X.K H x v → rd x lo hi M Qd →
    (∀ v' H' x' M', Go H M H' M' → Rep X.K H' M' → R X.K H' x' v' → Qd x' M' → Q v' H') → r v lo hi H Q
def dSl (rd : DSl) (de : DE) (dl dh : DO) : DE := fun δ M Q => de δ M fun x M1 => dl δ M1 fun l M2 => dh δ M2 fun u M3 => rd x l u M3 Q
def dCut : DSl := fun x lo hi M Q => match x with
  | .tup xs => Q (.tup (cutD xs lo hi)) M
  | .str z => z.length ≤ sizeLine ∧ Q (.str (cutS z lo hi)) M
  | .ref p => ∃ xs, LS M p xs ∧ ∀ q, M q = none → Q (.ref q) (up M q (.lst (cutD xs lo hi)))
  | .kl _ ns => ∀ q, M q = none → Q (.ref q) (up M q (.lst (cutD (ns.map D.int) lo hi)))
  | _ => False
theorem slD : SlD X dCut := by
  refine ⟨_, (sl_list.or sl_tupA).or sl_str, fun H M x v lo hi Q Qd rep r1 h q => ?_⟩
  cases x with
  | tup xs =>
    obtain ⟨a, vs, rfl, s, rs⟩ := r1.untup
    refine .inl (.inr ⟨a, vs, rfl, SqT.of s, fun e => ?_, fun _ p hp => ?_⟩)
    · have hc : cutD xs lo hi = xs := by
        unfold cutD
        rw [rs.len] at e
        rw [e.1, e.2, List.drop_zero, Nat.sub_zero, List.take_length]
      have h : Qd (.tup (cutD xs lo hi)) M := h
      rw [hc] at h
      exact q _ _ _ M Go.refl rep r1 h
    · obtain ⟨g, rep', r'⟩ := rep.newT hp (rs.cut lo hi)
      exact q _ _ _ M g rep' r' h
  | str z => exact .inr ⟨z, r1.str_, h.1, q _ _ _ M Go.refl rep R.str' h.2⟩
  | kl p ns =>
    obtain ⟨rfl, s⟩ := r1.kl_
    refine .inl (.inl ⟨p, _, rfl, s H, fun q' hq => ?_⟩)
    obtain ⟨g, rep'⟩ := rep.newL hq ((Rs.of_ints (K := X.K) (H := H) ns).cut lo hi)
    exact q _ _ _ _ g rep' R.ref' (h q' (rep.free hq))
  | ref p =>
    obtain ⟨xs, l, h⟩ := h
    obtain ⟨vs, s, rs⟩ := rep.ls l
    refine .inl (.inl ⟨p, vs, r1.ref_, s, fun p' hp => ?_⟩)
    obtain ⟨g, rep'⟩ := rep.newL hp (rs.cut lo hi)
    exact q _ _ _ _ g rep' R.ref' (h p' (rep.free hp))
  | _ => exact h.elim
theorem e_slice {lo hi : Option Expr} {dl dh : DO} {p2 : Pos} {rd : DSl} (hr : SlD X rd) (he : PE3 X B e de) (hl : PO3 X B lo dl) (hh : PO3 X B hi dh) : PE3 X B (.Subscript e (.Slice lo hi none p2) pos) (dSl rd de dl dh) := by
  obtain ⟨r, a1, a2⟩ := hr.ex
  obtain ⟨t, h1, h2⟩ := he.ex
  obtain ⟨tl, l1, l2⟩ := hl.ex
  obtain ⟨th, u1, u2⟩ := hh.ex
  refine ⟨_, pe_slice a1 h1 l1 u1, fun σ H δ M Q Qd sl rep bb h q => h2 σ H δ M _ _ sl rep bb h fun v H1 x M1 g1 rep1 r1 h => ?_⟩
  have sl1 := sl.mono (rep.tx g1)
  have bb1 := B.pres _ _ _ _ g1 bb
  refine l2 σ H1 δ M1 _ _ sl1 rep1 bb1 h fun o H2 M2 g2 rep2 h => ?_
  refine u2 σ H2 δ M2 _ _ (sl1.mono (rep1.tx g2)) rep2 (B.pres _ _ _ _ g2 bb1) h fun o' H3 M3 g3 rep3 h => ?_
  exact a2 H3 M3 x v o o' Q Qd rep3 ((r1.mono (rep1.tx g2)).mono (rep2.tx g3)) h fun v' H' x' M' g' => q v' H' x' M' (((g1.trans g2).trans g3).trans g')
/-! ### built-in calls -/
theorem uneg : ∀ {i : Int}, True := trivial
def dNeg (da : DE) : DE := fun δ M Q => da δ M fun x M1 => match x with
  | .int i => Q (.int (-i)) M1
  | _ => False
theorem e_neg (ha : PE3 X B a da) : PE3 X B (.UnaryOp .USub a pos) (dNeg da) := by
  obtain ⟨t, h1, h2⟩ := ha.ex
  refine ⟨_, pe_un un_neg h1, fun σ H δ M Q Qd sl rep bb h q => h2 σ H δ M _ _ sl rep bb h fun v H1 x M1 g rep1 r h1 => ?_⟩
  cases x with
  | int i => exact ⟨i, r.int_, q _ _ _ _ g rep1 R.int' h1⟩
  | _ => exact h1.elim
theorem CallD.or {f : Value} {r r' : DRL} (h : CallD X f r) (h' : CallD X f r') : CallD X f (fun xs M Q => r xs M Q ∨ r' xs M Q) := by
  obtain ⟨a, a1, a2⟩ := h.ex
  obtain ⟨b, b1, b2⟩ := h'.ex
  refine ⟨_, a1.or b1, fun H M xs vs Q Qd rep rs h q => ?_⟩
  rcases h with h | h
  · exact .inl (a2 H M xs vs Q Qd rep rs h q)
  · exact .inr (b2 H M xs vs Q Qd rep rs h q)
/-- one argument -/
def d1 (f : D → Hd → DK → Prop) : DRL := fun xs M Q => match xs with
  | [x] => f x M Q
  | _ => False
theorem d1_inv {f : D → Hd → DK → Prop} {xs : List D} {M : Hd} {Q : DK} (h : d1 f xs M Q) : ∃ x, xs = [x] ∧ f x M Q := by
  match xs, h with
  | [x], h => exact ⟨x, rfl, h⟩
theorem Rs.one_ {K : PySem.W.Frag} {H : Hp} {d : D} {vs : List V} (h : Rs K H [d] vs) : ∃ v, vs = [v] ∧ R K H d v := by
  obtain ⟨v, us, rfl, r, rs⟩ := h.ucons
  rw [rs.unil]
  exact ⟨v, rfl, r⟩
theorem Rs.two_ {K : PySem.W.Frag} {H : Hp} {d e : D} {vs : List V} (h : Rs K H [d, e] vs) : ∃ v u, vs = [v, u] ∧ R K H d v ∧ R K H e u := by
  obtain ⟨v, us, rfl, r, rs⟩ := h.ucons
  obtain ⟨u, rfl, r2⟩ := rs.one_
  exact ⟨v, u, rfl, r, r2⟩
def dLen : D → Hd → DK → Prop := fun x M Q => match x with
  | .tup xs => Q (.int xs.length) M
  | .str z => z.length ≤ sizeLine ∧ Q (.int z.length) M
  | .kl _ ns => Q (.int ns.length) M
  | .ref p => (∃ xs, LS M p xs ∧ Q (.int xs.length) M) ∨ (∃ kvs, DK_ M p kvs ∧ Q (.int kvs.length) M)
  | _ => False
theorem RK.len {κ : Type} {K : PySem.W.Frag} {H : Hp} : ∀ {kvs : List (κ × D)} {ws : List (κ × V)}, RK K H kvs ws → ws.length = kvs.length
  | _, _, .nil => rfl
  | _, _, .cons _ t => by simp [RK.len t]
theorem cd_len : CallD X (.builtin "len") (d1 dLen) := by
  have cd : CallR X (.builtin "len") (fun xs H Q => ∃ a kvs, xs = [.ref a] ∧ Rd H a (.dK kvs) ∧ Q (.int kvs.length) H) := by
    intro pins s σ H xs us Q I r h
    obtain ⟨a, kvs, rfl, e, q⟩ := h
    rw [Vals.ref1 r]
    exact d_len I e fun t s' I' => ⟨.int kvs.length, H, I', ⟨t, rfl⟩, q⟩
  refine ⟨_, (call_len_seq.or call_len_str).or cd, fun H M xs vs Q Qd rep rs h q => ?_⟩
  obtain ⟨x, rfl, h⟩ := d1_inv h
  obtain ⟨v, rfl, r⟩ := rs.one_
  cases x with
  | tup xs =>
    obtain ⟨a, us, rfl, s, rs'⟩ := r.untup
    exact .inl (.inl ⟨a, us, rfl, .inr (SqT.of s), by rw [rs'.len]; exact q _ _ _ M Go.refl rep R.int' h⟩)
  | kl p ns =>
    obtain ⟨rfl, s⟩ := r.kl_
    exact .inl (.inl ⟨p, _, rfl, .inl (s H), by rw [List.length_map]; exact q _ _ _ M Go.refl rep R.int' h⟩)
  | str z => exact .inl (.inr ⟨z, by rw [r.str_], h.1, q _ _ _ M Go.refl rep R.int' h.2⟩)
  | ref p =>
    rw [r.ref_]
    rcases h with ⟨xs, l, h⟩ | ⟨kvs, d, h⟩
    · obtain ⟨us, s, rs'⟩ := rep.ls l
      exact .inl (.inl ⟨p, us, rfl, .inl s, by rw [rs'.len]; exact q _ _ _ M Go.refl rep R.int' h⟩)
    · obtain ⟨ws, e, rk⟩ := rep.dk d
      exact .inr ⟨p, ws, rfl, e, by rw [rk.len]; exact q _ _ _ M Go.refl rep R.int' h⟩
  | _ => exact h.elim
def dTupOf : D → Hd → DK → Prop := fun x M Q => match x with
  | .tup xs => Q (.tup xs) M
  | .ref p => ∃ xs, LS M p xs ∧ Q (.tup xs) M
  | _ => False
theorem cd_tuple : CallD X (.type "tuple") (d1 dTupOf) := by
  refine ⟨_, call_tuple_of, fun H M xs vs Q Qd rep rs h q => ?_⟩
  obtain ⟨x, rfl, h⟩ := d1_inv h
  obtain ⟨v, rfl, r⟩ := rs.one_
  cases x with
  | tup xs =>
    obtain ⟨a, us, e, s, rs'⟩ := id r.untup
    subst e
    exact ⟨a, us, rfl, .inr ⟨SqT.of s, q _ _ _ M Go.refl rep r h⟩⟩
  | ref p =>
    rw [r.ref_]
    obtain ⟨xs, l, h⟩ := h
    obtain ⟨us, s, rs'⟩ := rep.ls l
    refine ⟨p, us, rfl, .inl ⟨s, fun l hl => ?_⟩⟩
    obtain ⟨g, rep', r'⟩ := rep.newT hl rs'
    exact q _ _ _ M g rep' r' h
  | _ => exact h.elim
def dListOf : D → Hd → DK → Prop := fun x M Q => match x with
  | .tup xs => ∀ q, M q = none → Q (.ref q) (up M q (.lst xs))
  | .kl _ ns => ∀ q, M q = none → Q (.ref q) (up M q (.lst (ns.map D.int)))
  | .ref p => (∃ xs, LS M p xs ∧ ∀ q, M q = none → Q (.ref q) (up M q (.lst xs))) ∨ (∃ kvs, DK_ M p kvs ∧ ∀ q, M q = none → Q (.ref q) (up M q (.lst (kvs.map fun kv => kD kv.1))))
  | _ => False
theorem RK.keys {K : PySem.W.Frag} {H : Hp} : ∀ {kvs : List (Key × D)} {ws : List (Key × V)}, RK K H kvs ws → Rs K H (kvs.map fun kv => T3.kD kv.1) (ws.map fun kv => kV kv.1)
  | _, _, .nil => Rs.nil
  | _, _, .cons r t => .cons (by have e := r.1; show R K H (T3.kD _) (kV _); rw [e]; exact R.of_kD _) (RK.keys t)
theorem cd_list (hc : X.calm = true) : CallD X (.type "list") (d1 dListOf) := by
  refine ⟨_, call_list_of.or (call_listD hc), fun H M xs vs Q Qd rep rs h q => ?_⟩
  obtain ⟨x, rfl, h⟩ := d1_inv h
  obtain ⟨v, rfl, r⟩ := rs.one_
  cases x with
  | tup xs =>
    obtain ⟨a, us, rfl, s, rs'⟩ := r.untup
    refine .inl ⟨a, us, rfl, .inr (SqT.of s), fun l hl => ?_⟩
    obtain ⟨g, rep'⟩ := rep.newL hl rs'
    exact q _ _ _ _ g rep' R.ref' (h l (rep.free hl))
  | kl p ns =>
    obtain ⟨rfl, s⟩ := r.kl_
    refine .inl ⟨p, _, rfl, .inl (s H), fun l hl => ?_⟩
    obtain ⟨g, rep'⟩ := rep.newL hl (Rs.of_ints ns)
    exact q _ _ _ _ g rep' R.ref' (h l (rep.free hl))
  | ref p =>
    rw [r.ref_]
    rcases h with ⟨xs, l, h⟩ | ⟨kvs, d, h⟩
    · obtain ⟨us, s, rs'⟩ := rep.ls l
      refine .inl ⟨p, us, rfl, .inl s, fun l hl => ?_⟩
      obtain ⟨g, rep'⟩ := rep.newL hl rs'
      exact q _ _ _ _ g rep' R.ref' (h l (rep.free hl))
    · obtain ⟨ws, e, rk⟩ := rep.dk d
      refine .inr ⟨p, ws, rfl, e, fun l hl => ?_⟩
      obtain ⟨g, rep'⟩ := rep.newL hl rk.keys
      exact q _ _ _ _ g rep' R.ref' (h l (rep.free hl))
  | _ => exact h.elim
/-- sorted, of ints -/
def srt (ns : List Int) : List Int := ns.mergeSort fun a b => decide (a ≤ b)
theorem srt_perm (ns : List Int) : (srt ns).Perm ns := List.mergeSort_perm _ _
theorem srt_sorted (ns : List Int) : (srt ns).Pairwise (· ≤ ·) := by
  have h := List.pairwise_mergeSort (le := fun a b : Int => decide (a ≤ b)) (fun a b c h1 h2 => by simp at *; omega) (fun a b => by simp; omega) ns
  exact h.imp fun h => of_decide_eq_true h
theorem srt_unique {ns ms : List Int} (p : ms.Perm ns) (s : ms.Pairwise (· ≤ ·)) : ms = srt ns :=
  List.Perm.eq_of_pairwise (fun a b _ _ h1 h2 => Int.le_antisymm h1 h2) s (srt_sorted ns) (p.trans (srt_perm ns).symm)
def dSorted : D → Hd → DK → Prop := fun x M Q => match x with
  | .ref p => ∃ ns : List Int, LS M p (ns.map D.int) ∧ ∀ q, M q = none → Q (.ref q) (up M q (.lst ((srt ns).map D.int)))
  | _ => False
theorem cd_sorted : CallD X (.builtin "sorted") (d1 dSorted) := by
  refine ⟨_, cr_sortedI, fun H M xs vs Q Qd rep rs h q => ?_⟩
  obtain ⟨x, rfl, h⟩ := d1_inv h
  obtain ⟨v, rfl, r⟩ := rs.one_
  cases x with
  | ref p =>
    rw [r.ref_]
    obtain ⟨ns, l, h⟩ := h
    obtain ⟨us, s, rs'⟩ := rep.ls l
    have e := rs'.ints
    subst e
    refine ⟨p, ns, rfl, s, fun ns' p' h1 h2 hp => ?_⟩
    have e := srt_unique h1 h2
    subst e
    obtain ⟨g, rep'⟩ := rep.newL hp (Rs.of_ints (srt ns))
    exact q _ _ _ _ g rep' R.ref' (h p' (rep.free hp))
  | _ => exact h.elim
/-- sum of a tuple of ints -/
def rSumT (K : PySem.W.Frag) : List V → Hp → VK → Prop := fun vs H Q => ∃ (a : Addr) (ns : List Int), vs = [V.ref a] ∧ SqT K H a (ns.map V.int) ∧ Q (.int ns.sum) H
theorem cr_sumT (hc : X.calm = true) : CallR X (.builtin "sum") (rSumT X.K) := by
  intro pins s σ H vs us Q I r h
  obtain ⟨a, ns, rfl, hs, q⟩ := h
  obtain ⟨its, rv, hl, _⟩ := I.tuple hs
  rw [Vals.ref1 r]
  have hi := rv.ints
  obtain ⟨xs, hx⟩ := hi.allInts.items
  have hn : numsOf its.toArray.toList = ns := by rw [show its.toArray.toList = its from rfl, hi.numsOf]
  have hl2 : s.heap.IsTuple a its.toArray := hl
  rw [hx] at hl2 hn
  rw [nums_intItems] at hn
  refine PySem.W.ktm_sumG (I.ok.hd hc) hl2 fun h' tk t' hk => ?_
  rw [preSum_eq, List.take_of_length_le (by simp), hn]
  exact ⟨.int _, H, I.kept hk, ⟨_, rfl⟩, q⟩
def dSum : D → Hd → DK → Prop := fun x M Q => match x with
  | .ref p => ∃ ns : List Int, LS M p (ns.map D.int) ∧ Q (.int ns.sum) M
  | .tup xs => ∃ ns : List Int, xs = ns.map D.int ∧ Q (.int ns.sum) M
  | _ => False
theorem cd_sum (hc : X.calm = true) : CallD X (.builtin "sum") (d1 dSum) := by
  refine ⟨_, (cr_sum hc).or (cr_sumT hc), fun H M xs vs Q Qd rep rs h q => ?_⟩
  obtain ⟨x, rfl, h⟩ := d1_inv h
  obtain ⟨v, rfl, r⟩ := rs.one_
  cases x with
  | ref p =>
    rw [r.ref_]
    obtain ⟨ns, l, h⟩ := h
    obtain ⟨us, s, rs'⟩ := rep.ls l
    have e := rs'.ints
    subst e
    exact .inl ⟨p, ns, rfl, s, q _ _ _ M Go.refl rep R.int' h⟩
  | tup xs =>
    obtain ⟨ns, e0, hq⟩ := h
    obtain ⟨a, us, rfl, s, rs'⟩ := r.untup
    rw [e0] at rs'
    have e := rs'.ints
    subst e
    exact .inr ⟨a, ns, rfl, SqT.of s, q _ _ _ M Go.refl rep R.int' hq⟩
  | _ => exact h.elim
def dAll : D → Hd → DK → Prop := fun x M Q => match x with
  | .ref p => ∃ bs : List Bool, LS M p (bs.map D.bl) ∧ Q (.bl (bs.all id)) M
  | _ => False
theorem cd_all (hc : X.calm = true) : CallD X (.builtin "all") (d1 dAll) := by
  refine ⟨_, cr_all hc, fun H M xs vs Q Qd rep rs h q => ?_⟩
  obtain ⟨x, rfl, h⟩ := d1_inv h
  obtain ⟨v, rfl, r⟩ := rs.one_
  cases x with
  | ref p =>
    rw [r.ref_]
    obtain ⟨ns, l, h⟩ := h
    obtain ⟨us, s, rs'⟩ := rep.ls l
    have e := rs'.bls
    subst e
    exact ⟨p, ns, rfl, s, q _ _ _ M Go.refl rep R.bl' h⟩
  | _ => exact h.elim
def dAny : D → Hd → DK → Prop := fun x M Q => match x with
  | .ref p => ∃ bs : List Bool, LS M p (bs.map D.bl) ∧ Q (.bl (bs.any id)) M
  | _ => False
theorem cd_any (hc : X.calm = true) : CallD X (.builtin "any") (d1 dAny) := by
  refine ⟨_, cr_any hc, fun H M xs vs Q Qd rep rs h q => ?_⟩
  obtain ⟨x, rfl, h⟩ := d1_inv h
  obtain ⟨v, rfl, r⟩ := rs.one_
  cases x with
  | ref p =>
    rw [r.ref_]
    obtain ⟨ns, l, h⟩ := h
    obtain ⟨us, s, rs'⟩ := rep.ls l
    have e := rs'.bls
    subst e
    exact ⟨p, ns, rfl, s, q _ _ _ M Go.refl rep R.bl' h⟩
  | _ => exact h.elim
def dInt : D → Hd → DK → Prop := fun x M Q => match x with
  | .int i => Q (.int i) M
  | .bl k => Q (.int (if k then 1 else 0)) M
  | _ => False
theorem cd_int : CallD X (.type "int") (d1 dInt) := by
  refine ⟨_, call_int1, fun H M xs vs Q Qd rep rs h q => ?_⟩
  obtain ⟨x, rfl, h⟩ := d1_inv h
  obtain ⟨v, rfl, r⟩ := rs.one_
  cases x with
  | int i => exact .inl ⟨i, by rw [r.int_], q _ _ _ M Go.refl rep R.int' h⟩
  | bl k => exact .inr ⟨k, by rw [r.bl_], q _ _ _ M Go.refl rep R.int' h⟩
  | _ => exact h.elim
def dAbs : D → Hd → DK → Prop := fun x M Q => match x with
  | .int i => Q (.int (if i < 0 then -i else i)) M
  | _ => False
theorem cd_abs : CallD X (.builtin "abs") (d1 dAbs) := by
  refine ⟨_, call_abs, fun H M xs vs Q Qd rep rs h q => ?_⟩
  obtain ⟨x, rfl, h⟩ := d1_inv h
  obtain ⟨v, rfl, r⟩ := rs.one_
  cases x with
  | int i => exact ⟨i, by rw [r.int_], q _ _ _ M Go.refl rep R.int' h⟩
  | _ => exact h.elim
/-- max, min: of two ints, of a list of ints -/
def dMax : DRL := fun xs M Q => match xs with
  | [.int i, .int j] => Q (.int (max i j)) M
  | [.ref p] => ∃ ns : List Int, LS M p (ns.map D.int) ∧ 0 < ns.length ∧ ∀ m, m ∈ ns → (∀ y, y ∈ ns → y ≤ m) → Q (.int m) M
  | _ => False
def dMin : DRL := fun xs M Q => match xs with
  | [.int i, .int j] => Q (.int (min i j)) M
  | [.ref p] => ∃ ns : List Int, LS M p (ns.map D.int) ∧ 0 < ns.length ∧ ∀ m, m ∈ ns → (∀ y, y ∈ ns → m ≤ y) → Q (.int m) M
  | _ => False
theorem cd_max (hc : X.calm = true) : CallD X (.builtin "max") dMax := by
  refine ⟨_, (call_max2 hc).or (cr_max hc), fun H M xs vs Q Qd rep rs h q => ?_⟩
  unfold dMax at h
  split at h
  · rename_i i j
    obtain ⟨v, u, rfl, r1, r2⟩ := rs.two_
    have e : (if j > i then j else i) = max i j := by split <;> omega
    exact .inl ⟨i, j, by rw [r1.int_, r2.int_], by rw [e]; exact q _ _ _ M Go.refl rep R.int' h⟩
  · obtain ⟨v, rfl, r⟩ := rs.one_
    obtain ⟨ns, l, h0, h⟩ := h
    obtain ⟨us, s, rs'⟩ := rep.ls l
    have e := rs'.ints
    subst e
    exact .inr ⟨_, ns, by rw [r.ref_], s, h0, fun m h1 h2 => q _ _ _ M Go.refl rep R.int' (h m h1 h2)⟩
  · exact h.elim
theorem cd_min (hc : X.calm = true) : CallD X (.builtin "min") dMin := by
  refine ⟨_, (call_min2 hc).or (cr_min hc), fun H M xs vs Q Qd rep rs h q => ?_⟩
  unfold dMin at h
  split at h
  · rename_i i j
    obtain ⟨v, u, rfl, r1, r2⟩ := rs.two_
    have e : (if j < i then j else i) = min i j := by split <;> omega
    exact .inl ⟨i, j, by rw [r1.int_, r2.int_], by rw [e]; exact q _ _ _ M Go.refl rep R.int' h⟩
  · obtain ⟨v, rfl, r⟩ := rs.one_
    obtain ⟨ns, l, h0, h⟩ := h
    obtain ⟨us, s, rs'⟩ := rep.ls l
    have e := rs'.ints
    subst e
    exact .inr ⟨_, ns, by rw [r.ref_], s, h0, fun m h1 h2 => q _ _ _ M Go.refl rep R.int' (h m h1 h2)⟩
  · exact h.elim
/-! ### isinstance -/
def subT (t n : String) : Bool := t == n || (t == "bool" && n == "int")
theorem kit_sub : ∀ t ∈ ["int", "bool", "str", "tuple", "list", "dict", "NoneType"], ∀ n ∈ ["int", "bool", "str", "tuple", "list", "dict"], kitB t n = some (subT t n) := by decide +kernel
def tyD : D → Option String
  | .non => some "NoneType"
  | .bl _ => some "bool"
  | .int _ => some "int"
  | .str _ => some "str"
  | .tup _ => some "tuple"
  | _ => none
def isT (n : String) : D → Hd → DK → Prop := fun x M Q => match x with
  | .non => Q (.bl false) M
  | .bl _ => Q (.bl (subT "bool" n)) M
  | .int _ => Q (.bl (subT "int" n)) M
  | .str _ => Q (.bl (subT "str" n)) M
  | .tup _ => Q (.bl (subT "tuple" n)) M
  | .ref p => (∃ xs, M p = some (.lst xs) ∧ Q (.bl (subT "list" n)) M) ∨ (∃ kvs, M p = some (.dK kvs) ∧ Q (.bl (subT "dict" n)) M)
  | _ => False
def dIsi : DRL := fun xs M Q => match xs with
  | [x, .ty n] => n ∈ ["int", "bool", "str", "tuple", "list", "dict"] ∧ isT n x M Q
  | _ => False
theorem cd_isi : CallD X (.builtin "isinstance") dIsi := by
  refine ⟨_, call_isi, fun H M xs vs Q Qd rep rs h q => ?_⟩
  unfold dIsi at h
  split at h
  · rename_i x n
    obtain ⟨v, u, rfl, r1, r2⟩ := rs.two_
    obtain ⟨hn, h⟩ := h
    have e2 := r2.ty_
    subst e2
    have fin : ∀ t b, t ∈ ["int", "bool", "str", "tuple", "list", "dict", "NoneType"] → b = subT t n → TyX X.K H v (.type t) → Qd (.bl b) M → rIsi X.K [v, .ty n] H Q := fun t b ht hb ty hq =>
      ⟨v, .ty n, .type t, .type n, b, rfl, .ty n, ty, kit_ty (by rw [hb]; exact kit_sub t ht n hn), q _ _ _ M Go.refl rep R.bl' hq⟩
    cases x with
    | non =>
      have : subT "NoneType" n = false := by
        have : ∀ n ∈ ["int", "bool", "str", "tuple", "list", "dict"], subT "NoneType" n = false := by decide
        exact this n hn
      exact fin "NoneType" false (by decide) this.symm (by rw [r1.non_]; exact .base .non) h
    | bl b => exact fin "bool" _ (by decide) rfl (by rw [r1.bl_]; exact .base (.bl b)) h
    | int b => exact fin "int" _ (by decide) rfl (by rw [r1.int_]; exact .base (.int b)) h
    | str b => exact fin "str" _ (by decide) rfl (by rw [r1.str_]; exact .base (.str b)) h
    | tup xs =>
      obtain ⟨a, us, e, s, rs'⟩ := r1.untup
      exact fin "tuple" _ (by decide) rfl (by rw [e]; exact .base (.tup s)) h
    | ref p =>
      have e := r1.ref_
      rcases h with ⟨xs, l, h⟩ | ⟨kvs, d, h⟩
      · obtain ⟨us, s, rs'⟩ := rep.lst l
        exact fin "list" _ (by decide) rfl (by rw [e]; exact .base (.lst s)) h
      · obtain ⟨ws, s, rk⟩ := rep p _ d
        exact fin "dict" _ (by decide) rfl (by rw [e]; exact .base (.dK s)) h
    | ty n => exact h.elim
    | kl _ _ => exact h.elim
  · exact h.elim
end
end T3
namespace T3
open PySem PySem.Spec PyProof.Rows L2
/-! ### blocks -/
section
variable {X : Cx} {B : Am} {st : Stmt} {rest : List Stmt} {t u : DSt} {e : Expr} {de : DE} {pos : Pos}
def dNext : DSt := fun D δ M => D.nx δ M
def dSeq (t u : DSt) : DSt := fun D δ M => t { D with nx := u D } δ M
theorem sndSeq {K : PySem.W.Frag} {a b : TS} (h : SndS K B a t) (k : SndS K B b u) : SndS K B (tSeq a b) (dSeq t u) := fun σ H δ M D Dd sl rep bb q eo =>
  h σ H δ M { D with nx := b D } { Dd with nx := u Dd } sl rep bb q ⟨fun σ' H' δ' M' g sl' rep' q' => k σ' H' δ' M' D Dd sl' rep' (B.pres _ _ _ _ g bb) q' (eo.mono g), eo.rt, eo.bk, eo.ct⟩
theorem b_nil : PB3 X B [] dNext := ⟨_, pss_nil, fun σ H δ M D Dd sl rep bb q eo => eo.nx _ _ _ _ Go.refl sl rep q⟩
theorem b_cons (h : PS3 X B st t) (k : PB3 X B rest u) : PB3 X B (st :: rest) (dSeq t u) := by
  obtain ⟨a, h1, h2⟩ := h.ex
  obtain ⟨b, k1, k2⟩ := k.ex
  exact ⟨_, pss_cons h1 k1, sndSeq h2 k2⟩
theorem b_one (h : PS3 X B st t) : PB3 X B [st] t := by
  obtain ⟨a, h1, h2⟩ := h.ex
  exact ⟨_, pss_one h1, h2⟩
/-- the ways behind the first joined by a word -/
def dCutS (t u : DSt) : DSt := fun D δ M => ∃ W : DS → Hd → Prop, t { D with nx := W } δ M ∧ ∀ δ' M', W δ' M' → u D δ' M'
theorem b_cut (h : PS3 X B st t) (k : PB3 X B rest u) : PB3 X B (st :: rest) (dCutS t u) := by
  obtain ⟨a, h1, h2⟩ := h.ex
  obtain ⟨b, k1, k2⟩ := k.ex
  refine ⟨_, pss_cons h1 k1, fun σ H δ M D Dd sl rep bb ⟨W, q1, q2⟩ eo => ?_⟩
  exact h2 σ H δ M { D with nx := b D } { Dd with nx := W } sl rep bb q1 ⟨fun σ' H' δ' M' g sl' rep' q' => k2 σ' H' δ' M' D Dd sl' rep' (B.pres _ _ _ _ g bb) (q2 _ _ q') (eo.mono g), eo.rt, eo.bk, eo.ct⟩
def dBrk : DSt := fun D δ M => D.bk δ M
def dCont : DSt := fun D δ M => D.ct δ M
theorem s_pass : PS3 X B (.Pass pos) dNext := ⟨_, ps_pass, fun σ H δ M D Dd sl rep bb q eo => eo.nx _ _ _ _ Go.refl sl rep q⟩
theorem s_brk : PS3 X B (.Break pos) dBrk := ⟨_, ps_break, fun σ H δ M D Dd sl rep bb q eo => eo.bk _ _ _ _ Go.refl sl rep q⟩
theorem s_cont : PS3 X B (.Continue pos) dCont := ⟨_, ps_continue, fun σ H δ M D Dd sl rep bb q eo => eo.ct _ _ _ _ Go.refl sl rep q⟩
def dNever : DSt := fun _ _ _ => False
theorem s_never : PS3 X B st dNever := ⟨_, ps_never, fun σ H δ M D Dd sl rep bb q eo => q.elim⟩
theorem b_never {sts : List Stmt} : PB3 X B sts dNever := ⟨_, pss_never, fun σ H δ M D Dd sl rep bb q eo => q.elim⟩
def dExpr (de : DE) : DSt := fun D δ M => de δ M fun _ M1 => D.nx δ M1
theorem s_expr (h : PE3 X B e de) (hs : swapsWith e none pos.line X.env = pure false := by rfl) : PS3 X B (.Expr e pos) (dExpr de) := by
  obtain ⟨t, h1, h2⟩ := h.ex
  exact ⟨_, ps_expr h1 hs, fun σ H δ M D Dd sl rep bb q eo => h2 σ H δ M _ _ sl rep bb q fun v H' x M' g rep' r q' => eo.nx _ _ _ _ g (sl.mono (rep.tx g)) rep' q'⟩
def dRet (de : DE) : DSt := fun D δ M => de δ M D.rt
theorem s_ret (h : PE3 X B e de) : PS3 X B (.Return (some e) pos) (dRet de) := by
  obtain ⟨t, h1, h2⟩ := h.ex
  exact ⟨_, ps_ret h1, fun σ H δ M D Dd sl rep bb q eo => h2 σ H δ M _ _ sl rep bb q fun v H' x M' g rep' r q' => eo.rt _ _ _ _ g rep' r q'⟩
def dRetN : DSt := fun D _ M => D.rt .non M
theorem s_retN : PS3 X B (.Return none pos) dRetN := ⟨_, ps_retN, fun σ H δ M D Dd sl rep bb q eo => eo.rt _ _ _ _ Go.refl rep R.non' q⟩
def dIfS (c : DT) (t u : DSt) : DSt := fun D δ M => c δ M fun k M1 => (k = true → t D δ M1) ∧ (k = false → u D δ M1)
theorem s_if {c : Expr} {a b : List Stmt} {dc : DT} (hc : PT3 X B c dc) (ha : PB3 X B a t) (hb : PB3 X B b u) : PS3 X B (.If c a b pos) (dIfS dc t u) := by
  obtain ⟨tc, c1, c2⟩ := hc.ex
  obtain ⟨ta, a1, a2⟩ := ha.ex
  obtain ⟨tb, b1, b2⟩ := hb.ex
  refine ⟨_, ps_if c1 a1 b1, fun σ H δ M D Dd sl rep bb q eo => c2 σ H δ M _ _ sl rep bb q fun k H' M' g rep' ⟨q1, q2⟩ => ?_⟩
  have sl' := sl.mono (rep.tx g)
  have bb' := B.pres _ _ _ _ g bb
  cases k with
  | true => exact iteT (a2 σ H' δ M' D Dd sl' rep' bb' (q1 rfl) (eo.mono g))
  | false => exact iteF (b2 σ H' δ M' D Dd sl' rep' bb' (q2 rfl) (eo.mono g))
/-! ### targets -/
inductive Tg where
  | nm (i : Nat) | t2 (i j : Nat) | t3 (i j k : Nat)
def Tg.L (K : PySem.W.Frag) : Tg → TG
  | .nm i => gName i
  | .t2 i j => gTup K 2 (gCons (gName i) (gCons (gName j) gNil))
  | .t3 i j k => gTup K 3 (gCons (gName i) (gCons (gName j) (gCons (gName k) gNil)))
def Tg.ix : Tg → List Nat
  | .nm i => [i]
  | .t2 i j => [i, j]
  | .t3 i j k => [i, j, k]
def dTg (g : Tg) (x : D) (δ : DS) (Q : DS → Prop) : Prop := match g, x with
  | .nm i, x => Q (δ.set i (some x))
  | .t2 i j, .tup [a, b] => Q ((δ.set i (some a)).set j (some b))
  | .t3 i j k, .tup [a, b, c] => Q (((δ.set i (some a)).set j (some b)).set k (some c))
  | _, _ => False
theorem wipe_set {σ : L2.St} {v : Option V} {i : Nat} : ∀ {vs : List Nat}, i ∈ vs → L2.wipe (σ.set i v) vs = L2.wipe σ vs
  | j :: vs, h => by
    show (L2.wipe (σ.set i v) vs).set j none = (L2.wipe σ vs).set j none
    by_cases e : i ∈ vs
    · rw [wipe_set e]
    · have hj : i = j := by
        rcases List.mem_cons.mp h with h | h
        · exact h
        · exact absurd h e
      subst hj
      have : ∀ (vs : List Nat) (σ : L2.St), i ∉ vs → (L2.wipe (σ.set i v) vs) = (L2.wipe σ vs).set i v := by
        intro vs
        induction vs with
        | nil => intro σ _; rfl
        | cons k vs ih =>
          intro σ hk
          show (L2.wipe (σ.set i v) vs).set k none = ((L2.wipe σ vs).set k none).set i v
          have h1 : i ≠ k := fun z => hk (by rw [z]; exact List.mem_cons_self)
          rw [ih σ fun z => hk (List.mem_cons_of_mem _ z), List.set_comm _ _ h1]
      rw [this vs σ e, List.set_set]
  | [], h => by cases h
theorem tg_run {K : PySem.W.Frag} (g : Tg) {x : D} {v : V} {σ : L2.St} {δ : DS} {H : Hp} {M : Hd} {Q : L2.St → Hp → Prop} {Qd : DS → Prop} (sl : Sl K H σ δ) (r : R K H x v) (h : dTg g x δ Qd)
    (q : ∀ σ2 δ2, Sl K H σ2 δ2 → Qd δ2 → (∀ vs, (∀ i ∈ g.ix, i ∈ vs) → L2.wipe σ2 vs = L2.wipe σ vs) → Q σ2 H) : g.L K v σ H Q := by
  unfold dTg at h
  split at h
  · exact q _ _ (sl.set _ r) h fun vs hv => wipe_set (hv _ List.mem_cons_self)
  · rename_i i j a b
    obtain ⟨p, us, rfl, s, rs⟩ := r.untup
    obtain ⟨v1, v2, rfl, r1, r2⟩ := rs.two_
    refine ⟨p, _, rfl, SqT.of s, rfl, v1, [v2], rfl, v2, [], rfl, rfl, ?_⟩
    refine q _ _ ((sl.set i r1).set j r2) h fun vs hv => ?_
    rw [wipe_set (hv j (by simp [Tg.ix])), wipe_set (hv i (by simp [Tg.ix]))]
  · rename_i i j k a b c
    obtain ⟨p, us, rfl, s, rs⟩ := r.untup
    obtain ⟨v1, us', rfl, r1, rs⟩ := rs.ucons
    obtain ⟨v2, v3, rfl, r2, r3⟩ := rs.two_
    refine ⟨p, _, rfl, SqT.of s, rfl, v1, _, rfl, v2, _, rfl, v3, [], rfl, rfl, ?_⟩
    refine q _ _ (((sl.set i r1).set j r2).set k r3) h fun vs hv => ?_
    rw [wipe_set (hv k (by simp [Tg.ix])), wipe_set (hv j (by simp [Tg.ix])), wipe_set (hv i (by simp [Tg.ix]))]
  · exact h.elim
structure PG3 (X : Cx) (target : Expr) (g : Tg) : Prop where
  ex : PG X target (g.L X.K)
theorem g_nm (i : Nat) {x : Str} (hN : X.N.Nodup) (hi : X.N[i]? = some x := by rfl) (hx : Loc X.env.scope x := by first | exact Or.inl rfl | exact Or.inr rfl) (hf : X.fn x = true ∨ X.env.scope.names.lookup x = some .local := by first | exact .inl rfl | exact .inr rfl | assumption) : PG3 X (.Name x pos) (.nm i) := ⟨pg_name hN hi hx hf⟩
theorem g_t2 {a b : Expr} {i j k : Nat} (hc : X.calm = true) (h1 : PG3 X a (.nm i)) (h2 : PG3 X b (.nm j)) (hs1 : (assignEach [a, b] X.env).map (·.2) = assign a X.env :: (assignEach [b] X.env).map (·.2) := by rfl) (hs2 : (assignEach [b] X.env).map (·.2) = assign b X.env :: (assignEach [] X.env).map (·.2) := by rfl)
    (hn : (assignEach [a, b] X.env).length = 2 := by rfl) (hst : (assignEach [a, b] X.env).findIdx? (·.1) = none := by rfl) : PG3 X (.Tuple [a, b] k pos) (.t2 i j) :=
  ⟨pg_tup hc (pgs_cons h1.ex (pgs_cons h2.ex pgs_nil hs2) hs1) hn hst⟩
theorem g_t3 {a b c : Expr} {i j l k : Nat} (hc : X.calm = true) (h1 : PG3 X a (.nm i)) (h2 : PG3 X b (.nm j)) (h3 : PG3 X c (.nm l)) (hs1 : (assignEach [a, b, c] X.env).map (·.2) = assign a X.env :: (assignEach [b, c] X.env).map (·.2) := by rfl) (hs2 : (assignEach [b, c] X.env).map (·.2) = assign b X.env :: (assignEach [c] X.env).map (·.2) := by rfl)
    (hs3 : (assignEach [c] X.env).map (·.2) = assign c X.env :: (assignEach [] X.env).map (·.2) := by rfl) (hn : (assignEach [a, b, c] X.env).length = 3 := by rfl) (hst : (assignEach [a, b, c] X.env).findIdx? (·.1) = none := by rfl) : PG3 X (.Tuple [a, b, c] k pos) (.t3 i j l) :=
  ⟨pg_tup hc (pgs_cons h1.ex (pgs_cons h2.ex (pgs_cons h3.ex pgs_nil hs3) hs2) hs1) hn hst⟩
/-! ### assignments -/
def dSet (i : Nat) (de : DE) : DSt := fun D δ M => de δ M fun x M1 => D.nx (δ.set i (some x)) M1
theorem s_set (i : Nat) {x : Str} {pos' : Pos} (hN : X.N.Nodup) (he : PE3 X B e de) (hi : X.N[i]? = some x := by rfl) (hx : Loc X.env.scope x := by first | exact Or.inl rfl | exact Or.inr rfl) (hs : swapsWith e (some (.Name x pos')) pos.line X.env = pure false := by rfl)
    (hf : X.fn x = true ∨ X.env.scope.names.lookup x = some .local := by first | exact .inl rfl | exact .inr rfl | assumption) : PS3 X B (.Assign [.Name x pos'] e pos) (dSet i de) := by
  obtain ⟨t, h1, h2⟩ := he.ex
  exact ⟨_, ps_set hN hi hx h1 hs hf, fun σ H δ M D Dd sl rep bb q eo => h2 σ H δ M _ _ sl rep bb q fun v H' x M' g rep' r q' => eo.nx _ _ _ _ g ((sl.mono (rep.tx g)).set i r) rep' q'⟩
def dAsg (g : Tg) (de : DE) : DSt := fun D δ M => de δ M fun x M1 => dTg g x δ fun δ2 => D.nx δ2 M1
theorem s_asg {tg : Expr} {g : Tg} (he : PE3 X B e de) (hg : PG3 X tg g) (hs : swapsWithSole [tg] e pos.line X.env = pure false := by rfl) (hw : swappedStores [tg] e X.env = pure none := by rfl)
    (h1 : (assignEach [tg] X.env).map (·.2) = [assign tg X.env] := by rfl) : PS3 X B (.Assign [tg] e pos) (dAsg g de) := by
  obtain ⟨t, a1, a2⟩ := he.ex
  refine ⟨_, ps_asg a1 hg.ex hs hw h1, fun σ H δ M D Dd sl rep bb q eo => a2 σ H δ M _ _ sl rep bb q fun v H' x M' gg rep' r q' => ?_⟩
  exact tg_run g (M := M') (sl.mono (rep.tx gg)) r q' fun σ2 δ2 sl2 q2 _ => eo.nx _ _ _ _ gg sl2 rep' q2
/-- name op= e -/
structure PIp3 (X : Cx) (op : Operator) (rd : DR2) : Prop where
  ex : ∃ r, PIp X op r ∧ SndR2 X.K r rd
def dAug (i : Nat) (de : DE) (rd : DR2) : DSt := fun D δ M => ∃ x, δ[i]? = some (some x) ∧ de δ M fun y M1 => rd x y M1 fun z M2 => D.nx (δ.set i (some z)) M2
theorem s_aug (i : Nat) {x : Str} {op : Operator} {rd : DR2} {pos' : Pos} (hN : X.N.Nodup) (ho : PIp3 X op rd) (he : PE3 X B e de) (hi : X.N[i]? = some x := by rfl) (hx : Loc X.env.scope x := by first | exact Or.inl rfl | exact Or.inr rfl)
    (hf : X.fn x = true ∨ X.env.scope.names.lookup x = some .local := by first | exact .inl rfl | exact .inr rfl | assumption) : PS3 X B (.AugAssign (.Name x pos') op e pos) (dAug i de rd) := by
  obtain ⟨t, h1, h2⟩ := he.ex
  obtain ⟨r, o1, o2⟩ := ho.ex
  refine ⟨_, ps_aug hN hi hx h1 o1 hf, fun σ H δ M D Dd sl rep bb ⟨x, ex, q⟩ eo => ?_⟩
  obtain ⟨v, ev, rv⟩ := sl.at_ i x ex
  refine ⟨v, ev, h2 σ H δ M _ _ sl rep bb q fun u H1 y M1 g1 rep1 ry q1 => ?_⟩
  have t1 := rep.tx g1
  refine o2 H1 M1 x y v u _ _ rep1 (rv.mono t1) ry q1 fun w H2 z M2 g2 rep2 rz q2 => ?_
  exact eo.nx _ _ _ _ (g1.trans g2) (((sl.mono t1).mono (rep1.tx g2)).set i rz) rep2 q2
theorem ip_add3 : PIp3 X .Add (dI0 fun i j => .int (i + j)) := ⟨_, ip_add, fun H M x y v u Q Qd rep r1 r2 h q => by
  obtain ⟨i, j, rfl, rfl, h⟩ := dI0_inv h
  exact ⟨i, j, r1.int_, r2.int_, q _ _ _ M Go.refl rep R.int' h⟩⟩
theorem ip_sub3 : PIp3 X .Sub (dI0 fun i j => .int (i - j)) := ⟨_, ip_sub, fun H M x y v u Q Qd rep r1 r2 h q => by
  obtain ⟨i, j, rfl, rfl, h⟩ := dI0_inv h
  exact ⟨i, j, r1.int_, r2.int_, q _ _ _ M Go.refl rep R.int' h⟩⟩
theorem ip_mul3 : PIp3 X .Mult (dI CMul fun i j => .int (i * j)) := ⟨_, (fun pins s σ H x y v u Q I rx ry h => iop_mul pins s σ H x y v u Q I rx ry h), snd_I fun _ _ _ => R.int'⟩
/-- o[i] = v -/
abbrev DSetR := D → D → D → Hd → (Hd → Prop) → Prop
structure PSet3 (X : Cx) (rd : DSetR) : Prop where
  ex : ∃ r, PSet X r ∧ ∀ (H : Hp) (M : Hd) (o i v : D) (ov iv vv : V) (Q : Hp → Prop) (Qd : Hd → Prop), Rep X.K H M → R X.K H o ov → R X.K H i iv → R X.K H v vv → rd o i v M Qd → (∀ H' M', Go H M H' M' → Rep X.K H' M' → Qd M' → Q H') → r ov iv vv H Q
variable {o i : Expr} {do_ di : DE}
def dPutI (do_ di de : DE) (rd : DSetR) : DSt := fun D δ M => de δ M fun x M1 => do_ δ M1 fun y M2 => di δ M2 fun z M3 => rd y z x M3 fun M4 => D.nx δ M4
theorem s_put {rd : DSetR} {pos' : Pos} (hr : PSet3 X rd) (ho : PE3 X B o do_) (hi : PE3 X B i di) (he : PE3 X B e de) (ha : ∀ v, assign (.Subscript o i pos') X.env v = (do
      let ov ← holding [v] (eval o X.env)
      let iv ← holding [v, ov] (eval i X.env)
      standAt pos'
      holding [v, ov, iv] (setItem ov iv v)
      release [v, ov, iv] []) := by intro _; rfl) (hs : swapsWithSole [.Subscript o i pos'] e pos.line X.env = pure false := by rfl) (hw : swappedStores [.Subscript o i pos'] e X.env = pure none := by rfl)
    (h1 : (assignEach [.Subscript o i pos'] X.env).map (·.2) = [assign (.Subscript o i pos') X.env] := by rfl) : PS3 X B (.Assign [.Subscript o i pos'] e pos) (dPutI do_ di de rd) := by
  obtain ⟨r, r1, r2⟩ := hr.ex
  obtain ⟨to, o1, o2⟩ := ho.ex
  obtain ⟨ti, i1, i2⟩ := hi.ex
  obtain ⟨te, e1, e2⟩ := he.ex
  refine ⟨_, ps_asg e1 (pg_sub o1 i1 r1 ha) hs hw h1, fun σ H δ M D Dd sl rep bb q eo => e2 σ H δ M _ _ sl rep bb q fun v H1 x M1 g1 rep1 rx q1 => ?_⟩
  have sl1 := sl.mono (rep.tx g1)
  have bb1 := B.pres _ _ _ _ g1 bb
  refine o2 σ H1 δ M1 _ _ sl1 rep1 bb1 q1 fun ov H2 y M2 g2 rep2 ry q2 => ?_
  have sl2 := sl1.mono (rep1.tx g2)
  have bb2 := B.pres _ _ _ _ g2 bb1
  refine i2 σ H2 δ M2 _ _ sl2 rep2 bb2 q2 fun iv H3 z M3 g3 rep3 rz q3 => ?_
  have t3 := rep2.tx g3
  refine r2 H3 M3 y z x ov iv v _ _ rep3 (ry.mono t3) rz ((rx.mono (rep1.tx g2)).mono t3) q3 fun H4 M4 g4 rep4 q4 => ?_
  exact eo.nx _ _ _ _ (((g1.trans g2).trans g3).trans g4) ((sl2.mono t3).mono (rep3.tx g4)) rep4 q4
def putKD {κ : Type} [DecidableEq κ] (kvs : List (κ × D)) (k : κ) (v : D) : List (κ × D) := if (kvs.any fun kv => decide (kv.1 = k)) = true then kvs.map (fun kv => if kv.1 = k then (kv.1, v) else kv) else kvs ++ [(k, v)]
theorem RK.anyk {κ : Type} [DecidableEq κ] {K : PySem.W.Frag} {H : Hp} (k : κ) : ∀ {kvs : List (κ × D)} {ws : List (κ × V)}, RK K H kvs ws → (ws.any fun kv => decide (kv.1 = k)) = kvs.any fun kv => decide (kv.1 = k)
  | _, _, .nil => rfl
  | _, _, .cons r t => by rw [List.any_cons, List.any_cons, RK.anyk k t, r.1]
theorem RK.app {κ : Type} {K : PySem.W.Frag} {H : Hp} : ∀ {a c : List (κ × D)} {b d : List (κ × V)}, RK K H a b → RK K H c d → RK K H (a ++ c) (b ++ d)
  | _, _, _, _, .nil, s => s
  | _, _, _, _, .cons r t, s => .cons r (RK.app t s)
theorem RK.put {κ : Type} [DecidableEq κ] {K : PySem.W.Frag} {H : Hp} {kvs : List (κ × D)} {ws : List (κ × V)} (h : RK K H kvs ws) (k : κ) {d : D} {v : V} (r : R K H d v) : RK K H (putKD kvs k d) (putK ws k v) := by
  have hm : ∀ {kvs : List (κ × D)} {ws : List (κ × V)}, RK K H kvs ws → RK K H (kvs.map fun kv => if kv.1 = k then (kv.1, d) else kv) (ws.map fun kv => if kv.1 = k then (kv.1, v) else kv) := by
    intro kvs ws h
    induction h with
    | nil => exact .nil
    | @cons a b l1 l2 r' t ih =>
      refine .cons ?_ ih
      show (if a.1 = k then (a.1, d) else a).1 = (if b.1 = k then (b.1, v) else b).1 ∧ R K H (if a.1 = k then (a.1, d) else a).2 (if b.1 = k then (b.1, v) else b).2
      by_cases e : a.1 = k
      · have e' : b.1 = k := by rw [← r'.1]; exact e
        rw [if_pos e, if_pos e']
        exact ⟨r'.1, r⟩
      · have e' : ¬ b.1 = k := by rw [← r'.1]; exact e
        rw [if_neg e, if_neg e']
        exact r'
  unfold putKD putK
  rw [RK.anyk k h]
  by_cases e : (kvs.any fun kv => decide (kv.1 = k)) = true
  · rw [if_pos e, if_pos e]
    exact hm h
  · rw [if_neg e, if_neg e]
    exact h.app (.cons ⟨rfl, r⟩ .nil)
theorem len_putKD {κ : Type} [DecidableEq κ] (kvs : List (κ × D)) (k : κ) (v : D) : (putKD kvs k v).length ≤ kvs.length + 1 := by
  unfold putKD
  split
  · rw [List.length_map]; exact Nat.le_succ _
  · simp
def dPut : DSetR := fun o i v M Q => ∃ p, o = .ref p ∧
  ((∃ (xs : List D) (k : Int) (j : Nat), i = .int k ∧ M p = some (.lst xs) ∧ ixN xs.length k = some j ∧ Q (up M p (.lst (xs.set j v)))) ∨
   (∃ (kvs : List (Key × D)) (k : Key), i = kD k ∧ M p = some (.dK kvs) ∧ kvs.length < sizeLine ∧ Q (up M p (.dK (putKD kvs k v)))) ∨
   (∃ (kvs : List (List Key × D)) (ks : List Key), i = .tup (ks.map kD) ∧ M p = some (.dT kvs) ∧ kvs.length < sizeLine ∧ Q (up M p (.dT (putKD kvs ks v)))))
theorem set_dictR (hu : X.A.units + 1 < cLine) : PSet X (fun o i v H Q => ∃ a H', o = .ref a ∧ DPut H a i v H' ∧ Q H') := by
  intro pins s σ H o i v ov iv u Q I ro ri rv h
  obtain ⟨a, H', rfl, g, q⟩ := h
  cases ro
  exact d_setItem hu I g ri rv fun s' I' => ⟨H', I', q⟩
theorem PSet.or {r r' : TSet} (h : PSet X r) (h' : PSet X r') : PSet X (fun o i v H Q => r o i v H Q ∨ r' o i v H Q) := by
  intro pins s σ H o i v ov iv u Q I ro ri rv q
  rcases q with q | q
  · exact h pins s σ H o i v ov iv u Q I ro ri rv q
  · exact h' pins s σ H o i v ov iv u Q I ro ri rv q
theorem put3 (hu : X.A.units + 1 < cLine) : PSet3 X dPut := by
  refine ⟨_, PSet.or set_list (set_dictR hu), fun H M o i v ov iv vv Q Qd rep ro ri rv h q => ?_⟩
  obtain ⟨p, rfl, h⟩ := h
  rw [ro.ref_]
  rcases h with ⟨xs, k, j, rfl, l, e, h⟩ | ⟨kvs, k, rfl, d, hz, h⟩ | ⟨kvs, ks, rfl, d, hz, h⟩
  · obtain ⟨vs, s, rs⟩ := rep.lst l
    obtain ⟨g, rep'⟩ := rep.putL l (rs.set rv j)
    exact .inl ⟨p, vs, k, j, rfl, ri.int_, s, by rw [rs.len]; exact e, q _ _ g rep' h⟩
  · obtain ⟨ws, s, rk⟩ := rep p _ d
    have t : Tx X.K H (upd H p (.dK (putK ws k vv))) := tx_put s trivial
    refine .inr ⟨p, _, rfl, .inl ⟨ws, k, s, ri.kD, by rw [rk.len]; exact hz, rfl⟩, q _ _ (go_put (by rw [d]; exact fun z => nomatch z)) ?_ h⟩
    exact rep.put t (by rw [d]; exact fun _ z => nomatch z) (.inr (by rw [d]; exact fun z => nomatch z)) ⟨_, upd_same, (rk.put k rv).mono t⟩
  · obtain ⟨ws, s, rk⟩ := rep p _ d
    obtain ⟨a, us, rfl, st, rs⟩ := ri.untup
    have ev := R.tupK rs
    subst ev
    have t : Tx X.K H (upd H p (.dT (putK ws ks vv))) := tx_put s trivial
    refine .inr ⟨p, _, rfl, .inr ⟨ws, ks, a, s, rfl, st, by rw [rk.len]; exact hz, rfl⟩, q _ _ (go_put (by rw [d]; exact fun z => nomatch z)) ?_ h⟩
    exact rep.put t (by rw [d]; exact fun _ z => nomatch z) (.inr (by rw [d]; exact fun z => nomatch z)) ⟨_, upd_same, (rk.put ks rv).mono t⟩
end
end T3
/-! enumerate over a tuple: the rule of the layer, made for it -/
namespace PySem
theorem t3_enum_new {v : Value} {o : Obj} {Hh : Heap → Prop} (Bg : Begins v o Hh) :
    Meets (Builtin.«enumerate.__new__» ⟨[.type "enumerate", v], []⟩) (fun _ Rr z => Hh z.heap ∧
      Rr (.ok (.ret (.ref (z.heap.push o).objs.size))) { z with heap := (z.heap.push o).push { cls := .type "enumerate", data := .fields #[.none, .bool false, .ref z.heap.objs.size, rawInt 0, .none, .none] } }) :=
  .of_wp fun pr wo Ar Rr z hz => by
    obtain ⟨hp, g, d, tk, os⟩ := z
    obtain ⟨b0, hz⟩ := hz
    have isSub := sub_enumerate
    have itr : ∀ {A' : Around} {E' : Value → Shared → Prop} {Q' : Value → Shared → Prop}, Q' (.ref hp.objs.size) ⟨hp.push o, g, d, tk, os⟩ → wpAny (model pr wo) A' (pyIter v) Q' E' ⟨hp, g, d, tk, os⟩ :=
      fun k => Bg.iter pr wo _ _ ⟨hp, g, d, tk, os⟩ _ b0 k
    wp_walk using itr
    refine wpAny_stack_any fun _ => wpAny_pure ?_
    split
    · rename_i cl _ _ _ _ _
      cases (cl == Value.type "enumerate") <;> (wp_walk using itr; exact ⟨_, rfl, hz⟩)
    · wp_walk using itr
      exact ⟨_, rfl, hz⟩
theorem t3_enum_begins {prog : Program} {w : World} {A : Around} {E : Value → Shared → Prop} {z : Shared} {v : Value} {o : Obj} {Hh : Heap → Prop} {Q : Value → Shared → Prop} (Bg : Begins v o Hh) (b0 : Hh z.heap)
    (k : ∀ h', IsEnum h' (z.heap.objs.size + 1) z.heap.objs.size 0 .none → h'.get? z.heap.objs.size = some o → (∀ b u, z.heap.get? b = some u → h'.get? b = some u) → Q (.ref (z.heap.objs.size + 1)) { z with heap := h' }) :
    wpAny (model prog w) A (call (.type "enumerate") [v]) Q E z := by
  refine callType_new F.called_enumerate (by decide) (F.typeCall_enumerate_1 _) (F.newCall_enumerate_1 _) (fun ob => F.args_object_init_2 ob _) F.entry_enumerate_new (t3_enum_new Bg) ⟨b0, ?_⟩
  have sz : (z.heap.push o).objs.size = z.heap.objs.size + 1 := Heap.size_push ..
  have top := Heap.get?_push_size (z.heap.push o) (o := { cls := .type "enumerate", data := .fields #[.none, .bool false, .ref z.heap.objs.size, rawInt 0, .none, .none] }) rfl
  rw [sz] at top
  show _ ∧ _
  rw [sz]
  exact ⟨⟨_, top, rfl⟩, k _ top (Heap.get?_push_of_some _ (Heap.get?_push_size _ Bg.free)) fun b u x => Heap.get?_push_of_some _ (Heap.get?_push_of_some _ x)⟩
end PySem
namespace T3
open PySem PySem.Spec PyProof.Rows L2
/-- enumerate(t): pairs of the place and the item -/
def IteT (K : PySem.W.Frag) (a : Addr) : It where
  go := fun i H => ∃ (xs : List V) (x : V), SqT K H a xs ∧ xs[i]? = some x
  yld := fun i H v H' => ∃ T x, v = .ref T ∧ H T = none ∧ H' = upd H T (.tup [.int (i : Nat), x]) ∧ ∀ xs, SqT K H a xs → xs[i]? = some x
  stop := fun i H => ∃ xs : List V, SqT K H a xs ∧ i = xs.length
theorem turn_enumT {P : Program} {w : World} {K : PySem.W.Frag} {elts : List Expr} {kk : Nat} {tpos : Pos} (a e it : Addr) (hea : e ≠ a) (hia : a ≠ it) :
    Turn P w K (.Tuple elts kk tpos) (IteT K a) [e, it] e (fun i h => (∃ old, IsEnum h e it ((i : Nat) : Int) old) ∧ h.IsTupleIter it a i ∧ e ≠ it) where
  mem := List.mem_cons_self
  obj := by
    rintro i h ⟨⟨old, he⟩, ⟨o, ho, hc, hd⟩, _⟩ b hb
    rcases List.mem_cons.mp hb with z | z
    · subst z
      exact ⟨_, he, fun _ q => nomatch q⟩
    · rw [List.mem_singleton.mp z]
      exact ⟨o, ho, fun _ q => by rw [hd] at q; cases q⟩
  keep := by
    rintro i h h' ⟨⟨old, he⟩, hi, hne⟩ k
    exact ⟨⟨old, k e List.mem_cons_self _ he⟩, hi.at fun o q => k it (List.mem_cons_of_mem _ List.mem_cons_self) o q, hne⟩
  item := by
    rintro X rfl rfl rfl hc i pins s σ H E I hf ⟨⟨old, he⟩, hit, hne⟩ ⟨xs, x, hq, hx⟩
    obtain ⟨its, rv, tp, _⟩ := I.tuple hq
    obtain ⟨u, hu, ru⟩ := rv.get hx
    have ht : s.heap.IsTuple a its.toArray := tp
    have inE : e < s.heap.objs.size := Heap.lt_size he
    have inI : it < s.heap.objs.size := by obtain ⟨_, q, _⟩ := hit; exact Heap.lt_size q
    have hlt : i < its.toArray.size := by
      rw [List.size_toArray]
      exact (List.getElem?_eq_some_iff.mp hu).1
    have nin : e ∉ [it, a] := fun m => by
      rcases List.mem_cons.mp m with m | m
      · exact hne m
      · exact hea (List.mem_singleton.mp m)
    refine wpAny_pyNext_enum_itemD (Draws.tuple (A := X.A.in1) (I.ok.hd hc) it a hia its.toArray) he ⟨hit, ht⟩ hlt hne nin fun y h' tk hy out ⟨hit', _⟩ hT hz hk => ?_
    have ey : y = u := by
      have q : its[i]? = some y := by simpa using hy
      rw [hu] at q
      exact (Option.some.inj q).symm
    subst ey
    refine ⟨_, rfl, wpAny_letOwnedTupleGo_enum (s := { s with heap := h', toks := tk + 1 }) out fun h2 back sb => ?_⟩
    have there : h2.get? s.heap.objs.size = some { cls := .type "tuple", data := .seq #[.int i tk, y] } := by
      rw [sb.2 _ (Nat.ne_of_gt inE)]
      exact hT
    have okT : ObjOk X.prog X.w (upd H s.heap.objs.size (.tup [.int (i : Nat), x])) h2 s.heap.objs.size (.tup [.int (i : Nat), x]) :=
      ⟨by show 2 ≤ sizeLine; decide, [.int i tk, y], .cons ⟨_, rfl⟩ (.cons ru .nil), ⟨_, there, rfl, _, rfl⟩⟩
    have J : Inv X pins σ (upd H s.heap.objs.size (.tup [.int (i : Nat), x])) { s with heap := h2, toks := tk + 1 } := by
      refine I.turnedNew (ch := [e, it]) (fun b ob nb q => ?_) hf (Nat.le_refl _) okT
      have nbe : b ≠ e := fun z => nb (by rw [z]; exact List.mem_cons_self)
      have nbi : b ≠ it := fun z => nb (by rw [z]; exact List.mem_cons_of_mem _ List.mem_cons_self)
      rw [sb.2 b nbe]
      exact hk b ob nbe nbi q
    refine ⟨.ref s.heap.objs.size, _, J, rfl, ⟨_, x, rfl, I.hok.fresh (Nat.le_refl _), rfl, fun ys hys => ?_⟩, ⟨⟨y, ?_⟩, hit'.at fun o q => ?_, hne⟩, fun b hb => ?_⟩
    · rw [I.tuple_inj hys hq]
      exact hx
    · rw [show ((i + 1 : Nat) : Int) = (i : Int) + 1 by omega]
      exact back
    · rw [sb.2 it (Ne.symm hne)]
      exact q
    · have lb : b < s.heap.objs.size := by
        rcases List.mem_cons.mp hb with z | z
        · rw [z]; exact inE
        · rw [List.mem_singleton.mp z]; exact inI
      rw [upd_ne (Nat.ne_of_lt lb)]
      exact (hf b hb).1
  done := by
    rintro X rfl rfl rfl hc i pins s σ H E I hf ⟨⟨old, he⟩, hit, hne⟩ ⟨xs, hq, hx⟩
    obtain ⟨its, rv, tp, _⟩ := I.tuple hq
    have ht : s.heap.IsTuple a its.toArray := tp
    have hn : i = its.toArray.size := by rw [List.size_toArray, hx, rv.length]
    subst hn
    obtain ⟨f0, f1, f2, f3, f4, f5⟩ := hf it (List.mem_cons_of_mem _ List.mem_cons_self)
    exact wpAny_pyNext_enum_endD (Draws.tuple (A := X.A.in1) (I.ok.hd hc) it a hia its.toArray) he ⟨hit, ht⟩ fun h' eb => ⟨rfl, I.turned (t' := s.toks) (fun b o nb q => eb b o nb q) f0 f1 f3 f4 f5⟩
  self := fun A i s Q E st h => by
    obtain ⟨⟨_, he⟩, _⟩ := st
    exact wpAny_pyIter_enum he h
/-! ### what is walked: items, and what must stand meanwhile -/
structure DW where
  xs : List D
  G : Hd → Prop
abbrev DI := DS → Hd → (DW → Hd → Prop) → Prop
/-- J walks the items of W -/
def ItOk (K : PySem.W.Frag) (H0 : Hp) (J : It) (W : DW) : Prop := ∀ (i : Nat) H M, Tx K H0 H → Rep K H M → W.G M →
  (∀ x, W.xs[i]? = some x → J.go i H ∧ ∀ v H', J.yld i H v H' → Go H M H' M ∧ Rep K H' M ∧ R K H' x v) ∧ (i = W.xs.length → J.stop i H)
def SndI (K : PySem.W.Frag) (B : Am) (t : TI) (d : DI) : Prop := ∀ (σ : L2.St) (H : Hp) (δ : DS) (M : Hd) (Q : It → Hp → Prop) (Qd : DW → Hd → Prop), Sl K H σ δ → Rep K H M → B.B H M → d δ M Qd →
  (∀ J H' W M', Go H M H' M' → Rep K H' M' → ItOk K H' J W → Qd W M' → Q J H') → t σ H Q
structure PI3 (X : Cx) (B : Am) (tg e : Expr) (d : DI) : Prop where
  ex : ∃ t, PI X tg e t ∧ SndI X.K B t d
section
variable {X : Cx} {B : Am} {tg e e2 e3 : Expr} {de : DE} {dr : DA} {pos p : Pos}
/-- a list, a tuple, a text -/
def iSeq (K : PySem.W.Frag) (tl : TE) : TI := fun σ H R => tl σ H fun x H1 => (∃ a, x = .ref a ∧ ((∃ xs, SqL K H1 a xs) ∧ R (Itl K a) H1 ∨ (∃ xs, SqT K H1 a xs) ∧ R (Itt K a) H1)) ∨ ∃ z, x = .str z ∧ R (Its z) H1
theorem pi_seq {l : Expr} {tl : TE} (hl : PE X l tl) : PI X tg l (iSeq X.K tl) := by
  refine ⟨fun pins s σ H Rr I h => thn (hl.run pins s σ H _ I h) fun v s1 ⟨x, H1, I1, r1, q1⟩ => ?_⟩
  rcases q1 with ⟨a, ex, ⟨⟨xs, hq⟩, q⟩ | ⟨⟨xs, hq⟩, q⟩⟩ | ⟨z, ex, q⟩ <;> subst ex
  · cases r1
    obtain ⟨its, _, pl, _⟩ := I1.list hq
    exact wpAny_pyIter_list pl.isList (pi_one (tk := s1.toks) I1 _ (turn_list a _) ⟨_, Heap.get?_push_size _ rfl, rfl, rfl⟩ q)
  · cases r1
    obtain ⟨its, _, pl, _⟩ := I1.tuple hq
    exact wpAny_pyIter_tuple (show s1.heap.IsTuple a its.toArray from pl) (pi_one (tk := s1.toks) I1 _ (turn_tuple a _) ⟨_, Heap.get?_push_size _ rfl, rfl, rfl⟩ q)
  · obtain ⟨t, rfl⟩ := r1
    by_cases ha : z.cps.all (· < 128) = true
    · exact wpAny_pyIter_ascii ha (pi_one (tk := s1.toks) I1 _ (turn_str _ z t "str_ascii_iterator" (.inl rfl)) ⟨_, Heap.get?_push_size _ rfl, rfl, rfl⟩ q)
    · exact wpAny_pyIter_wide (by simpa using ha) (pi_one (tk := s1.toks) I1 _ (turn_str _ z t "str_iterator" (.inr rfl)) ⟨_, Heap.get?_push_size _ rfl, rfl, rfl⟩ q)
def dSeqI (de : DE) : DI := fun δ M Q => de δ M fun x M1 => match x with
  | .tup xs => Q ⟨xs, fun _ => True⟩ M1
  | .ref p => ∃ xs, LS M1 p xs ∧ Q ⟨xs, fun M => LS M p xs⟩ M1
  | .str z => Q ⟨z.cps.toList.map fun c => .str ⟨#[c]⟩, fun _ => True⟩ M1
  | _ => False
theorem itok_tup {K : PySem.W.Frag} {H0 : Hp} {a : Addr} {vs : List V} {xs : List D} (s : H0 a = some (.tup vs)) (rs : Rs K H0 xs vs) : ItOk K H0 (Itt K a) ⟨xs, fun _ => True⟩ := by
  intro i H M t rep _
  have s' := t _ _ s
  have rs' := rs.mono t
  refine ⟨fun x ex => ?_, fun e => ⟨vs, SqT.of s', by rw [rs.len]; exact Nat.le_of_eq e.symm⟩⟩
  obtain ⟨v, ev, rv⟩ := rs'.get ex
  refine ⟨⟨vs, v, SqT.of s', ev⟩, fun v' H' ⟨eH, hy⟩ => ?_⟩
  subst eH
  have e2 := hy vs (SqT.of s')
  rw [ev] at e2
  cases e2
  exact ⟨Go.refl, rep, rv⟩
theorem itok_list {K : PySem.W.Frag} {H0 : Hp} {p : Addr} {xs : List D} : ItOk K H0 (Itl K p) ⟨xs, fun M => LS M p xs⟩ := by
  intro i H M t rep g
  obtain ⟨vs, s, rs⟩ := rep.ls g
  refine ⟨fun x ex => ?_, fun e => ⟨vs, s, by rw [rs.len]; exact Nat.le_of_eq e.symm⟩⟩
  obtain ⟨v, ev, rv⟩ := rs.get ex
  refine ⟨⟨vs, v, s, ev⟩, fun v' H' ⟨eH, hy⟩ => ?_⟩
  subst eH
  have e2 := hy vs s
  rw [ev] at e2
  cases e2
  exact ⟨Go.refl, rep, rv⟩
theorem itok_str {K : PySem.W.Frag} {H0 : Hp} {z : Str} : ItOk K H0 (Its z) ⟨z.cps.toList.map fun c => .str ⟨#[c]⟩, fun _ => True⟩ := by
  intro i H M t rep _
  refine ⟨fun x ex => ?_, fun e => ?_⟩
  · rw [List.getElem?_map] at ex
    obtain ⟨c, hc, rfl⟩ := Option.map_eq_some_iff.mp ex
    have hc' : z.cps[i]? = some c := by simpa using hc
    refine ⟨(Array.getElem?_eq_some_iff.mp hc').1, fun v' H' ⟨eH, c', e1, e2⟩ => ?_⟩
    subst eH e2
    rw [hc'] at e1
    cases e1
    exact ⟨Go.refl, rep, R.str'⟩
  · show z.cps.size ≤ i
    have e : i = (z.cps.toList.map fun c => D.str ⟨#[c]⟩).length := e
    rw [List.length_map, Array.length_toList] at e
    exact Nat.le_of_eq e.symm
theorem i_seq (h : PE3 X B e de) : PI3 X B tg e (dSeqI de) := by
  obtain ⟨t, h1, h2⟩ := h.ex
  refine ⟨_, pi_seq h1, fun σ H δ M Q Qd sl rep bb h q => h2 σ H δ M _ _ sl rep bb h fun v H1 x M1 g rep1 r h1 => ?_⟩
  cases x with
  | tup xs =>
    obtain ⟨a, vs, rfl, s, rs⟩ := r.untup
    exact .inl ⟨a, rfl, .inr ⟨⟨vs, SqT.of s⟩, q _ _ _ _ g rep1 (itok_tup s rs) h1⟩⟩
  | ref p =>
    obtain ⟨xs, l, h1⟩ := h1
    obtain ⟨vs, s, rs⟩ := rep1.ls l
    exact .inl ⟨p, r.ref_, .inl ⟨⟨vs, s⟩, q _ _ _ _ g rep1 itok_list h1⟩⟩
  | str z => exact .inr ⟨z, r.str_, q _ _ _ _ g rep1 itok_str h1⟩
  | _ => exact h1.elim
/-- range -/
def rngD (a b : Int) : List D := (List.range (b - a).toNat).map fun (i : Nat) => .int (a + i)
theorem rngD_get {a b : Int} {i : Nat} {x : D} (h : (rngD a b)[i]? = some x) : i < (b - a).toNat ∧ x = .int (a + i) := by
  unfold rngD at h
  rw [List.getElem?_map] at h
  obtain ⟨j, hj, rfl⟩ := Option.map_eq_some_iff.mp h
  obtain ⟨h1, h2⟩ := List.getElem?_eq_some_iff.mp hj
  rw [List.length_range] at h1
  rw [List.getElem_range] at h2
  subst h2
  exact ⟨h1, rfl⟩
theorem rngD_len (a b : Int) : (rngD a b).length = (b - a).toNat := by unfold rngD; rw [List.length_map, List.length_range]
theorem itok_rng {K : PySem.W.Frag} {H0 : Hp} {a b : Int} : ItOk K H0 (Itr a (b - a).toNat) ⟨rngD a b, fun _ => True⟩ := by
  intro i H M t rep _
  refine ⟨fun x ex => ?_, fun e => ?_⟩
  · obtain ⟨h1, rfl⟩ := rngD_get ex
    refine ⟨h1, fun v' H' ⟨eH, ev⟩ => ?_⟩
    subst eH ev
    exact ⟨Go.refl, rep, R.int'⟩
  · have e : i = (rngD a b).length := e
    rw [rngD_len] at e
    exact Nat.le_of_eq e.symm
def dRng1 (dr : DA) : DI := fun δ M Q => dr δ M fun xs M1 => match xs with
  | [.int j] => (-(2 ^ 62) ≤ j ∧ j < 2 ^ 62) ∧ Q ⟨rngD 0 j, fun _ => True⟩ M1
  | _ => False
def dRng2 (dr : DA) : DI := fun δ M Q => dr δ M fun xs M1 => match xs with
  | [.int i, .int j] => (-(2 ^ 62) ≤ i ∧ i < 2 ^ 62 ∧ -(2 ^ 62) ≤ j ∧ j < 2 ^ 62) ∧ Q ⟨rngD i j, fun _ => True⟩ M1
  | _ => False
theorem i_rng1 (hg : Gl X "range") (hm : X.mg "range" = none) (ha : PA3 X B [e] dr) (hs : starEach [e] X.env = [(false, eval e X.env)] := by rfl) : PI3 X B tg (.Call (.Name "range" p) [e] [] pos) (dRng1 dr) := by
  obtain ⟨t, h1, h2⟩ := ha.ex
  refine ⟨_, pi_range1 hg hm h1 hs, fun σ H δ M Q Qd sl rep bb h q => h2 σ H δ M _ _ sl rep bb h fun vs H1 xs M1 g rep1 rs hl h1 => ?_⟩
  clear hl
  split at h1
  · rename_i j
    obtain ⟨v, rfl, r⟩ := rs.one_
    refine ⟨j, by rw [r.int_], h1.1.1, h1.1.2, ?_⟩
    have := q (Itr 0 (j - 0).toNat) H1 _ M1 g rep1 itok_rng h1.2
    rwa [Int.sub_zero] at this
  · exact h1.elim
theorem i_rng2 (hg : Gl X "range") (hm : X.mg "range" = none) (ha : PA3 X B [e, e2] dr) (hs : starEach [e, e2] X.env = [(false, eval e X.env), (false, eval e2 X.env)] := by rfl) (hs2 : starEach [e2] X.env = [(false, eval e2 X.env)] := by rfl) : PI3 X B tg (.Call (.Name "range" p) [e, e2] [] pos) (dRng2 dr) := by
  obtain ⟨t, h1, h2⟩ := ha.ex
  refine ⟨_, pi_range2 hg hm h1 hs hs2, fun σ H δ M Q Qd sl rep bb h q => h2 σ H δ M _ _ sl rep bb h fun vs H1 xs M1 g rep1 rs hl h1 => ?_⟩
  clear hl
  split at h1
  · rename_i i j
    obtain ⟨v, u, rfl, r1, r2⟩ := rs.two_
    exact ⟨i, j, by rw [r1.int_, r2.int_], h1.1, q _ H1 _ M1 g rep1 itok_rng h1.2⟩
  · exact h1.elim
/-- range downwards by one -/
def downD (a b : Int) : List D := (List.range (a - b).toNat).map fun (i : Nat) => .int (a - i)
def dRngDn (dr : DA) : DI := fun δ M Q => dr δ M fun xs M1 => match xs with
  | [.int i, .int j, .int k] => (-(2 ^ 62) ≤ i ∧ i < 2 ^ 62 ∧ -(2 ^ 62) ≤ j ∧ j < 2 ^ 62 ∧ k = -1) ∧ Q ⟨downD i j, fun _ => True⟩ M1
  | _ => False
theorem itok_dn {K : PySem.W.Frag} {H0 : Hp} {a b : Int} : ItOk K H0 (Itc a (-1) (a - b).toNat) ⟨downD a b, fun _ => True⟩ := by
  intro i H M t rep _
  refine ⟨fun x ex => ?_, fun e => ?_⟩
  · have ex : (downD a b)[i]? = some x := ex
    unfold downD at ex
    rw [List.getElem?_map] at ex
    obtain ⟨j, hj, rfl⟩ := Option.map_eq_some_iff.mp ex
    obtain ⟨h1, h2⟩ := List.getElem?_eq_some_iff.mp hj
    rw [List.length_range] at h1
    rw [List.getElem_range] at h2
    subst h2
    refine ⟨h1, fun v' H' ⟨eH, ev⟩ => ?_⟩
    subst eH ev
    refine ⟨Go.refl, rep, ?_⟩
    rw [show a + ((i : Nat) : Int) * -1 = a - (i : Nat) by omega]
    exact R.int'
  · have e : i = (downD a b).length := e
    unfold downD at e
    rw [List.length_map, List.length_range] at e
    exact Nat.le_of_eq e.symm
theorem i_rngDn (hg : Gl X "range") (hm : X.mg "range" = none) (ha : PA3 X B [e, e2, e3] dr) (hs : starEach [e, e2, e3] X.env = (false, eval e X.env) :: starEach [e2, e3] X.env := by rfl) (hpl : (backTo pos (starEach [e2, e3] X.env)).any (·.1) = false := by rfl) :
    PI3 X B tg (.Call (.Name "range" p) [e, e2, e3] [] pos) (dRngDn dr) := by
  obtain ⟨t, h1, h2⟩ := ha.ex
  refine ⟨_, pi_range3 hg hm h1 hs hpl, fun σ H δ M Q Qd sl rep bb h q => h2 σ H δ M _ _ sl rep bb h fun vs H1 xs M1 g rep1 rs hl h1 => ?_⟩
  clear hl
  split at h1
  · rename_i i j k
    obtain ⟨v, us, rfl, r1, rs⟩ := rs.ucons
    obtain ⟨u, w, rfl, r2, r3⟩ := rs.two_
    obtain ⟨⟨a1, a2, a3, a4, rfl⟩, h1⟩ := h1
    exact ⟨i, j, -1, (i - j).toNat, by rw [r1.int_, r2.int_, r3.int_], RgC.neg a1 a2 a3 a4, q _ H1 _ M1 g rep1 itok_dn h1⟩
  · exact h1.elim
/-- enumerate -/
def enumD (xs : List D) : List D := xs.zipIdx.map fun p => .tup [.int (p.2 : Nat), p.1]
theorem enumD_get {xs : List D} {i : Nat} {y : D} (h : (enumD xs)[i]? = some y) : ∃ x, xs[i]? = some x ∧ y = .tup [.int (i : Nat), x] := by
  unfold enumD at h
  rw [List.getElem?_map, List.getElem?_zipIdx] at h
  obtain ⟨q, hq, rfl⟩ := Option.map_eq_some_iff.mp h
  obtain ⟨x, hx, rfl⟩ := Option.map_eq_some_iff.mp hq
  exact ⟨x, hx, by simp⟩
theorem enumD_len (xs : List D) : (enumD xs).length = xs.length := by unfold enumD; rw [List.length_map, List.length_zipIdx]
def iEnumA (K : PySem.W.Frag) (ta : TA) : TI := fun σ H R => ta σ H fun vs H1 => ∃ a xs, vs = [.ref a] ∧ ((SqL K H1 a xs ∧ R (Ite K a) H1) ∨ (H1 a = some (.tup xs) ∧ R (IteT K a) H1))
theorem pi_enumA {tpos : Pos} {elts : List Expr} {kk : Nat} {ta : TA} (hg : Gl X "enumerate") (hm : X.mg "enumerate" = none) (ha : PA X [e] ta) (hs : starEach [e] X.env = [(false, eval e X.env)] := by rfl) :
    PI X (.Tuple elts kk tpos) (.Call (.Name "enumerate" p) [e] [] pos) (iEnumA X.K ta) := by
  refine ⟨fun pins s σ H Rr I h => ?_⟩
  refine Call_ (ld_blt I hg hm boot_enumerate (PyProof.Rows.callWith_type1 (thn (ha.run pos pins s σ H _ I h) fun us s1 ⟨vs, H1, I1, r1, a, xs, ev, q⟩ => ?_) hs rfl))
  subst ev
  obtain ⟨u, rfl, ru⟩ := vals1 r1
  cases ru
  have two : ∀ b, b ∈ [s1.heap.objs.size + 1, s1.heap.objs.size] → FpOk X pins H1 b := fun b hb => by
    have le : s1.heap.objs.size ≤ b := by
      rcases List.mem_cons.mp hb with z | z
      · rw [z]; exact Nat.le_succ _
      · rw [List.mem_singleton.mp z]; exact Nat.le_refl _
    exact I1.fpOk le (I1.hok.fresh le)
  rcases q with ⟨hq, q⟩ | ⟨hq, q⟩
  · obtain ⟨its, _, pl, _⟩ := I1.list hq
    refine t3_enum_begins (begins_list a its.toArray) pl.isList fun h' he ho hk => wpAny_pyIter_enum he ?_
    exact ⟨_, [s1.heap.objs.size + 1, s1.heap.objs.size], _, _, H1, rfl, I1.kept (t' := s1.toks) hk, turn_enum a _ s1.heap.objs.size, ⟨⟨.none, he⟩, ⟨_, ho, rfl, rfl⟩, Nat.succ_ne_self _⟩, two, q⟩
  · obtain ⟨its, _, tp, _⟩ := I1.tuple (SqT.of hq)
    have lt : a < s1.heap.objs.size := I1.hok.lt hq
    refine t3_enum_begins (begins_tuple a its.toArray) tp fun h' he ho hk => wpAny_pyIter_enum he ?_
    exact ⟨_, [s1.heap.objs.size + 1, s1.heap.objs.size], _, _, H1, rfl, I1.kept (t' := s1.toks) hk, turn_enumT a _ s1.heap.objs.size (Ne.symm (Nat.ne_of_lt (Nat.lt_succ_of_lt lt))) (Nat.ne_of_lt lt), ⟨⟨.none, he⟩, ⟨_, ho, rfl, rfl⟩, Nat.succ_ne_self _⟩, two, q⟩
def dEnumI (dr : DA) : DI := fun δ M Q => dr δ M fun xs M1 => match xs with
  | [.tup ys] => Q ⟨enumD ys, fun _ => True⟩ M1
  | [.ref p] => ∃ ys, LS M1 p ys ∧ Q ⟨enumD ys, fun M => LS M p ys⟩ M1
  | _ => False
theorem pair_ok {K : PySem.W.Frag} {H : Hp} {M : Hd} {T : Addr} {a b : V} {x y : D} (rep : Rep K H M) (hT : H T = none) (ra : R K H x a) (rb : R K H y b) : Go H M (upd H T (.tup [a, b])) M ∧ Rep K (upd H T (.tup [a, b])) M ∧ R K (upd H T (.tup [a, b])) (.tup [x, y]) (.ref T) :=
  rep.newT hT (.cons ra (.cons rb .nil))
theorem i_enum {tpos : Pos} {elts : List Expr} {kk : Nat} (hg : Gl X "enumerate") (hm : X.mg "enumerate" = none) (ha : PA3 X B [e] dr) (hs : starEach [e] X.env = [(false, eval e X.env)] := by rfl) :
    PI3 X B (.Tuple elts kk tpos) (.Call (.Name "enumerate" p) [e] [] pos) (dEnumI dr) := by
  obtain ⟨t, h1, h2⟩ := ha.ex
  refine ⟨_, pi_enumA hg hm h1 hs, fun σ H δ M Q Qd sl rep bb h q => h2 σ H δ M _ _ sl rep bb h fun vs H1 xs M1 g rep1 rs hl h1 => ?_⟩
  clear hl
  split at h1
  · rename_i ys
    obtain ⟨v, rfl, r⟩ := rs.one_
    obtain ⟨a, us, rfl, s, rs'⟩ := r.untup
    refine ⟨a, us, rfl, .inr ⟨s, q _ _ _ _ g rep1 (fun i H M t rep _ => ?_) h1⟩⟩
    have s' := t _ _ s
    have rs2 := rs'.mono t
    refine ⟨fun x ex => ?_, fun e => ⟨us, SqT.of s', by rw [rs2.len, ← enumD_len]; exact e⟩⟩
    obtain ⟨d, ed, rfl⟩ := enumD_get ex
    obtain ⟨v, ev, rv⟩ := rs2.get ed
    refine ⟨⟨us, v, SqT.of s', ev⟩, fun v' H' ⟨T, v2, e1, hT, e2, hy⟩ => ?_⟩
    subst e1 e2
    have e3 := hy us (SqT.of s')
    rw [ev] at e3
    cases e3
    exact pair_ok rep hT R.int' rv
  · rename_i pp
    obtain ⟨v, rfl, r⟩ := rs.one_
    obtain ⟨ys, l, h1⟩ := h1
    obtain ⟨us, s, _⟩ := rep1.ls l
    refine ⟨pp, us, by rw [r.ref_], .inl ⟨s, q _ _ _ _ g rep1 (fun i H M t rep gg => ?_) h1⟩⟩
    obtain ⟨us, s', rs2⟩ := rep.ls gg
    refine ⟨fun x ex => ?_, fun e => ⟨us, s', by rw [rs2.len, ← enumD_len]; exact Nat.le_of_eq e.symm⟩⟩
    obtain ⟨d, ed, rfl⟩ := enumD_get ex
    obtain ⟨v, ev, rv⟩ := rs2.get ed
    refine ⟨⟨us, v, s', ev⟩, fun v' H' ⟨T, v2, e1, hT, e2, hy⟩ => ?_⟩
    subst e1 e2
    have e3 := hy us s'
    rw [ev] at e3
    cases e3
    exact pair_ok rep hT R.int' rv
  · exact h1.elim
/-- zip of two of a kind -/
def zipD (xs ys : List D) : List D := (xs.zip ys).map fun p => .tup [p.1, p.2]
theorem zipD_get {xs ys : List D} {i : Nat} {z : D} (h : (zipD xs ys)[i]? = some z) : ∃ x y, xs[i]? = some x ∧ ys[i]? = some y ∧ z = .tup [x, y] := by
  unfold zipD at h
  rw [List.getElem?_map] at h
  obtain ⟨q, hq, rfl⟩ := Option.map_eq_some_iff.mp h
  obtain ⟨h1, h2⟩ := List.getElem?_zip_eq_some.mp hq
  exact ⟨_, _, h1, h2, rfl⟩
theorem zipD_len (xs ys : List D) : (zipD xs ys).length = min xs.length ys.length := by unfold zipD; rw [List.length_map, List.length_zip]
def dZipI (dr : DA) : DI := fun δ M Q => dr δ M fun xs M1 => match xs with
  | [.tup xs, .tup ys] => Q ⟨zipD xs ys, fun _ => True⟩ M1
  | [.ref p, .ref q] => ∃ xs ys, LS M1 p xs ∧ LS M1 q ys ∧ Q ⟨zipD xs ys, fun M => LS M p xs ∧ LS M q ys⟩ M1
  | _ => False
theorem i_zip {tpos : Pos} {elts : List Expr} {kk : Nat} (hg : Gl X "zip") (hm : X.mg "zip" = none) (ha : PA3 X B [e, e2] dr) (hs : starEach [e, e2] X.env = (false, eval e X.env) :: starEach [e2] X.env := by rfl) (hpl : (backTo pos (starEach [e2] X.env)).any (·.1) = false := by rfl) :
    PI3 X B (.Tuple elts kk tpos) (.Call (.Name "zip" p) [e, e2] [] pos) (dZipI dr) := by
  obtain ⟨t, h1, h2⟩ := ha.ex
  refine ⟨_, RZ.pi_zipA hg hm h1 hs hpl, fun σ H δ M Q Qd sl rep bb h q => h2 σ H δ M _ _ sl rep bb h fun vs H1 xs M1 g rep1 rs hl h1 => ?_⟩
  clear hl
  split at h1
  · rename_i xs ys
    obtain ⟨v, u, rfl, r1, r2⟩ := rs.two_
    obtain ⟨a, us, rfl, s, rs1⟩ := r1.untup
    obtain ⟨b, ws, rfl, s2, rs2⟩ := r2.untup
    refine ⟨a, b, us, ws, rfl, .inr ⟨SqT.of s, SqT.of s2, q _ _ _ _ g rep1 (fun i H M t rep _ => ?_) h1⟩⟩
    have s' := t _ _ s
    have s2' := t _ _ s2
    have k1 := rs1.mono t
    have k2 := rs2.mono t
    refine ⟨fun x ex => ?_, fun e => ⟨us, ws, SqT.of s', SqT.of s2', ?_⟩⟩
    · obtain ⟨d, d', ed, ed', rfl⟩ := zipD_get ex
      obtain ⟨v, ev, rv⟩ := k1.get ed
      obtain ⟨v', ev', rv'⟩ := k2.get ed'
      refine ⟨⟨us, ws, v, v', SqT.of s', SqT.of s2', ev, ev'⟩, fun z H' ⟨T, y1, y2, e1, hT, e2, hy, hy'⟩ => ?_⟩
      subst e1 e2
      have e3 := hy us (SqT.of s')
      have e4 := hy' ws (SqT.of s2')
      rw [ev] at e3
      rw [ev'] at e4
      cases e3
      cases e4
      exact pair_ok rep hT rv rv'
    · have e : i = (zipD xs ys).length := e
      rw [zipD_len] at e
      rw [k1.len, k2.len]
      omega
  · rename_i p1 p2
    obtain ⟨v, u, rfl, r1, r2⟩ := rs.two_
    obtain ⟨xs, ys, l1, l2, h1⟩ := h1
    obtain ⟨us, s, _⟩ := rep1.ls l1
    obtain ⟨ws, s2, _⟩ := rep1.ls l2
    refine ⟨p1, p2, us, ws, by rw [r1.ref_, r2.ref_], .inl ⟨s, s2, q _ _ _ _ g rep1 (fun i H M t rep gg => ?_) h1⟩⟩
    obtain ⟨us, s', k1⟩ := rep.ls gg.1
    obtain ⟨ws, s2', k2⟩ := rep.ls gg.2
    refine ⟨fun x ex => ?_, fun e => ⟨us, ws, s', s2', ?_⟩⟩
    · obtain ⟨d, d', ed, ed', rfl⟩ := zipD_get ex
      obtain ⟨v, ev, rv⟩ := k1.get ed
      obtain ⟨v', ev', rv'⟩ := k2.get ed'
      refine ⟨⟨us, ws, v, v', s', s2', ev, ev'⟩, fun z H' ⟨T, y1, y2, e1, hT, e2, hy, hy'⟩ => ?_⟩
      subst e1 e2
      have e3 := hy us s'
      have e4 := hy' ws s2'
      rw [ev] at e3
      rw [ev'] at e4
      cases e3
      cases e4
      exact pair_ok rep hT rv rv'
    · have e : i = (zipD xs ys).length := e
      rw [zipD_len] at e
      rw [k1.len, k2.len]
      omega
  · exact h1.elim
end
end T3
namespace T3
open PySem PySem.Spec PyProof.Rows L2
/-! ### the reading that a reading over data stands for -/
def tOf (K : PySem.W.Frag) (B : Am) (d : DE) : TE := fun σ H Q => ∃ (δ : DS) (M : Hd) (Qd : DK), Sl K H σ δ ∧ Rep K H M ∧ B.B H M ∧ d δ M Qd ∧ ∀ v H' x M', Go H M H' M' → Rep K H' M' → R K H' x v → Qd x M' → Q v H'
def tOfT (K : PySem.W.Frag) (B : Am) (d : DT) : TT := fun σ H Q => ∃ (δ : DS) (M : Hd) (Qd : Bool → Hd → Prop), Sl K H σ δ ∧ Rep K H M ∧ B.B H M ∧ d δ M Qd ∧ ∀ b H' M', Go H M H' M' → Rep K H' M' → Qd b M' → Q b H'
section
variable {X : Cx} {B : Am}
theorem PE3.can {e : Expr} {d : DE} (h : PE3 X B e d) : PE X e (tOf X.K B d) := by
  obtain ⟨t, h1, h2⟩ := h.ex
  exact ⟨fun pins s σ H Q I ⟨δ, M, Qd, sl, rep, bb, hd, q⟩ => h1.run pins s σ H Q I (h2 σ H δ M Q Qd sl rep bb hd q)⟩
theorem snd_tOf {K : PySem.W.Frag} {d : DE} : SndE K B (tOf K B d) d := fun σ H δ M Q Qd sl rep bb h q => ⟨δ, M, Qd, sl, rep, bb, h, q⟩
theorem snd_tOfT {K : PySem.W.Frag} {d : DT} : SndT K B (tOfT K B d) d := fun σ H δ M Q Qd sl rep bb h q => ⟨δ, M, Qd, sl, rep, bb, h, q⟩
structure PTs3 (X : Cx) (B : Am) (ifs : List Expr) (d : DT) : Prop where
  ex : ∃ t, PTs X ifs t ∧ SndT X.K B t d
theorem PTs3.can {e : List Expr} {d : DT} (h : PTs3 X B e d) : PTs X e (tOfT X.K B d) := by
  obtain ⟨t, h1, h2⟩ := h.ex
  exact ⟨fun pins s σ H Q I ⟨δ, M, Qd, sl, rep, bb, hd, q⟩ => h1.run pins s σ H Q I (h2 σ H δ M Q Qd sl rep bb hd q)⟩
def dYes : DT := fun _ M Q => Q true M
theorem ts_nil : PTs3 X B [] dYes := ⟨_, pts_nil, fun σ H δ M Q Qd sl rep bb h q => q _ _ _ Go.refl rep h⟩
theorem ts_one {c : Expr} {d : DT} (h : PT3 X B c d) : PTs3 X B [c] d := by
  obtain ⟨t, h1, h2⟩ := h.ex
  exact ⟨_, pts_one h1, h2⟩
/-! ### for, while -/
def dFor (di : DI) (g : Tg) (tb : DSt) : DSt := fun En δ M => di δ M fun W M1 => ∃ P : List D → DS → Hd → Prop, P [] δ M1 ∧
  (∀ pre x post δ' M', W.xs = pre ++ x :: post → P pre δ' M' → W.G M' ∧ dTg g x δ' fun δ2 =>
    tb { En with nx := fun δ3 M3 => ∃ M4, Sub M3 M4 ∧ P (pre ++ [x]) δ3 M4, ct := fun δ3 M3 => ∃ M4, Sub M3 M4 ∧ P (pre ++ [x]) δ3 M4, bk := En.nx } δ2 M') ∧
  ∀ δ' M', P W.xs δ' M' → W.G M' ∧ En.nx δ' M'
variable {tg iter e : Expr} {body : List Stmt} {di : DI} {g : Tg} {tb : DSt} {pos : Pos}
theorem s_for (hp : PassesOwn (model X.prog X.w) X.A X.env X.xe) (hc : X.calm = true) (hi : PI3 X B tg iter di) (hg : PG3 X tg g) (hb : PB3 X B body tb) (hs : ∀ x, foldedSetIterable iter X.env x = pure x := by intro _; rfl) :
    PS3 X B (.For tg iter body [] pos) (dFor di g tb) := by
  obtain ⟨ti, i1, i2⟩ := hi.ex
  obtain ⟨t, b1, b2⟩ := hb.ex
  refine ⟨_, ps_for hp hc i1 hg.ex b1 hs, fun σ H δ M D Dd sl rep bb q eo => i2 σ H δ M _ _ sl rep bb q fun J H1 W M1 g1 rep1 ok ⟨P, p0, turn, fin⟩ => ?_⟩
  have sl1 := sl.mono (rep.tx g1)
  have bb1 := B.pres _ _ _ _ g1 bb
  have eo1 := eo.mono g1
  refine ⟨fun i m σ' H' => ∃ pre post δ' M', W.xs = pre ++ post ∧ pre.length = i ∧ m = post.length ∧ Sl X.K H' σ' δ' ∧ Rep X.K H' M' ∧ Go H1 M1 H' M' ∧ P pre δ' M', ⟨_, [], W.xs, δ, M1, rfl, rfl, rfl, sl1, rep1, Go.refl, p0⟩, ?_⟩
  rintro i m σ' H' ⟨pre, post, δ', M', ex, rfl, rfl, sl', rep', g', p⟩
  cases post with
  | nil =>
    rw [List.append_nil] at ex
    subst ex
    obtain ⟨gg, nx⟩ := fin δ' M' p
    exact .inl ⟨(ok _ H' M' (rep1.tx g') rep' gg).2 rfl, eo1.nx _ _ _ _ g' sl' rep' nx⟩
  | cons x post =>
    obtain ⟨gg, h⟩ := turn pre x post δ' M' ex p
    have at_ : W.xs[pre.length]? = some x := by rw [ex]; simp
    obtain ⟨go, yld⟩ := (ok _ H' M' (rep1.tx g') rep' gg).1 x at_
    refine .inr ⟨go, fun σ2 H2 => ∃ δ2 M2, Sl X.K H2 σ2 δ2 ∧ Rep X.K H2 M2 ∧ Go H1 M1 H2 M2 ∧ P (pre ++ [x]) δ2 M2, fun σ2 H2 ⟨δ2, M2, a, b, c, d⟩ => ⟨post.length, Nat.lt_succ_self _, pre ++ [x], post, δ2, M2, by rw [ex]; simp, by simp, rfl, a, b, c, d⟩, fun v H2 y => ?_⟩
    obtain ⟨g2, rep2, rv⟩ := yld v H2 y
    have g12 := g'.trans g2
    refine tg_run g (M := M') (sl'.mono (rep'.tx g2)) rv h fun σ3 δ3 sl3 h3 _ => ?_
    have back : ∀ σ4 H4 δ4 M4, Go H2 M' H4 M4 → Sl X.K H4 σ4 δ4 → Rep X.K H4 M4 → (∃ M5, Sub M4 M5 ∧ P (pre ++ [x]) δ4 M5) → ∃ δ2 M2, Sl X.K H4 σ4 δ2 ∧ Rep X.K H4 M2 ∧ Go H1 M1 H4 M2 ∧ P (pre ++ [x]) δ2 M2 := fun σ4 H4 δ4 M4 g4 sl4 rep4 ⟨M5, sb, p5⟩ =>
      ⟨δ4, M5, sl4, (sb.fgt (K := X.K)).1 _ rep4, (g12.trans g4).trans (sb.fgt (K := X.K)).go, p5⟩
    exact b2 σ3 H2 δ3 M' _ _ sl3 rep2 (B.pres _ _ _ _ g12 bb1) h3 ⟨fun a b c d => back a b c d, fun a b c d e => eo1.rt a b c d (g12.trans e), fun a b c d e => eo1.nx a b c d (g12.trans e), fun a b c d => back a b c d⟩
def dWhile (c : DT) (tb : DSt) : DSt := fun D δ M => ∃ P : Nat → DS → Hd → Prop, (∃ m, P m δ M) ∧ ∀ m δ' M', P m δ' M' → c δ' M' fun b M1 =>
  (b = true → tb { D with nx := fun δ3 M3 => ∃ M4 m', Sub M3 M4 ∧ m' < m ∧ P m' δ3 M4, ct := fun δ3 M3 => ∃ M4 m', Sub M3 M4 ∧ m' < m ∧ P m' δ3 M4, bk := D.nx } δ' M1) ∧ (b = false → D.nx δ' M1)
theorem s_while {c : Expr} {dc : DT} (hp : PassesOwn (model X.prog X.w) X.A X.env X.xe) (hc : PT3 X B c dc) (hb : PB3 X B body tb) : PS3 X B (.While c body [] pos) (dWhile dc tb) := by
  obtain ⟨tc, c1, c2⟩ := hc.ex
  obtain ⟨t, b1, b2⟩ := hb.ex
  refine ⟨_, ps_while hp c1 b1, fun σ H δ M D Dd sl rep bb ⟨P, ⟨m0, p0⟩, turn⟩ eo => ?_⟩
  refine ⟨fun m σ' H' => ∃ δ' M', Sl X.K H' σ' δ' ∧ Rep X.K H' M' ∧ Go H M H' M' ∧ P m δ' M', ⟨m0, δ, M, sl, rep, Go.refl, p0⟩, ?_⟩
  rintro m σ' H' ⟨δ', M', sl', rep', g', p⟩
  refine c2 σ' H' δ' M' _ _ sl' rep' (B.pres _ _ _ _ g' bb) (turn m δ' M' p) fun b H1 M1 g1 rep1 ⟨q1, q2⟩ => ?_
  have g01 := g'.trans g1
  have sl1 := sl'.mono (rep'.tx g1)
  cases b with
  | false => exact iteF (eo.nx _ _ _ _ g01 sl1 rep1 (q2 rfl))
  | true =>
    refine iteT ⟨fun σ2 H2 => ∃ δ2 M2 m', Sl X.K H2 σ2 δ2 ∧ Rep X.K H2 M2 ∧ Go H M H2 M2 ∧ m' < m ∧ P m' δ2 M2, fun σ2 H2 ⟨δ2, M2, m', a, b, c, d, e⟩ => ⟨m', d, δ2, M2, a, b, c, e⟩, ?_⟩
    have back : ∀ σ4 H4 δ4 M4, Go H1 M1 H4 M4 → Sl X.K H4 σ4 δ4 → Rep X.K H4 M4 → (∃ M5 m', Sub M4 M5 ∧ m' < m ∧ P m' δ4 M5) → ∃ δ2 M2 m', Sl X.K H4 σ4 δ2 ∧ Rep X.K H4 M2 ∧ Go H M H4 M2 ∧ m' < m ∧ P m' δ2 M2 := fun σ4 H4 δ4 M4 g4 sl4 rep4 ⟨M5, m', sb, lt, p5⟩ =>
      ⟨δ4, M5, m', sl4, (sb.fgt (K := X.K)).1 _ rep4, (g01.trans g4).trans (sb.fgt (K := X.K)).go, lt, p5⟩
    exact b2 σ' H1 δ' M1 _ _ sl1 rep1 (B.pres _ _ _ _ g01 bb) (q1 rfl) ⟨fun a b c d => back a b c d, fun a b c d e => eo.rt a b c d (g01.trans e), fun a b c d e => eo.nx a b c d (g01.trans e), fun a b c d => back a b c d⟩
/-! ### list comprehensions -/
theorem Rep.hid {K : PySem.W.Frag} {H : Hp} {M : Hd} (rep : Rep K H M) {p : Addr} {u u' : HO} (n : M p = none) (h : H p = some u) (nt : NotTup u) : Rep K (upd H p u') M := fun a o e =>
  (rep a o e).stay (tx_put h nt) (fun b v hb hv => by
    have : b ≠ p := by
      rintro rfl
      rcases hb with hb | hb
      · rw [← hb, n] at e; cases e
      · rw [n] at hb; cases hb
    rw [upd_ne this]; exact hv) fun _ _ hb => hb
theorem Rep.shw {K : PySem.W.Frag} {H : Hp} {M : Hd} (rep : Rep K H M) {p : Addr} {vs : List V} {xs : List D} (n : M p = none) (h : H p = some (.lst vs)) (rs : Rs K H xs vs) : Rep K H (up M p (.lst xs)) := fun a o e => by
  by_cases z : a = p
  · subst z
    rw [up_same] at e
    cases e
    exact ⟨vs, h, rs⟩
  · rw [up_ne z] at e
    refine (rep a o e).stay Tx.refl (fun _ _ _ q => q) fun b c hb => ?_
    have : b ≠ p := by rintro rfl; rw [n] at hb; cases hb
    rw [up_ne this]; exact hb
def dLc (di : DI) (g : Tg) (dt : DT) (de : DE) (vs : List Nat) : DE := fun δ M Q => di δ M fun W M1 => W.xs.length ≤ sizeLine ∧ ∃ P : List D → List D → Hd → Prop, P [] [] M1 ∧
  (∀ pre x post acc M', W.xs = pre ++ x :: post → P pre acc M' → W.G M' ∧ dTg g x (wipeD δ vs) fun δ2 => dt δ2 M' fun b M2 =>
    (b = true → de δ2 M2 fun y M3 => ∃ M4, Sub M3 M4 ∧ P (pre ++ [x]) (acc ++ [y]) M4) ∧ (b = false → ∃ M4, Sub M2 M4 ∧ P (pre ++ [x]) acc M4)) ∧
  ∀ acc M', P W.xs acc M' → W.G M' ∧ ∀ p, M' p = none → Q (.ref p) (up M' p (.lst acc))
theorem wipe_sn {i : Nat} : ∀ (vs : List Nat) (σ : L2.St), (L2.wipe (σ.set i none) vs).set i none = (L2.wipe σ vs).set i none
  | [], σ => by show (σ.set i none).set i none = σ.set i none; rw [List.set_set]
  | k :: vs, σ => by
    show ((L2.wipe (σ.set i none) vs).set k none).set i none = ((L2.wipe σ vs).set k none).set i none
    by_cases e : k = i
    · subst e
      rw [List.set_set, List.set_set, wipe_sn vs σ]
    · rw [List.set_comm _ _ e, wipe_sn vs σ, List.set_comm _ _ e]
theorem wipe_wipe (σ : L2.St) : ∀ vs : List Nat, L2.wipe (L2.wipe σ vs) vs = L2.wipe σ vs
  | [] => rfl
  | k :: vs => by
    show (L2.wipe ((L2.wipe σ vs).set k none) vs).set k none = (L2.wipe σ vs).set k none
    rw [wipe_sn, wipe_wipe σ vs]
theorem snd_lc {K : PySem.W.Frag} {wi : TI} {tt : TT} {te : TE} {dt : DT} {de : DE} {vs : List Nat} (hi : SndI K B wi di) (ht : SndT K B tt dt) (he : SndE K B te de) (hv : ∀ i ∈ g.ix, i ∈ vs) : SndE K B (tLc wi (g.L K) tt te vs) (dLc di g dt de vs) := by
  intro σ H δ M Q Qd sl rep bb q k
  refine hi σ H δ M _ _ sl rep bb q fun J H1 W M1 g1 rep1 ok ⟨hz, P, p0, turn, fin⟩ Da hDa => ?_
  have sl1 := sl.mono (rep.tx g1)
  have bb1 := B.pres _ _ _ _ g1 bb
  have nD : M1 Da = none := rep1.free hDa
  refine ⟨fun i m H' => ∃ pre post acc us M', W.xs = pre ++ post ∧ pre.length = i ∧ m = post.length ∧ acc.length ≤ pre.length ∧ Rep K H' M' ∧ M' Da = none ∧ H' Da = some (.lst us) ∧ Rs K H' acc us ∧ Go H1 M1 H' M' ∧ P pre acc M',
    ⟨_, [], W.xs, [], [], M1, rfl, rfl, rfl, Nat.le_refl _, rep1.tup hDa, nD, upd_same, .nil, go_tup hDa, p0⟩, ?_⟩
  rintro i m H' ⟨pre, post, acc, us, M', ex, rfl, rfl, hl, rep', nD', hD', rs', g', p⟩
  cases post with
  | nil =>
    rw [List.append_nil] at ex
    subst ex
    obtain ⟨gg, nx⟩ := fin acc M' p
    refine .inl ⟨(ok _ H' M' (rep1.tx g') rep' gg).2 rfl, ?_⟩
    refine k (.ref Da) H' _ (up M' Da (.lst acc)) ?_ (rep'.shw nD' hD' rs') R.ref' (nx Da nD')
    intro a u ha na
    obtain ⟨ha1, na1⟩ := g1 a u ha na
    obtain ⟨ha2, na2⟩ := g' a u ha1 na1
    have : a ≠ Da := ne_of_none ha1 hDa
    exact ⟨ha2, by rw [up_ne this]; exact na2⟩
  | cons x post =>
    obtain ⟨gg, h⟩ := turn pre x post acc M' ex p
    have at_ : W.xs[pre.length]? = some x := by rw [ex]; simp
    have lt : acc.length < sizeLine := by
      have : W.xs.length = pre.length + (post.length + 1) := by rw [ex]; simp
      omega
    obtain ⟨go, yld⟩ := (ok _ H' M' (rep1.tx g') rep' gg).1 x at_
    refine .inr ⟨go, fun H2 => ∃ acc2 us2 M2, acc2.length ≤ pre.length + 1 ∧ Rep K H2 M2 ∧ M2 Da = none ∧ H2 Da = some (.lst us2) ∧ Rs K H2 acc2 us2 ∧ Go H1 M1 H2 M2 ∧ P (pre ++ [x]) acc2 M2,
      fun H2 ⟨acc2, us2, M2, a, b, c, d, e, f, pp⟩ => ⟨post.length, Nat.lt_succ_self _, pre ++ [x], post, acc2, us2, M2, by rw [ex]; simp, by simp, rfl, by simpa using a, b, c, d, e, f, pp⟩, fun v H2 y => ?_⟩
    obtain ⟨g2, rep2, rv⟩ := yld v H2 y
    have g12 := g'.trans g2
    obtain ⟨hD2, _⟩ := g2 Da _ hD' nD'
    have rs2 := rs'.mono (rep'.tx g2)
    have slw := (sl1.mono (rep1.tx g12)).wipe vs
    refine tg_run g (M := M') slw rv h fun σ3 δ3 sl3 h3 hw => ⟨(hw vs hv).trans (wipe_wipe σ vs), ?_⟩
    refine ht σ3 H2 δ3 M' _ _ sl3 rep2 (B.pres _ _ _ _ g12 bb1) h3 fun b H3 M3 g3 rep3 ⟨q1, q2⟩ => ?_
    have g13 := g12.trans g3
    obtain ⟨hD3, nD3⟩ := g3 Da _ hD2 nD'
    have rs3 := rs2.mono (rep2.tx g3)
    cases b with
    | false =>
      obtain ⟨M4, sb, p4⟩ := q2 rfl
      exact iteF ⟨acc, us, M4, by omega, (sb.fgt (K := K)).1 _ rep3, sb.free nD3, hD3, rs3, g13.trans (sb.fgt (K := K)).go, p4⟩
    | true =>
      refine iteT (he σ3 H3 δ3 M3 _ _ (sl3.mono (rep2.tx g3)) rep3 (B.pres _ _ _ _ g13 bb1) (q1 rfl) fun v4 H4 x4 M4 g4 rep4 r4 ⟨M5, sb, p5⟩ => ?_)
      obtain ⟨hD4, nD4⟩ := g4 Da _ hD3 nD3
      have rs4 := rs3.mono (rep3.tx g4)
      have t5 : Tx K H4 (upd H4 Da (.lst (us ++ [v4]))) := tx_put hD4 trivial
      refine ⟨us, hD4, by rw [rs4.len]; exact lt, acc ++ [x4], us ++ [v4], M5, by simp; omega, (sb.fgt (K := K)).1 _ (rep4.hid nD4 hD4 trivial), sb.free nD4, upd_same, (rs4.mono t5).app (.one (r4.mono t5)), ?_, p5⟩
      intro a u ha na
      obtain ⟨h1, n1⟩ := (g13.trans g4) a u ha na
      have : a ≠ Da := ne_of_none ha hDa
      exact ⟨by rw [upd_ne this]; exact h1, sb.free n1⟩
theorem e_lc {elt : Expr} {ifs : List Expr} {scope : Scope} {own : List (Str × Nat)} {dt : DT} {de : DE} (hc : X.calm = true) (hN : X.N.Nodup) (hi : PI3 X B tg iter di) (ok : BlkOk X.N X.env.scope scope own)
    (hg : ∀ (s : Shared) (H : Hp) (C : Addr) (cl : List (Str × Addr)) (fp : List Addr), PG3 (X.blk s H scope (compEnvC scope cl C X.env) fp) tg g) (ht : ∀ (s : Shared) (H : Hp) (C : Addr) (cl : List (Str × Addr)) (fp : List Addr), PTs3 (X.blk s H scope (compEnvC scope cl C X.env) fp) B ifs dt)
    (he : ∀ (s : Shared) (H : Hp) (C : Addr) (cl : List (Str × Addr)) (fp : List Addr), PE3 (X.blk s H scope (compEnvC scope cl C X.env) fp) B elt de) (hv : ∀ i ∈ g.ix, i ∈ own.map (·.2) := by decide) (hs : ∀ x, foldedSetIterable iter X.env x = pure x := by intro _; rfl) :
    PE3 X B (.ListComp elt [⟨tg, iter, ifs, 0⟩] scope pos) (dLc di g dt de (own.map (·.2))) := by
  obtain ⟨ti, i1, i2⟩ := hi.ex
  exact ⟨_, pe_lc (g := g.L X.K) (tt := tOfT X.K B dt) (te := tOf X.K B de) hc hN i1 ok (fun s H C cl fp => (hg s H C cl fp).ex) (fun s H C cl fp => (ht s H C cl fp).can) (fun s H C cl fp => (he s H C cl fp).can) hs, snd_lc i2 snd_tOfT snd_tOf hv⟩
theorem s_setLc (i : Nat) {y : Str} {py : Pos} {elt : Expr} {ifs : List Expr} {scope : Scope} {own : List (Str × Nat)} {spos : Pos} {dt : DT} {de : DE} (hc : X.calm = true) (hN : X.N.Nodup)
    (hsw : swapsWith (.ListComp elt [⟨tg, iter, ifs, 0⟩] scope pos) (some (.Name y py)) spos.line X.env = pure true) (hi : PI3 X B tg iter di) (ok : BlkOk X.N X.env.scope scope own)
    (hg : ∀ (s : Shared) (H : Hp) (C : Addr) (cl : List (Str × Addr)) (fp : List Addr), PG3 (X.blk s H scope (compEnvC scope cl C X.env) fp) tg g) (ht : ∀ (s : Shared) (H : Hp) (C : Addr) (cl : List (Str × Addr)) (fp : List Addr), PTs3 (X.blk s H scope (compEnvC scope cl C X.env) fp) B ifs dt)
    (he : ∀ (s : Shared) (H : Hp) (C : Addr) (cl : List (Str × Addr)) (fp : List Addr), PE3 (X.blk s H scope (compEnvC scope cl C X.env) fp) B elt de) (hy : X.N[i]? = some y := by rfl) (hyl : X.env.scope.names.lookup y = some .local := by rfl) (hv : ∀ i ∈ g.ix, i ∈ own.map (·.2) := by decide) (hs : ∀ x, foldedSetIterable iter X.env x = pure x := by intro _; rfl) :
    PS3 X B (.Assign [.Name y py] (.ListComp elt [⟨tg, iter, ifs, 0⟩] scope pos) spos) (dSet i (dLc di g dt de (own.map (·.2)))) := by
  obtain ⟨ti, i1, i2⟩ := hi.ex
  refine ⟨_, ps_setLc (g := g.L X.K) (tt := tOfT X.K B dt) (te := tOf X.K B de) hc hN hy hyl hsw i1 ok (fun s H C cl fp => (hg s H C cl fp).ex) (fun s H C cl fp => (ht s H C cl fp).can) (fun s H C cl fp => (he s H C cl fp).can) hs, fun σ H δ M D Dd sl rep bb q eo => ?_⟩
  exact snd_lc i2 snd_tOfT snd_tOf hv σ H δ M _ _ sl rep bb q fun v H' x M' g rep' r q' => eo.nx _ _ _ _ g ((sl.mono (rep.tx g)).set i r) rep' q'
/-! ### dict comprehensions -/
theorem Rep.shwK {K : PySem.W.Frag} {H : Hp} {M : Hd} (rep : Rep K H M) {p : Addr} {ws : List (Key × V)} {kvs : List (Key × D)} (n : M p = none) (h : H p = some (.dK ws)) (rs : RK K H kvs ws) : Rep K H (up M p (.dK kvs)) := fun a o e => by
  by_cases z : a = p
  · subst z
    rw [up_same] at e
    cases e
    exact ⟨ws, h, rs⟩
  · rw [up_ne z] at e
    refine (rep a o e).stay Tx.refl (fun _ _ _ q => q) fun b c hb => ?_
    have : b ≠ p := by rintro rfl; rw [n] at hb; cases hb
    rw [up_ne this]; exact hb
/-! ### own defs -/
abbrev DX := Value → List (Str × D) → Hd → Prop
abbrev DSp := List D → Hd → DK → DX → Prop
def XR (K : PySem.W.Frag) (H : Hp) (d : Option Addr) (fs : List (Str × D)) : Prop := (d = none ∧ fs = []) ∨ ∃ a ws, d = some a ∧ fs ≠ [] ∧ H a = some (.xd ws) ∧ RK K H fs ws
def lift (K : PySem.W.Frag) (S : DSp) : Sp := fun vs H Q E => ∃ (ds : List D) (M : Hd) (Qd : DK) (Ed : DX), Rs K H ds vs ∧ Rep K H M ∧ S ds M Qd Ed ∧ (∀ v H' x M', Go H M H' M' → Rep K H' M' → R K H' x v → Qd x M' → Q v H') ∧
  ∀ c d H' fs M', Go H M H' M' → Rep K H' M' → XR K H' d fs → Ed c fs M' → E c d H'
def dCall (S : DSp) (dr : DA) : DE := fun δ M Q => dr δ M fun xs M1 => S xs M1 Q fun _ _ _ => False
variable {CX : CXT} {k : Nat} {f : Addr} {fd : FuncData} {ps : List Str} {S : DSp} {x : Str} {p : Pos} {es : List Expr} {dr : DA}
theorem snd_call {K : PySem.W.Frag} {n : Nat} {ta : TA} {E : XK} (h : SndA K B n ta dr) : SndE K B (tCall (lift K S) [] E ta) (dCall S dr) := fun σ H δ M Q Qd sl rep bb q kk =>
  h σ H δ M _ _ sl rep bb q fun vs H1 xs M1 g rep1 rs _ q1 => ⟨xs, M1, Qd, _, by rw [List.append_nil]; exact rs, rep1, q1, fun v H' x M' g' => kk v H' x M' (g.trans g'), fun _ _ _ _ _ _ _ _ z => z.elim⟩
theorem e_call (F : FnOk X.prog X.w X.K X.mg X.base CX k f fd ps (lift X.K S)) (hr : Room k X.A) (hg : Gl X x) (hm : X.mg x = some (.ref f)) (hk : PySem.W.keepIn X.K (.ref f) = true) (hb : Binds X.K fd ps []) (hx : Passes CX X E0) (ha : PA3 X B (e :: es) dr)
    (hdb : (x == ("__debug__" : Str)) = false := by decide) (he : starEach (e :: es) X.env = (false, eval e X.env) :: starEach es X.env := by rfl) (hpl : (backTo pos (starEach es X.env)).any (·.1) = false := by rfl) :
    PE3 X B (.Call (.Name x p) (e :: es) [] pos) (dCall S dr) := by
  obtain ⟨t, a1, a2⟩ := ha.ex
  exact ⟨_, pe_call F hr hg hm hk hb .nil hx a1 hdb he hpl, snd_call a2⟩
theorem e_call0 (F : FnOk X.prog X.w X.K X.mg X.base CX k f fd ps (lift X.K S)) (hr : Room k X.A) (hg : Gl X x) (hm : X.mg x = some (.ref f)) (hk : PySem.W.keepIn X.K (.ref f) = true) (hb : Binds X.K fd ps []) (hx : Passes CX X E0)
    (hdb : (x == ("__debug__" : Str)) = false := by decide) : PE3 X B (.Call (.Name x p) [] [] pos) (dCall S dNil) :=
  ⟨_, pe_call0 F hr hg hm hk hb .nil hx hdb, snd_call (n := 0) fun σ H δ M Q Qd sl rep bb h q => q [] H [] M Go.refl rep .nil rfl h⟩
end
section
variable {P : Program} {w : World} {K : PySem.W.Frag} {mg : Str → Option Value} {base : Heap}
/-- THE RULE for a def that lets nothing out -/
theorem fun3 {x qual : Str} {st : Stmt} {f : Addr} {fd : FuncData} {N ps : List Str} {k : Nat} {S : DSp} {d : DSt} (F : Fun K x qual st f fd) (Sc : FnScope N ps (defScope st)) (hn : ∀ ds M Q E, S ds M Q E → ds.length = ps.length)
    (hb : ∀ (cdv : Value) (A : Around) (outer : List Env) (s : Shared) (H : Hp) (E : XK), Room k (A.deeper (envOfC qual (defScope st) s.heap.objs.size f cdv)) → PB3 (cxOf CX0 P w K mg base N qual (defScope st) f cdv A outer s H E).nox Am.no (defBody st) d)
    (hd : ∀ ds M Q E, S ds M Q E → ∀ H, Rep K H M → ∃ M1, Rep K H M1 ∧ (∀ a, M a = none → M1 a = none) ∧
      d { nx := fun _ M' => ∃ M2, Fgt K M' M2 ∧ Q .non M2, rt := fun v M' => ∃ M2, Fgt K M' M2 ∧ Q v M2 } (startD N.length ds) M1) : FnOk P w K mg base CX0 (k + 1) f fd ps (lift K S) := by
  refine F.ok Sc (fun vs H Q E h => ?_) (fun cdv A outer s H vs Q E hr h => ?_)
  · obtain ⟨ds, M, Qd, Ed, rs, _, hs, _⟩ := h
    rw [rs.len]
    exact hn _ _ _ _ hs
  · obtain ⟨ds, M, Qd, Ed, rs, rep, hs, q, _⟩ := h
    obtain ⟨M1, rep1, dom, hd⟩ := hd ds M Qd Ed hs H rep
    obtain ⟨t, h1, h2⟩ := (hb cdv A outer s H E hr).ex
    have g01 : Go H M H M1 := fun a u ha na => ⟨ha, dom a na⟩
    refine ⟨t, h1, h2 _ H _ M1 _ _ (Sl.start rs) rep1 trivial hd ⟨fun σ' H' δ' M' g _ rep' ⟨M2, fg, q'⟩ => ?_, fun v H' x M' g rep' r ⟨M2, fg, q'⟩ => ?_, fun _ _ _ _ _ _ _ z => z.elim, fun _ _ _ _ _ _ _ z => z.elim⟩⟩
    · exact q _ _ _ M2 ((g01.trans g).trans fg.go) (fg.1 _ rep') R.non' q'
    · exact q _ _ _ M2 ((g01.trans g).trans fg.go) (fg.1 _ rep') r q'
end
end T3
/-! list.extend of a tuple, as the layer has it of a list -/
namespace PySem
theorem t3_extend_tup (l : Addr) (xs : Array Value) (n : Nat) (b : Addr) (ys : Array Value) (m : Nat) (dd : Option Addr) (sl : Array (Option Value)) (h0 : ¬(!xs.isEmpty && Builtin.List.listTooLong (xs.size + ys.size)) = true) (h1 : xs.size ≤ sizeLine) (h2 : xs.size + ys.size ≤ sizeLine + 1) :
    Meets (Builtin.«list.extend» ⟨[.ref l, .ref b], []⟩) (fun _ Rr z => z.heap.get? l = some { cls := .type "list", dict := none, data := .seq xs n, slots := #[] } ∧ z.heap.get? b = some { cls := .type "tuple", dict := dd, data := .seq ys m, slots := sl } ∧
      Rr (.ok (.ret Value.none)) { z with heap := z.heap.update l (Obj.mapSeq fun x => x ++ ys), toks := z.toks }) :=
  .of_wp fun pr wo Ar Rr z hz => by
    obtain ⟨hp, g, d, tk, os⟩ := z
    obtain ⟨hl, hb, hz⟩ := hz
    have q1 := AutoSeq1.idx_int
    have q2 := AutoSeq1.sub_tuple_tuple
    have q3 := AutoSeq1.sub_list_list
    have q4 := AutoSeq1.sub_tuple_list
    have q5 := AutoSeq1.sub_list_tuple
    have big : (xs ++ ys).size ≤ sizeLine + 1 := by rw [Array.size_append]; exact h2
    wp_walk using (wpAny_updateSeq hl rfl (hz := h1) (_hz' := big)), AutoSeq1.wpAny_loadPart' hl, AutoSeq1.wpAny_loadPart' hb
    exact ⟨_, rfl, hz⟩
end PySem
namespace T3
open PySem PySem.Spec PyProof.Rows L2
section
variable {X : Cx} {B : Am} {o e i : Expr} {es : List Expr} {do_ de di : DE} {dr : DA} {pos : Pos}
/-! ### methods of lists -/
abbrev DM := D → List D → Hd → DK → Prop
structure MtD (X : Cx) (id : String) (rd : DM) : Prop where
  ex : ∃ r, MtR X id r ∧ ∀ (H : Hp) (M : Hd) (x : D) (v : V) (xs : List D) (vs : List V) (Q : VK) (Qd : DK), Rep X.K H M → R X.K H x v → Rs X.K H xs vs → rd x xs M Qd →
    (∀ v' H' x' M', Go H M H' M' → Rep X.K H' M' → R X.K H' x' v' → Qd x' M' → Q v' H') → r v vs H Q
def dLM (rd : DM) (do_ : DE) (dr : DA) : DE := fun δ M Q => do_ δ M fun x M1 => (∃ p xs, x = .ref p ∧ LS M1 p xs) ∧ dr δ M1 fun ys M2 => rd x ys M2 Q
theorem snd_lm {id : String} {rd : DM} {to : TE} {t : TA} {n : Nat} {r : V → List V → Hp → VK → Prop} (ho : SndE X.K B to do_) (ha : SndA X.K B n t dr)
    (hr : ∀ (H : Hp) (M : Hd) (x : D) (v : V) (xs : List D) (vs : List V) (Q : VK) (Qd : DK), Rep X.K H M → R X.K H x v → Rs X.K H xs vs → rd x xs M Qd → (∀ v' H' x' M', Go H M H' M' → Rep X.K H' M' → R X.K H' x' v' → Qd x' M' → Q v' H') → r v vs H Q) :
    SndE X.K B (tBM X.K "list" r to t) (dLM rd do_ dr) := fun σ H δ M Q Qd sl rep bb q k => by
  refine ho σ H δ M _ _ sl rep bb q fun v H1 x M1 g1 rep1 r1 ⟨⟨p, xs, ex, l⟩, q1⟩ => ?_
  subst ex
  obtain ⟨us, s, _⟩ := rep1.ls l
  refine ⟨by rw [r1.ref_]; exact .inl ⟨rfl, us, s⟩, ?_⟩
  refine ha σ H1 δ M1 _ _ (sl.mono (rep.tx g1)) rep1 (B.pres _ _ _ _ g1 bb) q1 fun vs H2 ys M2 g2 rep2 rs _ q2 => ?_
  exact hr H2 M2 _ v ys vs Q Qd rep2 (r1.mono (rep1.tx g2)) rs q2 fun v' H' x' M' g' => k v' H' x' M' ((g1.trans g2).trans g')
theorem e_lm {name : Str} {id : String} {rd : DM} {apos cpos : Pos} (slot : PySem.Slot "list" name id) (hty : typeOf (.builtin id) = pure (.type "method_descriptor")) (hm : MtD X id rd) (ho : PE3 X B o do_) (ha : PA3 X B (e :: es) dr)
    (hbase : attributeBase o name X.env (eval o X.env) = eval o X.env := by rfl)
    (hfew : ((backTo cpos (starEach (e :: es) X.env)).all (fun x => !x.1) && (backToKw cpos (keywordEach [] X.env)).all (fun x => x.1.isSome)
      && decide ((e :: es).length + ([] : List Keyword).length + (if ([] : List Keyword).isEmpty then 0 else 1) < 30)) = true := by rfl)
    (hline : (apos.endLine == cpos.line) = true := by rfl) (hs : starEach (e :: es) X.env = (false, eval e X.env) :: starEach es X.env := by rfl) (hplain : (backTo cpos (starEach es X.env)).any (·.1) = false := by rfl) :
    PE3 X B (.Call (.Attribute o name apos) (e :: es) [] cpos) (dLM rd do_ dr) := by
  obtain ⟨r, r1, r2⟩ := hm.ex
  obtain ⟨to, o1, o2⟩ := ho.ex
  obtain ⟨t, a1, a2⟩ := ha.ex
  exact ⟨_, pe_bm PySem.F.plainAttrs_list slot hty r1 o1 a1 hbase hfew hline hs hplain, snd_lm (id := id) o2 a2 r2⟩
theorem e_lm0 {name : Str} {id : String} {rd : DM} {apos cpos : Pos} (slot : PySem.Slot "list" name id) (hty : typeOf (.builtin id) = pure (.type "method_descriptor")) (hm : MtD X id rd) (ho : PE3 X B o do_)
    (hbase : attributeBase o name X.env (eval o X.env) = eval o X.env := by rfl) (hline : (apos.endLine == cpos.line) = true := by rfl) : PE3 X B (.Call (.Attribute o name apos) [] [] cpos) (dLM rd do_ dNil) := by
  obtain ⟨r, r1, r2⟩ := hm.ex
  obtain ⟨to, o1, o2⟩ := ho.ex
  refine ⟨_, pe_bm0 PySem.F.plainAttrs_list slot hty r1 o1 hbase hline, ?_⟩
  exact snd_lm (id := id) (t := tNil) (n := 0) o2 (fun σ H δ M Q Qd sl rep bb h q => q [] H [] M Go.refl rep .nil rfl h) r2
def dAppend : DM := fun x ys M Q => match x, ys with
  | .ref p, [y] => ∃ xs, M p = some (.lst xs) ∧ xs.length < sizeLine ∧ Q .non (up M p (.lst (xs ++ [y])))
  | _, _ => False
theorem m_append : MtD X "list.append" dAppend := by
  refine ⟨_, mt_append, fun H M x v xs vs Q Qd rep r rs h q => ?_⟩
  unfold dAppend at h
  split at h
  · rename_i p y
    obtain ⟨xs, l, hz, h⟩ := h
    obtain ⟨u, rfl, ru⟩ := rs.one_
    obtain ⟨us, s, rs'⟩ := rep.lst l
    obtain ⟨g, rep'⟩ := rep.putL l (rs'.app (.one ru))
    exact ⟨p, us, u, r.ref_, rfl, s, by rw [rs'.len]; exact hz, q _ _ _ _ g rep' R.non' h⟩
  · exact h.elim
def rExtT : V → List V → Hp → VK → Prop := fun x vs H Q => ∃ l b xs zs, x = .ref l ∧ vs = [.ref b] ∧ H l = some (.lst xs) ∧ H b = some (.tup zs) ∧ xs.length + zs.length ≤ sizeLine ∧ Q .non (upd H l (.lst (xs ++ zs)))
theorem mt_extT : MtR X "list.extend" rExtT := by
  intro pins s σ H x vs v us Q I rx rv h
  obtain ⟨l, b, xs, zs, rfl, rfl, hl, hb, hz, q⟩ := h
  cases rx
  obtain ⟨u, rfl, ru⟩ := Vals.one rv
  cases ru
  obtain ⟨_, its, n, r, len1, e1⟩ := I.lstM hl
  obtain ⟨its2, r2, ⟨⟨cl, dd, dt, sl⟩, e2, hc, m, hd⟩, _⟩ := I.tuple (SqT.of hb)
  simp only at hc hd
  subst hc hd
  have len2 := r2.length
  have hsz : its.toArray.size + its2.toArray.size ≤ sizeLine := by rw [List.size_toArray, List.size_toArray]; omega
  refine call_meets F.slot_list_extend ⟨_, e1, rfl⟩ F.entry_list_extend (F.args_list_extend_2 _ _)
    (t3_extend_tup l its.toArray n b its2.toArray m dd sl (by rw [notLongL hsz, Bool.and_false]; exact Bool.false_ne_true) (by rw [List.size_toArray] at hsz ⊢; omega) (Nat.le_succ_of_le hsz)) ⟨e1, e2, ?_⟩
  exact ⟨.non, _, I.lset (its' := its ++ its2) hl e1 (by simp) (r.append r2) (by rw [List.length_append]; omega), rfl, q⟩
def dExtend : DM := fun x ys M Q => match x, ys with
  | .ref p, [.tup zs] => ∃ xs, M p = some (.lst xs) ∧ xs.length + zs.length ≤ sizeLine ∧ Q .non (up M p (.lst (xs ++ zs)))
  | .ref p, [.ref b] => ∃ xs zs, M p = some (.lst xs) ∧ M b = some (.lst zs) ∧ xs.length + zs.length ≤ sizeLine ∧ Q .non (up M p (.lst (xs ++ zs)))
  | _, _ => False
theorem m_extend : MtD X "list.extend" dExtend := by
  refine ⟨_, MtR.or mt_extend mt_extT, fun H M x v xs vs Q Qd rep r rs h q => ?_⟩
  unfold dExtend at h
  split at h
  · rename_i p zs
    obtain ⟨xs, l, hz, h⟩ := h
    obtain ⟨u, rfl, ru⟩ := rs.one_
    obtain ⟨us, s, rs'⟩ := rep.lst l
    obtain ⟨b, ws, rfl, s2, rs2⟩ := ru.untup
    obtain ⟨g, rep'⟩ := rep.putL l (rs'.app rs2)
    exact .inr ⟨p, b, us, ws, r.ref_, rfl, s, s2, by rw [rs'.len, rs2.len]; exact hz, q _ _ _ _ g rep' R.non' h⟩
  · rename_i p b
    obtain ⟨xs, zs, l, l2, hz, h⟩ := h
    obtain ⟨u, rfl, ru⟩ := rs.one_
    obtain ⟨us, s, rs'⟩ := rep.lst l
    obtain ⟨ws, s2, rs2⟩ := rep.lst l2
    obtain ⟨g, rep'⟩ := rep.putL l (rs'.app rs2)
    exact .inl ⟨p, b, us, ws, r.ref_, by rw [ru.ref_], s, s2, by rw [rs'.len, rs2.len]; exact hz, q _ _ _ _ g rep' R.non' h⟩
  · exact h.elim
def dReverse : DM := fun x ys M Q => match x, ys with
  | .ref p, [] => ∃ xs, M p = some (.lst xs) ∧ Q .non (up M p (.lst xs.reverse))
  | _, _ => False
theorem m_reverse : MtD X "list.reverse" dReverse := by
  refine ⟨_, mt_reverse, fun H M x v xs vs Q Qd rep r rs h q => ?_⟩
  unfold dReverse at h
  split at h
  · rename_i p
    obtain ⟨xs, l, h⟩ := h
    obtain ⟨us, s, rs'⟩ := rep.lst l
    obtain ⟨g, rep'⟩ := rep.putL l rs'.rev
    exact ⟨p, us, r.ref_, rs.unil, s, q _ _ _ _ g rep' R.non' h⟩
  · exact h.elim
def dInsert : DM := fun x ys M Q => match x, ys with
  | .ref p, [.int i, y] => ∃ xs, M p = some (.lst xs) ∧ xs.length < sizeLine ∧ 0 ≤ i ∧ i < 2 ^ 63 ∧ Q .non (up M p (.lst (xs.take i.toNat ++ [y] ++ xs.drop i.toNat)))
  | _, _ => False
theorem m_insert : MtD X "list.insert" dInsert := by
  refine ⟨_, mt_insert, fun H M x v xs vs Q Qd rep r rs h q => ?_⟩
  unfold dInsert at h
  split at h
  · rename_i p i y
    obtain ⟨xs, l, hz, h0, h1, h⟩ := h
    obtain ⟨u, w, rfl, ru, rw'⟩ := rs.two_
    obtain ⟨us, s, rs'⟩ := rep.lst l
    obtain ⟨g, rep'⟩ := rep.putL l (((rs'.take i.toNat).app (.one rw')).app (rs'.drop i.toNat))
    exact ⟨p, us, i, w, r.ref_, by rw [ru.int_], s, by rw [rs'.len]; exact hz, h0, h1, q _ _ _ _ g rep' R.non' h⟩
  · exact h.elim
/-! ### o[i] op= e -/
def rGetA (K : PySem.W.Frag) : V → V → Hp → VK → Prop := fun x y H Q => (∃ p xs i v, x = .ref p ∧ y = .int i ∧ SqL K H p xs ∧ 0 ≤ i ∧ xs[i.toNat]? = some v ∧ Q v H) ∨ (∃ a v, x = .ref a ∧ DGet H a y (some v) ∧ Q v H)
theorem get_any (hu : X.A.units + 1 < cLine) : PGet X (rGetA X.K) := by
  intro pins s σ H o i ov iv Q I ro ri h
  rcases h with ⟨p, xs, k, v, rfl, rfl, hq, h0, hv, q⟩ | ⟨a, v, rfl, g, q⟩
  · cases ro
    obtain ⟨t, rfl⟩ := ri
    obtain ⟨its, r, pl, hz⟩ := I.list hq
    obtain ⟨u, hu, ru⟩ := r.get hv
    have lt := (List.getElem?_eq_some_iff.mp hv).1
    have l63 := line63
    exact wpAny_getItem_list pl.isList h0 (by omega) (x := u) (by simpa using hu) ⟨v, H, I, ru, q⟩
  · cases ro
    exact d_getItem hu I g ri fun w' s' I' r' => ⟨v, H, I', r', q⟩
def dGetA : DR2 := fun x y M Q => ∃ p, x = .ref p ∧ ((∃ (xs : List D) (i : Int) (v : D), y = .int i ∧ LS M p xs ∧ 0 ≤ i ∧ xs[i.toNat]? = some v ∧ Q v M) ∨
  (∃ (kvs : List (Key × D)) (k : Key) (v : D), y = kD k ∧ DK_ M p kvs ∧ valD kvs k = some v ∧ Q v M))
theorem snd_getA : SndR2 X.K (rGetA X.K) dGetA := fun H M x y v u Q Qd rep r1 r2 h q => by
  obtain ⟨p, rfl, h⟩ := h
  rw [r1.ref_]
  rcases h with ⟨xs, i, z, rfl, l, h0, e, h⟩ | ⟨kvs, k, z, rfl, d, e, h⟩
  · obtain ⟨vs, s, rs⟩ := rep.ls l
    obtain ⟨w, ew, rw'⟩ := rs.get e
    exact .inl ⟨p, vs, i, w, rfl, r2.int_, s, h0, ew, q _ _ _ M Go.refl rep rw' h⟩
  · obtain ⟨ws, hd, rk⟩ := rep.dk d
    obtain ⟨w, ew, rw'⟩ := (RK.val k rk).1 _ e
    exact .inr ⟨p, w, rfl, .inl ⟨ws, k, hd, r2.kD, ew.symm⟩, q _ _ _ M Go.refl rep rw' h⟩
def dAugI (do_ di de : DE) (rd : DR2) : DSt := fun En δ M => do_ δ M fun x M1 => di δ M1 fun y M2 => dGetA x y M2 fun z M3 => de δ M3 fun v M4 => rd z v M4 fun w M5 => dPut x y w M5 fun M6 => En.nx δ M6
theorem s_augI {op : Operator} {rd : DR2} {tpos : Pos} (hu : X.A.units + 1 < cLine) (ho : PE3 X B o do_) (hi : PE3 X B i di) (he : PE3 X B e de) (hp : PIp3 X op rd)
    (ha : ∀ ov iv new, augStore i ov iv new = (do holding [new, ov, iv] (setItem ov iv new); release [new, ov, iv] []; pure .next) := by intros; rfl) : PS3 X B (.AugAssign (.Subscript o i tpos) op e pos) (dAugI do_ di de rd) := by
  obtain ⟨to, o1, o2⟩ := ho.ex
  obtain ⟨ti, i1, i2⟩ := hi.ex
  obtain ⟨te, e1, e2⟩ := he.ex
  obtain ⟨rp, p1, p2⟩ := hp.ex
  obtain ⟨rs, s1, s2⟩ := (put3 (X := X) hu).ex
  refine ⟨_, ps_augS o1 i1 (get_any hu) e1 p1 s1 ha, fun σ H δ M D Dd sl rep bb q eo => o2 σ H δ M _ _ sl rep bb q fun v1 H1 x1 M1 g1 rep1 r1 q1 => ?_⟩
  have sl1 := sl.mono (rep.tx g1)
  have bb1 := B.pres _ _ _ _ g1 bb
  refine i2 σ H1 δ M1 _ _ sl1 rep1 bb1 q1 fun v2 H2 x2 M2 g2 rep2 r2 q2 => ?_
  have sl2 := sl1.mono (rep1.tx g2)
  have bb2 := B.pres _ _ _ _ g2 bb1
  have r12 := r1.mono (rep1.tx g2)
  refine snd_getA H2 M2 x1 x2 v1 v2 _ _ rep2 r12 r2 q2 fun v3 H3 x3 M3 g3 rep3 r3 q3 => ?_
  have sl3 := sl2.mono (rep2.tx g3)
  have bb3 := B.pres _ _ _ _ g3 bb2
  refine e2 σ H3 δ M3 _ _ sl3 rep3 bb3 q3 fun v4 H4 x4 M4 g4 rep4 r4 q4 => ?_
  have t34 := rep3.tx g4
  refine p2 H4 M4 x3 x4 v3 v4 _ _ rep4 (r3.mono t34) r4 q4 fun v5 H5 x5 M5 g5 rep5 r5 q5 => ?_
  have t45 := rep4.tx g5
  have t25 : Tx X.K H2 H5 := ((rep2.tx g3).trans t34).trans t45
  refine s2 H5 M5 x1 x2 x5 v1 v2 v5 _ _ rep5 (r12.mono t25) (r2.mono t25) r5 q5 fun H6 M6 g6 rep6 q6 => ?_
  exact eo.nx _ _ _ _ (((((g1.trans g2).trans g3).trans g4).trans g5).trans g6) ((sl2.mono t25).mono (rep5.tx g6)) rep6 q6
/-! ### tuple(range(..)), list(range(..)) -/
abbrev DRg := DS → Hd → (Int → Int → Hd → Prop) → Prop
structure PRg3 (X : Cx) (B : Am) (e : Expr) (d : DRg) : Prop where
  ex : ∃ t : L2.St → Hp → (Int → Int → Hp → Prop) → Prop, PRg X e t ∧ ∀ (σ : L2.St) (H : Hp) (δ : DS) (M : Hd) (Q : Int → Int → Hp → Prop) (Qd : Int → Int → Hd → Prop), Sl X.K H σ δ → Rep X.K H M → B.B H M → d δ M Qd → (∀ a b H' M', Go H M H' M' → Rep X.K H' M' → Qd a b M' → Q a b H') → t σ H Q
def dRg1 (de : DE) : DRg := fun δ M Q => de δ M fun x M1 => match x with
  | .int n => Q 0 n M1
  | _ => False
def dRg2 (de di : DE) : DRg := fun δ M Q => de δ M fun x M1 => di δ M1 fun y M2 => match x, y with
  | .int a, .int b => Q a b M2
  | _, _ => False
theorem rg1 {p : Pos} (hg : Gl X "range") (hm : X.mg "range" = none) (he : PE3 X B e de) (na : starEach [e] X.env = (false, eval e X.env) :: starEach [] X.env := by rfl) : PRg3 X B (.Call (.Name "range" p) [e] [] pos) (dRg1 de) := by
  obtain ⟨t, h1, h2⟩ := he.ex
  refine ⟨_, prg_1 hg hm h1 na, fun σ H δ M Q Qd sl rep bb q k => h2 σ H δ M _ _ sl rep bb q fun v H1 x M1 g rep1 r q1 => ?_⟩
  cases x with
  | int n => exact ⟨n, r.int_, k _ _ _ _ g rep1 q1⟩
  | _ => exact q1.elim
theorem rg2 {p : Pos} (hg : Gl X "range") (hm : X.mg "range" = none) (he : PE3 X B e de) (hi : PE3 X B i di) (na : starEach [e, i] X.env = (false, eval e X.env) :: starEach [i] X.env := by rfl) (nb : starEach [i] X.env = (false, eval i X.env) :: starEach [] X.env := by rfl) (hp : (backTo pos (starEach [i] X.env)).any (·.1) = false := by rfl) : PRg3 X B (.Call (.Name "range" p) [e, i] [] pos) (dRg2 de di) := by
  obtain ⟨t, h1, h2⟩ := he.ex
  obtain ⟨u, k1, k2⟩ := hi.ex
  refine ⟨_, prg_2 hg hm h1 k1 na nb hp, fun σ H δ M Q Qd sl rep bb q k => h2 σ H δ M _ _ sl rep bb q fun v H1 x M1 g rep1 r q1 => ?_⟩
  refine k2 σ H1 δ M1 _ _ (sl.mono (rep.tx g)) rep1 (B.pres _ _ _ _ g bb) q1 fun v2 H2 y M2 g2 rep2 r2 q2 => ?_
  cases x with
  | int n =>
    cases y with
    | int m => exact ⟨n, m, r.int_, r2.int_, k _ _ _ _ (g.trans g2) rep2 q2⟩
    | _ => exact q2.elim
  | _ => exact q2.elim
theorem rgV_rngD {K : PySem.W.Frag} {H : Hp} (a b : Int) : Rs K H (rngD a b) (rgV a b) := by
  unfold rngD rgV
  generalize List.range (b - a).toNat = l
  induction l with
  | nil => exact .nil
  | cons j l ih => exact .cons R.int' ih
def dTupRg (dg : DRg) : DE := fun δ M Q => dg δ M fun a b M1 => RgOk a b ∧ Q (.tup (rngD a b)) M1
def dLstRg (dg : DRg) : DE := fun δ M Q => dg δ M fun a b M1 => RgOk a b ∧ ∀ q, M1 q = none → Q (.ref q) (up M1 q (.lst (rngD a b)))
theorem e_tupRg {dg : DRg} {p : Pos} (hc : X.calm = true) (hg : Gl X "tuple") (hm : X.mg "tuple" = none) (he : PRg3 X B e dg) (na : starEach [e] X.env = (false, eval e X.env) :: starEach [] X.env := by rfl) : PE3 X B (.Call (.Name "tuple" p) [e] [] pos) (dTupRg dg) := by
  obtain ⟨t, h1, h2⟩ := he.ex
  refine ⟨_, pe_tupRg hc hg hm h1 na, fun σ H δ M Q Qd sl rep bb q k => h2 σ H δ M _ _ sl rep bb q fun a b H1 M1 g rep1 ⟨ok, q1⟩ => ⟨ok, fun p hp => ?_⟩⟩
  obtain ⟨g', rep', r'⟩ := rep1.newT hp (rgV_rngD a b)
  exact k _ _ _ _ (g.trans g') rep' r' q1
theorem e_lstRg {dg : DRg} {p : Pos} (hc : X.calm = true) (hg : Gl X "list") (hm : X.mg "list" = none) (he : PRg3 X B e dg) (na : starEach [e] X.env = (false, eval e X.env) :: starEach [] X.env := by rfl) : PE3 X B (.Call (.Name "list" p) [e] [] pos) (dLstRg dg) := by
  obtain ⟨t, h1, h2⟩ := he.ex
  refine ⟨_, pe_listRg hc hg hm h1 na, fun σ H δ M Q Qd sl rep bb q k => h2 σ H δ M _ _ sl rep bb q fun a b H1 M1 g rep1 ⟨ok, q1⟩ => ⟨ok, fun p hp => ?_⟩⟩
  obtain ⟨g', rep'⟩ := rep1.newL hp (rgV_rngD a b)
  exact k _ _ _ _ (g.trans g') rep' R.ref' (q1 p (rep1.free hp))
/-! ### {k: v for ..}, {} -/
def dDc (di : DI) (g : Tg) (dt : DT) (dk dv : DE) (vs : List Nat) : DE := fun δ M Q => di δ M fun W M1 => W.xs.length ≤ sizeLine ∧ ∃ P : List D → List (Key × D) → Hd → Prop, P [] [] M1 ∧
  (∀ pre x post acc M', W.xs = pre ++ x :: post → P pre acc M' → W.G M' ∧ dTg g x (wipeD δ vs) fun δ2 => dt δ2 M' fun b M2 =>
    (b = true → dk δ2 M2 fun y M3 => dv δ2 M3 fun z M4 => ∃ k, y = kD k ∧ ∃ M5, Sub M4 M5 ∧ P (pre ++ [x]) (putKD acc k z) M5) ∧ (b = false → ∃ M4, Sub M2 M4 ∧ P (pre ++ [x]) acc M4)) ∧
  ∀ acc M', P W.xs acc M' → W.G M' ∧ ∀ p, M' p = none → Q (.ref p) (up M' p (.dK acc))
theorem snd_dc {K : PySem.W.Frag} {di : DI} {g : Tg} {wi : TI} {tt : TT} {tk tv : TE} {dt : DT} {dk dv : DE} {vs : List Nat} (hi : SndI K B wi di) (ht : SndT K B tt dt) (hk : SndE K B tk dk) (he : SndE K B tv dv) (hv : ∀ i ∈ g.ix, i ∈ vs) : SndE K B (tDc wi (g.L K) tt tk tv vs) (dDc di g dt dk dv vs) := by
  intro σ H δ M Q Qd sl rep bb q k
  refine hi σ H δ M _ _ sl rep bb q fun J H1 W M1 g1 rep1 ok ⟨hz, P, p0, turn, fin⟩ Da hDa => ?_
  have sl1 := sl.mono (rep.tx g1)
  have bb1 := B.pres _ _ _ _ g1 bb
  have nD : M1 Da = none := rep1.free hDa
  refine ⟨fun i m H' => ∃ pre post acc us M', W.xs = pre ++ post ∧ pre.length = i ∧ m = post.length ∧ acc.length ≤ pre.length ∧ Rep K H' M' ∧ M' Da = none ∧ H' Da = some (.dK us) ∧ RK K H' acc us ∧ Go H1 M1 H' M' ∧ P pre acc M',
    ⟨_, [], W.xs, [], [], M1, rfl, rfl, rfl, Nat.le_refl _, rep1.tup hDa, nD, upd_same, .nil, go_tup hDa, p0⟩, ?_⟩
  rintro i m H' ⟨pre, post, acc, us, M', ex, rfl, rfl, hl, rep', nD', hD', rs', g', p⟩
  cases post with
  | nil =>
    rw [List.append_nil] at ex
    subst ex
    obtain ⟨gg, nx⟩ := fin acc M' p
    refine .inl ⟨(ok _ H' M' (rep1.tx g') rep' gg).2 rfl, ?_⟩
    refine k (.ref Da) H' _ (up M' Da (.dK acc)) ?_ (rep'.shwK nD' hD' rs') R.ref' (nx Da nD')
    intro a u ha na
    obtain ⟨ha1, na1⟩ := g1 a u ha na
    obtain ⟨ha2, na2⟩ := g' a u ha1 na1
    have : a ≠ Da := ne_of_none ha1 hDa
    exact ⟨ha2, by rw [up_ne this]; exact na2⟩
  | cons x post =>
    obtain ⟨gg, h⟩ := turn pre x post acc M' ex p
    have at_ : W.xs[pre.length]? = some x := by rw [ex]; simp
    have lt : acc.length < sizeLine := by
      have : W.xs.length = pre.length + (post.length + 1) := by rw [ex]; simp
      omega
    obtain ⟨go, yld⟩ := (ok _ H' M' (rep1.tx g') rep' gg).1 x at_
    refine .inr ⟨go, fun H2 => ∃ acc2 us2 M2, acc2.length ≤ pre.length + 1 ∧ Rep K H2 M2 ∧ M2 Da = none ∧ H2 Da = some (.dK us2) ∧ RK K H2 acc2 us2 ∧ Go H1 M1 H2 M2 ∧ P (pre ++ [x]) acc2 M2,
      fun H2 ⟨acc2, us2, M2, a, b, c, d, e, f, pp⟩ => ⟨post.length, Nat.lt_succ_self _, pre ++ [x], post, acc2, us2, M2, by rw [ex]; simp, by simp, rfl, by simpa using a, b, c, d, e, f, pp⟩, fun v H2 y => ?_⟩
    obtain ⟨g2, rep2, rv⟩ := yld v H2 y
    have g12 := g'.trans g2
    obtain ⟨hD2, _⟩ := g2 Da _ hD' nD'
    have rs2 := rs'.mono (rep'.tx g2)
    have slw := (sl1.mono (rep1.tx g12)).wipe vs
    refine tg_run g (M := M') slw rv h fun σ3 δ3 sl3 h3 hw => ⟨(hw vs hv).trans (wipe_wipe σ vs), ?_⟩
    refine ht σ3 H2 δ3 M' _ _ sl3 rep2 (B.pres _ _ _ _ g12 bb1) h3 fun b H3 M3 g3 rep3 ⟨q1, q2⟩ => ?_
    have g13 := g12.trans g3
    obtain ⟨hD3, nD3⟩ := g3 Da _ hD2 nD'
    have rs3 := rs2.mono (rep2.tx g3)
    have sl33 := sl3.mono (rep2.tx g3)
    cases b with
    | false =>
      obtain ⟨M4, sb, p4⟩ := q2 rfl
      exact iteF ⟨acc, us, M4, by omega, (sb.fgt (K := K)).1 _ rep3, sb.free nD3, hD3, rs3, g13.trans (sb.fgt (K := K)).go, p4⟩
    | true =>
      refine iteT (hk σ3 H3 δ3 M3 _ _ sl33 rep3 (B.pres _ _ _ _ g13 bb1) (q1 rfl) fun v4 H4 x4 M4 g4 rep4 r4 q4 => ?_)
      obtain ⟨hD4, nD4⟩ := g4 Da _ hD3 nD3
      have rs4 := rs3.mono (rep3.tx g4)
      have g14 := g13.trans g4
      refine he σ3 H4 δ3 M4 _ _ (sl33.mono (rep3.tx g4)) rep4 (B.pres _ _ _ _ g14 bb1) q4 fun v5 H5 x5 M5 g5 rep5 r5 ⟨kk, ek, M6, sb, p6⟩ => ?_
      subst ek
      obtain ⟨hD5, nD5⟩ := g5 Da _ hD4 nD4
      have rs5 := rs4.mono (rep4.tx g5)
      have t5 : Tx K H5 (upd H5 Da (.dK (putK us kk v5))) := tx_put hD5 trivial
      refine ⟨us, kk, r4.kD, hD5, by rw [rs5.len]; exact lt, putKD acc kk x5, putK us kk v5, M6, ?_, (sb.fgt (K := K)).1 _ (rep5.hid nD5 hD5 trivial), sb.free nD5, upd_same, (rs5.put kk r5).mono t5, ?_, p6⟩
      · have := len_putKD acc kk x5
        omega
      · intro a u ha na
        obtain ⟨h1, n1⟩ := (g14.trans g5) a u ha na
        have : a ≠ Da := ne_of_none ha hDa
        exact ⟨by rw [upd_ne this]; exact h1, sb.free n1⟩
theorem e_dc {tg iter kx vx : Expr} {di : DI} {g : Tg} {ifs : List Expr} {scope : Scope} {own : List (Str × Nat)} {dt : DT} {dk dv : DE} (hc : X.calm = true) (hN : X.N.Nodup) (hi : PI3 X B tg iter di) (ok : BlkOk X.N X.env.scope scope own)
    (hg : ∀ (s : Shared) (H : Hp) (C : Addr) (cl : List (Str × Addr)) (fp : List Addr), PG3 (X.blk s H scope (compEnvC scope cl C X.env) fp) tg g) (ht : ∀ (s : Shared) (H : Hp) (C : Addr) (cl : List (Str × Addr)) (fp : List Addr), PTs3 (X.blk s H scope (compEnvC scope cl C X.env) fp) B ifs dt)
    (hk : ∀ (s : Shared) (H : Hp) (C : Addr) (cl : List (Str × Addr)) (fp : List Addr), PE3 (X.blk s H scope (compEnvC scope cl C X.env) fp) B kx dk)
    (he : ∀ (s : Shared) (H : Hp) (C : Addr) (cl : List (Str × Addr)) (fp : List Addr), PE3 (X.blk s H scope (compEnvC scope cl C X.env) fp) B vx dv) (hv : ∀ i ∈ g.ix, i ∈ own.map (·.2) := by decide) (hs : ∀ x, foldedSetIterable iter X.env x = pure x := by intro _; rfl) :
    PE3 X B (.DictComp kx vx [⟨tg, iter, ifs, 0⟩] scope pos) (dDc di g dt dk dv (own.map (·.2))) := by
  obtain ⟨ti, i1, i2⟩ := hi.ex
  exact ⟨_, pe_dc (g := g.L X.K) (tt := tOfT X.K B dt) (tk := tOf X.K B dk) (tv := tOf X.K B dv) hc hN i1 ok (fun s H C cl fp => (hg s H C cl fp).ex) (fun s H C cl fp => (ht s H C cl fp).can) (fun s H C cl fp => (hk s H C cl fp).can) (fun s H C cl fp => (he s H C cl fp).can) hs, snd_dc i2 snd_tOfT snd_tOf snd_tOf hv⟩
def dNewK : DE := fun _ M Q => ∀ p, M p = none → Q (.ref p) (up M p (.dK []))
def dNewT : DE := fun _ M Q => ∀ p, M p = none → Q (.ref p) (up M p (.dT []))
theorem e_newK : PE3 X B (.Dict [] [] pos) dNewK := ⟨_, pe_dnewK, fun σ H δ M Q Qd sl rep bb h q p hp => by
  refine q _ _ _ (up M p (.dK [])) (go_new hp) (rep.put (tx_new hp) (by rw [rep.free hp]; exact fun _ z => nomatch z) (.inl hp) ⟨[], upd_same, .nil⟩) R.ref' (h p (rep.free hp))⟩
theorem e_newT : PE3 X B (.Dict [] [] pos) dNewT := ⟨_, pe_dnewT, fun σ H δ M Q Qd sl rep bb h q p hp => by
  refine q _ _ _ (up M p (.dT [])) (go_new hp) (rep.put (tx_new hp) (by rw [rep.free hp]; exact fun _ z => nomatch z) (.inl hp) ⟨[], upd_same, .nil⟩) R.ref' (h p (rep.free hp))⟩
end
end T3
namespace T3
open PySem PySem.Spec PyProof.Rows L2
/-! ### promises by the number of things -/
def S0 (f : Hd → DK → Prop) : DSp := fun ds M Q _ => ds = [] ∧ f M Q
def S1 (f : D → Hd → DK → Prop) : DSp := fun ds M Q _ => ∃ a, ds = [a] ∧ f a M Q
def S2 (f : D → D → Hd → DK → Prop) : DSp := fun ds M Q _ => ∃ a b, ds = [a, b] ∧ f a b M Q
def S3 (f : D → D → D → Hd → DK → Prop) : DSp := fun ds M Q _ => ∃ a b c, ds = [a, b, c] ∧ f a b c M Q
def S4 (f : D → D → D → D → Hd → DK → Prop) : DSp := fun ds M Q _ => ∃ a b c d, ds = [a, b, c, d] ∧ f a b c d M Q
def S5 (f : D → D → D → D → D → Hd → DK → Prop) : DSp := fun ds M Q _ => ∃ a b c d e, ds = [a, b, c, d, e] ∧ f a b c d e M Q
def S6 (f : D → D → D → D → D → D → Hd → DK → Prop) : DSp := fun ds M Q _ => ∃ a b c d e g, ds = [a, b, c, d, e, g] ∧ f a b c d e g M Q
theorem S5_ {f : D → D → D → D → D → Hd → DK → Prop} {a b c d e : D} {M : Hd} {Q : DK} {E : DX} : S5 f [a, b, c, d, e] M Q E ↔ f a b c d e M Q := ⟨fun ⟨_, _, _, _, _, e, h⟩ => by cases e; exact h, fun h => ⟨_, _, _, _, _, rfl, h⟩⟩
theorem S6_ {f : D → D → D → D → D → D → Hd → DK → Prop} {a b c d e g : D} {M : Hd} {Q : DK} {E : DX} : S6 f [a, b, c, d, e, g] M Q E ↔ f a b c d e g M Q := ⟨fun ⟨_, _, _, _, _, _, e, h⟩ => by cases e; exact h, fun h => ⟨_, _, _, _, _, _, rfl, h⟩⟩
theorem S5n {f : D → D → D → D → D → Hd → DK → Prop} : ∀ ds M Q E, S5 f ds M Q E → ds.length = 5 := by rintro _ _ _ _ ⟨_, _, _, _, _, rfl, _⟩; rfl
theorem S6n {f : D → D → D → D → D → D → Hd → DK → Prop} : ∀ ds M Q E, S6 f ds M Q E → ds.length = 6 := by rintro _ _ _ _ ⟨_, _, _, _, _, _, rfl, _⟩; rfl
theorem S0_ {f : Hd → DK → Prop} {M : Hd} {Q : DK} {E : DX} : S0 f [] M Q E ↔ f M Q := ⟨fun ⟨_, h⟩ => h, fun h => ⟨rfl, h⟩⟩
theorem S1_ {f : D → Hd → DK → Prop} {a : D} {M : Hd} {Q : DK} {E : DX} : S1 f [a] M Q E ↔ f a M Q := ⟨fun ⟨_, e, h⟩ => by cases e; exact h, fun h => ⟨_, rfl, h⟩⟩
theorem S2_ {f : D → D → Hd → DK → Prop} {a b : D} {M : Hd} {Q : DK} {E : DX} : S2 f [a, b] M Q E ↔ f a b M Q := ⟨fun ⟨_, _, e, h⟩ => by cases e; exact h, fun h => ⟨_, _, rfl, h⟩⟩
theorem S3_ {f : D → D → D → Hd → DK → Prop} {a b c : D} {M : Hd} {Q : DK} {E : DX} : S3 f [a, b, c] M Q E ↔ f a b c M Q := ⟨fun ⟨_, _, _, e, h⟩ => by cases e; exact h, fun h => ⟨_, _, _, rfl, h⟩⟩
theorem S4_ {f : D → D → D → D → Hd → DK → Prop} {a b c d : D} {M : Hd} {Q : DK} {E : DX} : S4 f [a, b, c, d] M Q E ↔ f a b c d M Q := ⟨fun ⟨_, _, _, _, e, h⟩ => by cases e; exact h, fun h => ⟨_, _, _, _, rfl, h⟩⟩
theorem S0n {f : Hd → DK → Prop} : ∀ ds M Q E, S0 f ds M Q E → ds.length = 0 := by rintro _ _ _ _ ⟨rfl, _⟩; rfl
theorem S1n {f : D → Hd → DK → Prop} : ∀ ds M Q E, S1 f ds M Q E → ds.length = 1 := by rintro _ _ _ _ ⟨_, rfl, _⟩; rfl
theorem S2n {f : D → D → Hd → DK → Prop} : ∀ ds M Q E, S2 f ds M Q E → ds.length = 2 := by rintro _ _ _ _ ⟨_, _, rfl, _⟩; rfl
theorem S3n {f : D → D → D → Hd → DK → Prop} : ∀ ds M Q E, S3 f ds M Q E → ds.length = 3 := by rintro _ _ _ _ ⟨_, _, _, rfl, _⟩; rfl
theorem S4n {f : D → D → D → D → Hd → DK → Prop} : ∀ ds M Q E, S4 f ds M Q E → ds.length = 4 := by rintro _ _ _ _ ⟨_, _, _, _, rfl, _⟩; rfl
/-! ### a def stands; what it promises -/
structure Df (K : PySem.W.Frag) (mg : Str → Option Value) (x : Str) (st : Stmt) : Prop where
  ex : ∃ f fd, Fun K x x st f fd ∧ mg x = some (.ref f)
/-- how its things bind -/
abbrev Bi (K : PySem.W.Frag) (x : Str) (st : Stmt) (ps : List Str) : Prop := ∀ (kV doc pm : Value) (an : Option Addr) (cdv ct : Value) (us : List Value), us.length = ps.length → bindArgs (PySem.W.fnOf x x (defArgs st) (defBody st) (defScope st) .none kV doc pm an cdv ct) ⟨us, []⟩ = pure (ps.zip us)
structure Pr (P : Program) (w : World) (K : PySem.W.Frag) (mg : Str → Option Value) (base : Heap) (x : Str) (k : Nat) (ps : List Str) (S : DSp) : Prop where
  ex : ∃ f fd, mg x = some (.ref f) ∧ PySem.W.keepIn K (.ref f) = true ∧ Binds K fd ps [] ∧ FnOk P w K mg base CX0 k f fd ps (lift K S) ∧ (∃ oc od osl, K.lookup f = some ⟨oc, od, .func fd, osl⟩) ∧ ∀ us : List Value, us.length = ps.length → bindArgs fd ⟨us, []⟩ = pure (ps.zip us)
section
variable {X : Cx} {B : Am} {k : Nat} {ps : List Str} {S : DSp} {x : Str} {p pos : Pos} {e : Expr} {es : List Expr} {dr : DA}
theorem e_callP (F : Pr X.prog X.w X.K X.mg X.base x k ps S) (hr : Room k X.A) (hg : Gl X x) (hx : Passes CX0 X E0) (ha : PA3 X B (e :: es) dr)
    (hdb : (x == ("__debug__" : Str)) = false := by decide) (he : starEach (e :: es) X.env = (false, eval e X.env) :: starEach es X.env := by rfl) (hpl : (backTo pos (starEach es X.env)).any (·.1) = false := by rfl) :
    PE3 X B (.Call (.Name x p) (e :: es) [] pos) (dCall S dr) := by
  obtain ⟨f, fd, hm, hk, hb, F, _⟩ := F.ex
  exact e_call F hr hg hm hk hb hx ha hdb he hpl
theorem e_callP0 (F : Pr X.prog X.w X.K X.mg X.base x k ps S) (hr : Room k X.A) (hg : Gl X x) (hx : Passes CX0 X E0) (hdb : (x == ("__debug__" : Str)) = false := by decide) : PE3 X B (.Call (.Name x p) [] [] pos) (dCall S dNil) := by
  obtain ⟨f, fd, hm, hk, hb, F, _⟩ := F.ex
  exact e_call0 F hr hg hm hk hb hx hdb
end
section
variable {P : Program} {w : World} {K : PySem.W.Frag} {mg : Str → Option Value} {base : Heap}
theorem pr3 {x : Str} {st : Stmt} {N ps : List Str} {k : Nat} {S : DSp} {d : DSt} (D : Df K mg x st) (bi : Bi K x st ps) (Sc : FnScope N ps (defScope st)) (hn : ∀ ds M Q E, S ds M Q E → ds.length = ps.length)
    (hb : ∀ (f : Addr) (cdv : Value) (A : Around) (outer : List Env) (s : Shared) (H : Hp) (E : XK), Room k (A.deeper (envOfC x (defScope st) s.heap.objs.size f cdv)) → PB3 (cxOf CX0 P w K mg base N x (defScope st) f cdv A outer s H E).nox Am.no (defBody st) d)
    (hd : ∀ ds M Q E, S ds M Q E → ∀ H, Rep K H M → ∃ M1, Rep K H M1 ∧ (∀ a, M a = none → M1 a = none) ∧
      d { nx := fun _ M' => ∃ M2, Fgt K M' M2 ∧ Q .non M2, rt := fun v M' => ∃ M2, Fgt K M' M2 ∧ Q v M2 } (startD N.length ds) M1) : Pr P w K mg base x (k + 1) ps S := by
  obtain ⟨f, fd, F, hm⟩ := D.ex
  refine ⟨f, fd, hm, F.kp, F.binds bi, fun3 F Sc hn (hb f) hd, ?_⟩
  obtain ⟨oc, od, kV, doc, pm, an, cdv, ct, osl, rfl, lk, hcd⟩ := F.ex
  exact ⟨⟨oc, od, osl, lk⟩, bi kV doc pm an cdv ct⟩
theorem dn {M' M2 : Hd} {Q : Hd → Prop} (a : Sub M' M2) (b : Q M2) : ∃ M2, Fgt K M' M2 ∧ Q M2 := ⟨M2, a.fgt, b⟩
theorem hu3 {A : Around} {k : Nat} (h : Room k A) : A.units + 64 < cLine := h.units
end
/-! ### the law's end -/
theorem rep0 {K : PySem.W.Frag} {H : Hp} : Rep K H fun _ => none := fun a o e => nomatch e
/-- what the law is handed -/
def Scr (x : D) (M : Hd) (ns : List Int) : Prop := (∃ p, x = .ref p ∧ M p = some (.fz (ns.map D.int)) ∧ ∀ q, q ≠ p → M q = none) ∨ (∃ p, x = .kl p ns ∧ ∀ q, M q = none)
def SLaw : DSp := S1 fun x M Q => ∃ ns : List Int, ns.length ≤ 63 ∧ Scr x M ns ∧ ∀ M', Q (.bl true) M'
theorem law_sp {K : PySem.W.Frag} {H : Hp} {a : Addr} {ns : List Int} (hl : ns.length ≤ 63) (hO : Only H) (hS : SqL K H a (ns.map V.int)) : lift K SLaw [.ref a] H (fun v _ => v = .bl true) fun _ _ _ => False := by
  have cs : (∃ ob, H a = some (.frz ob (.lst (ns.map V.int)))) ∨ ∀ H2, SqL K H2 a (ns.map V.int) := by
    rcases hS with (h | ⟨o, h⟩) | h
    · rcases hO a with z | ⟨o, xs, z⟩
      · rw [h] at z; cases z
      · rw [h] at z; cases z
    · exact .inl ⟨o, h⟩
    · exact .inr fun H2 => .inr h
  rcases cs with ⟨ob, e⟩ | e
  · refine ⟨[.ref a], up (fun _ => none) a (.fz (ns.map D.int)), fun v _ => v = .bl true, fun _ _ _ => False, .one R.ref', ?_, ⟨_, rfl, ns, hl, .inl ⟨a, rfl, up_same, fun q hq => up_ne hq⟩, fun M' => rfl⟩, fun v H' x M' _ _ r q => ?_, fun c d H' fs M' _ _ _ z => z⟩
    · intro b o q
      by_cases hb : b = a
      · subst hb; rw [up_same] at q; cases q
        exact ⟨ob, _, e, Rs.of_ints ns⟩
      · rw [up_ne hb] at q; cases q
    · subst q; exact r.bl_
  · refine ⟨[.kl a ns], fun _ => none, fun v _ => v = .bl true, fun _ _ _ => False, .one (R.kl' e), rep0, ⟨_, rfl, ns, hl, .inr ⟨a, rfl, fun _ => rfl⟩, fun M' => rfl⟩, fun v H' x M' _ _ r q => ?_, fun c d H' fs M' _ _ _ z => z⟩
    subst q; exact r.bl_
/-- the law's walk, from its promise -/
theorem walk3 {l : PySem.W.OpenLaw} {k : Nat} {q : Program} {loose : List Str} {XP : (Str → Option Value) → Heap → Prop} {YP : World → Heap → Prop} {d : DefRec} {K : Params → PySem.W.Frag} {x : Str}
    (hn : l.most = some 63) (hdf : d.params.defaults = []) (hr : Room k callerA)
    (hY : ∀ (w : World) (h : Heap), YP w h → (K w.params).In h)
    (F : ∀ (w : World) (mg : Str → Option Value) (h : Heap), (K w.params).In h → h.Ns mainGlobals mg → ∀ base : Heap, Pr l.prog w (K w.params) mg base d.name k [x] SLaw) :
    PySem.W.WalkO q loose XP YP l.row.toRowW d [] (fun f vs => PySem.call f vs) :=
  L2.walk_of (n := 63) (k := k) (x := x) (CX := fun _ => CX0) (sp := fun w => lift (K w.params) SLaw) hn (by decide) hdf hr hY
    (fun w mg fa h KX G hmg => by
      obtain ⟨f, fd, e, _, _, _, ⟨oc, od, osl, lk⟩, hb⟩ := (F w mg h KX G default).ex
      rw [hmg] at e
      cases e
      refine ⟨fd, fun s v => .of_eq (hb [v] rfl), fun base _ _ => ?_⟩
      obtain ⟨f2, fd2, e2, _, _, F2, ⟨oc2, od2, osl2, lk2⟩, _⟩ := (F w mg h KX G base).ex
      rw [hmg] at e2
      cases e2
      rw [lk] at lk2
      cases lk2
      exact F2)
    (fun _ _ a ns hl hO hS => law_sp hl hO hS) fun _ _ _ _ _ z => z
/-- a def stands, from what K tells -/
theorem df_mk {K : PySem.W.Frag} {h : Heap} {mg : Str → Option Value} {x : Str} {st : Stmt} {f : Addr} {oc : Value} {od an : Option Addr} {osl : Array (Option Value)} {kV doc pm cdv ct : Value} (X : K.In h) (G : h.Ns mainGlobals mg)
    (a : PySem.W.nsIn K mainGlobals x = some (some (.ref f))) (l : K.lookup f = some ⟨oc, od, .func (PySem.W.fnOf x x (defArgs st) (defBody st) (defScope st) .none kV doc pm an cdv ct), osl⟩)
    (c : PySem.W.codeIn K cdv x = true) (k : PySem.W.keepIn K (.ref f) = true) : Df K mg x st := ⟨f, _, fun_mk l c k, PySem.W.mg_of X G a⟩
/-- a module's number -/
abbrev GI (mg : Str → Option Value) (x : Str) (i : Int) : Prop := ∃ u, mg x = some u ∧ RelV (.int i) u
theorem gi_mk {K : PySem.W.Frag} {h : Heap} {mg : Str → Option Value} {x : Str} {i : Int} {u : Value} (X : K.In h) (G : h.Ns mainGlobals mg) (a : PySem.W.nsIn K mainGlobals x = some (some u)) (r : RelV (.int i) u) : GI mg x i := ⟨u, PySem.W.mg_of X G a, r⟩
theorem gn_mk {K : PySem.W.Frag} {h : Heap} {mg : Str → Option Value} {x : Str} (X : K.In h) (G : h.Ns mainGlobals mg) (a : PySem.W.nsIn K mainGlobals x = some none) : mg x = none := PySem.W.mg_none_of X G a
theorem e_gintP {X : Cx} {B : Am} {x : Str} {i : Int} {pos : Pos} (h : GI X.mg x i) (hg : Gl X x) (hd : (x == ("__debug__" : Str)) = false := by decide) : PE3 X B (.Name x pos) (dC (.int i)) := by
  obtain ⟨u, hm, r⟩ := h
  exact e_gint hg hm r hd
end T3
namespace T3
open PySem PySem.Spec PyProof.Rows L2
/-! ### loops and comprehensions, read -/
theorem forN {xs : List D} (I : Nat → DS → Hd → Prop) {δ : DS} {M1 : Hd} {Z : (List D → DS → Hd → Prop) → List D → D → DS → Hd → Prop} {F : DS → Hd → Prop}
    (h0 : I 0 δ M1)
    (step : ∀ i x δ' M' pre P', xs[i]? = some x → I i δ' M' → (∀ δ M, I (i + 1) δ M → P' (pre ++ [x]) δ M) → Z P' pre x δ' M')
    (fin : ∀ δ' M', I xs.length δ' M' → F δ' M') :
    ∃ P : List D → DS → Hd → Prop, P [] δ M1 ∧ (∀ pre x post δ' M', xs = pre ++ x :: post → P pre δ' M' → Z P pre x δ' M') ∧ ∀ δ' M', P xs δ' M' → F δ' M' :=
  ⟨fun pre δ M => I pre.length δ M, h0, fun pre x post δ' M' e p => step pre.length x δ' M' pre _ (by rw [e]; simp) p fun δ M h => by rw [List.length_append]; exact h, fin⟩
theorem forL {α : Type} (f : α → D) (xs : List α) (I : List α → DS → Hd → Prop) {δ : DS} {M1 : Hd} {Z : (List D → DS → Hd → Prop) → List D → D → DS → Hd → Prop} {F : DS → Hd → Prop} {ds : List D}
    (hd : ds = xs.map f) (h0 : I [] δ M1)
    (step : ∀ l a r δ' M' pre P', xs = l ++ a :: r → I l δ' M' → (∀ δ M, I (l ++ [a]) δ M → P' (pre ++ [f a]) δ M) → Z P' pre (f a) δ' M')
    (fin : ∀ δ' M', I xs δ' M' → F δ' M') :
    ∃ P : List D → DS → Hd → Prop, P [] δ M1 ∧ (∀ pre x post δ' M', ds = pre ++ x :: post → P pre δ' M' → Z P pre x δ' M') ∧ ∀ δ' M', P ds δ' M' → F δ' M' := by
  subst hd
  refine ⟨fun pre δ M => I (xs.take pre.length) δ M, h0, fun pre x post δ' M' e p => ?_, fun δ' M' p => fin δ' M' (by simpa using p)⟩
  obtain ⟨l, r, e1, e2, e3⟩ := List.map_eq_append_iff.mp e
  obtain ⟨a, r, rfl, rfl, e5⟩ := List.map_eq_cons_iff.mp e3
  subst e1; subst e2
  have p : I l δ' M' := by simpa using p
  refine step l a r δ' M' (l.map f) _ rfl p fun δ M h => ?_
  have : (l ++ a :: r).take (l.map f ++ [f a]).length = l ++ [a] := by
    rw [List.length_append, List.length_map, List.length_singleton, List.take_length_add_append]
    simp
  rw [this]
  exact h
theorem lcN {xs : List D} (I : Nat → List D → Hd → Prop) {M1 : Hd} {Z : (List D → List D → Hd → Prop) → List D → D → List D → Hd → Prop} {F : List D → Hd → Prop}
    (h0 : I 0 [] M1)
    (step : ∀ i x acc M' pre P', xs[i]? = some x → I i acc M' → (∀ δ M, I (i + 1) δ M → P' (pre ++ [x]) δ M) → Z P' pre x acc M')
    (fin : ∀ acc M', I xs.length acc M' → F acc M') :
    ∃ P : List D → List D → Hd → Prop, P [] [] M1 ∧ (∀ pre x post acc M', xs = pre ++ x :: post → P pre acc M' → Z P pre x acc M') ∧ ∀ acc M', P xs acc M' → F acc M' :=
  ⟨fun pre δ M => I pre.length δ M, h0, fun pre x post δ' M' e p => step pre.length x δ' M' pre _ (by rw [e]; simp) p fun δ M h => by rw [List.length_append]; exact h, fin⟩
/-- what is built out of the parts alone -/
theorem lcF {α : Type} (f g : α → D) (q : α → Bool) (xs : List α) {M1 : Hd} {Z : (List D → List D → Hd → Prop) → List D → D → List D → Hd → Prop} {F : List D → Hd → Prop} {ds : List D}
    (hd : ds = xs.map f)
    (step : ∀ l a r pre acc P', xs = l ++ a :: r → (q a = true → P' (pre ++ [f a]) (acc ++ [g a]) M1) → (q a = false → P' (pre ++ [f a]) acc M1) → Z P' pre (f a) acc M1)
    (fin : F ((xs.filter q).map g) M1) :
    ∃ P : List D → List D → Hd → Prop, P [] [] M1 ∧ (∀ pre x post acc M', ds = pre ++ x :: post → P pre acc M' → Z P pre x acc M') ∧ ∀ acc M', P ds acc M' → F acc M' := by
  subst hd
  refine ⟨fun pre acc M => acc = ((xs.take pre.length).filter q).map g ∧ M = M1, ⟨rfl, rfl⟩, ?_, ?_⟩
  · rintro pre x post acc M' e ⟨rfl, rfl⟩
    obtain ⟨l, r, e1, e2, e3⟩ := List.map_eq_append_iff.mp e
    obtain ⟨a, r, rfl, rfl, e5⟩ := List.map_eq_cons_iff.mp e3
    subst e1; subst e2
    have e0 : (l ++ a :: r).take (l.map f).length = l := by simp
    have e1 : (l ++ a :: r).take (l.map f ++ [f a]).length = l ++ [a] := by
      rw [List.length_append, List.length_map, List.length_singleton, List.take_length_add_append]
      simp
    rw [e0]
    refine step l a r (l.map f) _ _ rfl (fun hq => ⟨?_, rfl⟩) (fun hq => ⟨?_, rfl⟩)
    · rw [e1, List.filter_append, List.filter_cons, if_pos hq, List.filter_nil, List.map_append]; rfl
    · rw [e1, List.filter_append, List.filter_cons, if_neg (by rw [hq]; simp), List.filter_nil, List.append_nil]
  · rintro acc M' ⟨rfl, rfl⟩
    have : xs.take (xs.map f).length = xs := by rw [List.length_map, List.take_length]
    rw [this]
    exact fin
theorem lcM {α : Type} (f g : α → D) (xs : List α) {M1 : Hd} {Z : (List D → List D → Hd → Prop) → List D → D → List D → Hd → Prop} {F : List D → Hd → Prop} {ds : List D}
    (hd : ds = xs.map f)
    (step : ∀ l a r pre acc P', xs = l ++ a :: r → P' (pre ++ [f a]) (acc ++ [g a]) M1 → Z P' pre (f a) acc M1)
    (fin : F (xs.map g) M1) :
    ∃ P : List D → List D → Hd → Prop, P [] [] M1 ∧ (∀ pre x post acc M', ds = pre ++ x :: post → P pre acc M' → Z P pre x acc M') ∧ ∀ acc M', P ds acc M' → F acc M' :=
  lcF f g (fun _ => true) xs hd (fun l a r pre acc P' e h _ => step l a r pre acc P' e (h rfl)) (by rw [List.filter_eq_self.mpr fun _ _ => rfl]; exact fin)
/-- a dict of the parts alone -/
theorem dcM {α : Type} (f : α → D) (kf : α → Key) (g : α → D) (xs : List α) {M1 : Hd} {Z : (List D → List (Key × D) → Hd → Prop) → List D → D → List (Key × D) → Hd → Prop} {F : List (Key × D) → Hd → Prop} {ds : List D}
    (hd : ds = xs.map f)
    (step : ∀ l a r pre acc P', xs = l ++ a :: r → P' (pre ++ [f a]) (putKD acc (kf a) (g a)) M1 → Z P' pre (f a) acc M1)
    (fin : F (xs.foldl (fun acc a => putKD acc (kf a) (g a)) []) M1) :
    ∃ P : List D → List (Key × D) → Hd → Prop, P [] [] M1 ∧ (∀ pre x post acc M', ds = pre ++ x :: post → P pre acc M' → Z P pre x acc M') ∧ ∀ acc M', P ds acc M' → F acc M' := by
  subst hd
  refine ⟨fun pre acc M => acc = (xs.take pre.length).foldl (fun acc a => putKD acc (kf a) (g a)) [] ∧ M = M1, ⟨rfl, rfl⟩, ?_, ?_⟩
  · rintro pre x post acc M' e ⟨rfl, rfl⟩
    obtain ⟨l, r, e1, e2, e3⟩ := List.map_eq_append_iff.mp e
    obtain ⟨a, r, rfl, rfl, e5⟩ := List.map_eq_cons_iff.mp e3
    subst e1; subst e2
    have e0 : (l ++ a :: r).take (l.map f).length = l := by simp
    have e1 : (l ++ a :: r).take (l.map f ++ [f a]).length = l ++ [a] := by
      rw [List.length_append, List.length_map, List.length_singleton, List.take_length_add_append]
      simp
    rw [e0]
    refine step l a r (l.map f) _ _ rfl ⟨?_, rfl⟩
    rw [e1, List.foldl_append]; rfl
  · rintro acc M' ⟨rfl, rfl⟩
    have : xs.take (xs.map f).length = xs := by rw [List.length_map, List.take_length]
    rw [this]
    exact fin
theorem dFor_g {di : DI} {g : Tg} {tb : DSt} {En : DEnds} {δ : DS} {M : Hd} (h : ∀ (F : DS → Hd → Prop) (T : DSt), (∀ δ M, F δ M ↔ En.nx δ M) → T = tb → dFor di g T { En with nx := F } δ M) : dFor di g tb En δ M := h En.nx tb (fun _ _ => Iff.rfl) rfl
theorem dWhile_g {c : DT} {tb : DSt} {En : DEnds} {δ : DS} {M : Hd} (h : ∀ (F : DS → Hd → Prop) (C : DT) (T : DSt), (∀ δ M, F δ M ↔ En.nx δ M) → C = c → T = tb → dWhile C T { En with nx := F } δ M) : dWhile c tb En δ M := h En.nx c tb (fun _ _ => Iff.rfl) rfl rfl
theorem dLc_g {di : DI} {g : Tg} {dt : DT} {de : DE} {vs : List Nat} {δ : DS} {M : Hd} {Q : DK} (h : ∀ (F : DK) (T : DT) (U : DE), (∀ x M, F x M ↔ Q x M) → T = dt → U = de → dLc di g T U vs δ M F) : dLc di g dt de vs δ M Q := h Q dt de (fun _ _ => Iff.rfl) rfl rfl
theorem dDc_g {di : DI} {g : Tg} {dt : DT} {dk dv : DE} {vs : List Nat} {δ : DS} {M : Hd} {Q : DK} (h : ∀ (F : DK) (T : DT) (U V : DE), (∀ x M, F x M ↔ Q x M) → T = dt → U = dk → V = dv → dDc di g T U V vs δ M F) : dDc di g dt dk dv vs δ M Q := h Q dt dk dv (fun _ _ => Iff.rfl) rfl rfl rfl
theorem LS_up {M : Hd} {p : Addr} {l xs : List D} : LS (up M p (.lst l)) p xs ↔ xs = l := by
  unfold LS
  rw [up_same]
  simp [eq_comm]
theorem ls_lst {M : Hd} {p : Addr} {l xs : List D} (h : M p = some (.lst l)) : LS M p xs ↔ xs = l := by
  unfold LS
  rw [h]
  simp [eq_comm]
theorem ls_fz {M : Hd} {p : Addr} {l xs : List D} (h : M p = some (.fz l)) : LS M p xs ↔ xs = l := by
  unfold LS
  rw [h]
  simp [eq_comm]
/-! ### isinstance, reckoned -/
theorem mt_int : "int" ∈ ["int", "bool", "str", "tuple", "list", "dict"] := by decide
theorem st_int_int : subT "int" "int" = true := by decide
theorem st_bool_int : subT "bool" "int" = true := by decide
theorem st_str_int : subT "str" "int" = false := by decide
theorem st_tuple_int : subT "tuple" "int" = false := by decide
theorem st_list_int : subT "list" "int" = false := by decide
theorem st_dict_int : subT "dict" "int" = false := by decide
theorem mt_bool : "bool" ∈ ["int", "bool", "str", "tuple", "list", "dict"] := by decide
theorem st_int_bool : subT "int" "bool" = false := by decide
theorem st_bool_bool : subT "bool" "bool" = true := by decide
theorem st_str_bool : subT "str" "bool" = false := by decide
theorem st_tuple_bool : subT "tuple" "bool" = false := by decide
theorem st_list_bool : subT "list" "bool" = false := by decide
theorem st_dict_bool : subT "dict" "bool" = false := by decide
theorem mt_str : "str" ∈ ["int", "bool", "str", "tuple", "list", "dict"] := by decide
theorem st_int_str : subT "int" "str" = false := by decide
theorem st_bool_str : subT "bool" "str" = false := by decide
theorem st_str_str : subT "str" "str" = true := by decide
theorem st_tuple_str : subT "tuple" "str" = false := by decide
theorem st_list_str : subT "list" "str" = false := by decide
theorem st_dict_str : subT "dict" "str" = false := by decide
theorem mt_tuple : "tuple" ∈ ["int", "bool", "str", "tuple", "list", "dict"] := by decide
theorem st_int_tuple : subT "int" "tuple" = false := by decide
theorem st_bool_tuple : subT "bool" "tuple" = false := by decide
theorem st_str_tuple : subT "str" "tuple" = false := by decide
theorem st_tuple_tuple : subT "tuple" "tuple" = true := by decide
theorem st_list_tuple : subT "list" "tuple" = false := by decide
theorem st_dict_tuple : subT "dict" "tuple" = false := by decide
theorem mt_list : "list" ∈ ["int", "bool", "str", "tuple", "list", "dict"] := by decide
theorem st_int_list : subT "int" "list" = false := by decide
theorem st_bool_list : subT "bool" "list" = false := by decide
theorem st_str_list : subT "str" "list" = false := by decide
theorem st_tuple_list : subT "tuple" "list" = false := by decide
theorem st_list_list : subT "list" "list" = true := by decide
theorem st_dict_list : subT "dict" "list" = false := by decide
theorem mt_dict : "dict" ∈ ["int", "bool", "str", "tuple", "list", "dict"] := by decide
theorem st_int_dict : subT "int" "dict" = false := by decide
theorem st_bool_dict : subT "bool" "dict" = false := by decide
theorem st_str_dict : subT "str" "dict" = false := by decide
theorem st_tuple_dict : subT "tuple" "dict" = false := by decide
theorem st_list_dict : subT "list" "dict" = false := by decide
theorem st_dict_dict : subT "dict" "dict" = true := by decide
theorem up_comm {M : Hd} {a b : Addr} {o u : O} (h : a ≠ b) : up (up M a o) b u = up (up M b u) a o := by
  funext c
  unfold up
  by_cases h1 : c = b
  · subst h1
    have : ¬ c = a := fun z => h z.symm
    simp [this]
  · simp [h1]
/-! ### the slots, looked up at once -/
theorem dVar0 {a : D} {δ : DS} {M : Hd} {Q : DK} : dVar 0 (some a :: δ) M Q ↔ Q a M := ⟨fun ⟨_, e, h⟩ => by cases e; exact h, fun h => ⟨a, rfl, h⟩⟩
theorem dAug0 {a : D} {δ : DS} {M : Hd} {de : DE} {rd : DR2} {En : DEnds} : dAug 0 de rd En (some a :: δ) M ↔ de (some a :: δ) M fun y M1 => rd a y M1 fun z M2 => En.nx (some z :: δ) M2 := ⟨fun ⟨_, e, h⟩ => by cases e; exact h, fun h => ⟨a, rfl, h⟩⟩
theorem dSet0 {y : Option D} {δ : DS} {M : Hd} {de : DE} {En : DEnds} : dSet 0 de En (y :: δ) M ↔ de (y :: δ) M fun z M1 => En.nx (some z :: δ) M1 := Iff.rfl
theorem dTgN0 {y : Option D} {z : D} {δ : DS} {Q : DS → Prop} : dTg (.nm 0) z (y :: δ) Q ↔ Q (some z :: δ) := Iff.rfl
theorem dTgW0 {y : Option D} {z : D} {δ : DS} {Q : DS → Prop} : dTg (.nm 0) z (wipeD (y :: δ) [0]) Q ↔ Q (some z :: δ) := Iff.rfl
theorem dVar1 {x0 : Option D} {a : D} {δ : DS} {M : Hd} {Q : DK} : dVar 1 (x0 :: some a :: δ) M Q ↔ Q a M := ⟨fun ⟨_, e, h⟩ => by cases e; exact h, fun h => ⟨a, rfl, h⟩⟩
theorem dAug1 {x0 : Option D} {a : D} {δ : DS} {M : Hd} {de : DE} {rd : DR2} {En : DEnds} : dAug 1 de rd En (x0 :: some a :: δ) M ↔ de (x0 :: some a :: δ) M fun y M1 => rd a y M1 fun z M2 => En.nx (x0 :: some z :: δ) M2 := ⟨fun ⟨_, e, h⟩ => by cases e; exact h, fun h => ⟨a, rfl, h⟩⟩
theorem dSet1 {x0 : Option D} {y : Option D} {δ : DS} {M : Hd} {de : DE} {En : DEnds} : dSet 1 de En (x0 :: y :: δ) M ↔ de (x0 :: y :: δ) M fun z M1 => En.nx (x0 :: some z :: δ) M1 := Iff.rfl
theorem dTgN1 {x0 : Option D} {y : Option D} {z : D} {δ : DS} {Q : DS → Prop} : dTg (.nm 1) z (x0 :: y :: δ) Q ↔ Q (x0 :: some z :: δ) := Iff.rfl
theorem dTgW1 {x0 : Option D} {y : Option D} {z : D} {δ : DS} {Q : DS → Prop} : dTg (.nm 1) z (wipeD (x0 :: y :: δ) [1]) Q ↔ Q (x0 :: some z :: δ) := Iff.rfl
theorem dVar2 {x0 x1 : Option D} {a : D} {δ : DS} {M : Hd} {Q : DK} : dVar 2 (x0 :: x1 :: some a :: δ) M Q ↔ Q a M := ⟨fun ⟨_, e, h⟩ => by cases e; exact h, fun h => ⟨a, rfl, h⟩⟩
theorem dAug2 {x0 x1 : Option D} {a : D} {δ : DS} {M : Hd} {de : DE} {rd : DR2} {En : DEnds} : dAug 2 de rd En (x0 :: x1 :: some a :: δ) M ↔ de (x0 :: x1 :: some a :: δ) M fun y M1 => rd a y M1 fun z M2 => En.nx (x0 :: x1 :: some z :: δ) M2 := ⟨fun ⟨_, e, h⟩ => by cases e; exact h, fun h => ⟨a, rfl, h⟩⟩
theorem dSet2 {x0 x1 : Option D} {y : Option D} {δ : DS} {M : Hd} {de : DE} {En : DEnds} : dSet 2 de En (x0 :: x1 :: y :: δ) M ↔ de (x0 :: x1 :: y :: δ) M fun z M1 => En.nx (x0 :: x1 :: some z :: δ) M1 := Iff.rfl
theorem dTgN2 {x0 x1 : Option D} {y : Option D} {z : D} {δ : DS} {Q : DS → Prop} : dTg (.nm 2) z (x0 :: x1 :: y :: δ) Q ↔ Q (x0 :: x1 :: some z :: δ) := Iff.rfl
theorem dTgW2 {x0 x1 : Option D} {y : Option D} {z : D} {δ : DS} {Q : DS → Prop} : dTg (.nm 2) z (wipeD (x0 :: x1 :: y :: δ) [2]) Q ↔ Q (x0 :: x1 :: some z :: δ) := Iff.rfl
theorem dVar3 {x0 x1 x2 : Option D} {a : D} {δ : DS} {M : Hd} {Q : DK} : dVar 3 (x0 :: x1 :: x2 :: some a :: δ) M Q ↔ Q a M := ⟨fun ⟨_, e, h⟩ => by cases e; exact h, fun h => ⟨a, rfl, h⟩⟩
theorem dAug3 {x0 x1 x2 : Option D} {a : D} {δ : DS} {M : Hd} {de : DE} {rd : DR2} {En : DEnds} : dAug 3 de rd En (x0 :: x1 :: x2 :: some a :: δ) M ↔ de (x0 :: x1 :: x2 :: some a :: δ) M fun y M1 => rd a y M1 fun z M2 => En.nx (x0 :: x1 :: x2 :: some z :: δ) M2 := ⟨fun ⟨_, e, h⟩ => by cases e; exact h, fun h => ⟨a, rfl, h⟩⟩
theorem dSet3 {x0 x1 x2 : Option D} {y : Option D} {δ : DS} {M : Hd} {de : DE} {En : DEnds} : dSet 3 de En (x0 :: x1 :: x2 :: y :: δ) M ↔ de (x0 :: x1 :: x2 :: y :: δ) M fun z M1 => En.nx (x0 :: x1 :: x2 :: some z :: δ) M1 := Iff.rfl
theorem dTgN3 {x0 x1 x2 : Option D} {y : Option D} {z : D} {δ : DS} {Q : DS → Prop} : dTg (.nm 3) z (x0 :: x1 :: x2 :: y :: δ) Q ↔ Q (x0 :: x1 :: x2 :: some z :: δ) := Iff.rfl
theorem dTgW3 {x0 x1 x2 : Option D} {y : Option D} {z : D} {δ : DS} {Q : DS → Prop} : dTg (.nm 3) z (wipeD (x0 :: x1 :: x2 :: y :: δ) [3]) Q ↔ Q (x0 :: x1 :: x2 :: some z :: δ) := Iff.rfl
theorem dVar4 {x0 x1 x2 x3 : Option D} {a : D} {δ : DS} {M : Hd} {Q : DK} : dVar 4 (x0 :: x1 :: x2 :: x3 :: some a :: δ) M Q ↔ Q a M := ⟨fun ⟨_, e, h⟩ => by cases e; exact h, fun h => ⟨a, rfl, h⟩⟩
theorem dAug4 {x0 x1 x2 x3 : Option D} {a : D} {δ : DS} {M : Hd} {de : DE} {rd : DR2} {En : DEnds} : dAug 4 de rd En (x0 :: x1 :: x2 :: x3 :: some a :: δ) M ↔ de (x0 :: x1 :: x2 :: x3 :: some a :: δ) M fun y M1 => rd a y M1 fun z M2 => En.nx (x0 :: x1 :: x2 :: x3 :: some z :: δ) M2 := ⟨fun ⟨_, e, h⟩ => by cases e; exact h, fun h => ⟨a, rfl, h⟩⟩
theorem dSet4 {x0 x1 x2 x3 : Option D} {y : Option D} {δ : DS} {M : Hd} {de : DE} {En : DEnds} : dSet 4 de En (x0 :: x1 :: x2 :: x3 :: y :: δ) M ↔ de (x0 :: x1 :: x2 :: x3 :: y :: δ) M fun z M1 => En.nx (x0 :: x1 :: x2 :: x3 :: some z :: δ) M1 := Iff.rfl
theorem dTgN4 {x0 x1 x2 x3 : Option D} {y : Option D} {z : D} {δ : DS} {Q : DS → Prop} : dTg (.nm 4) z (x0 :: x1 :: x2 :: x3 :: y :: δ) Q ↔ Q (x0 :: x1 :: x2 :: x3 :: some z :: δ) := Iff.rfl
theorem dTgW4 {x0 x1 x2 x3 : Option D} {y : Option D} {z : D} {δ : DS} {Q : DS → Prop} : dTg (.nm 4) z (wipeD (x0 :: x1 :: x2 :: x3 :: y :: δ) [4]) Q ↔ Q (x0 :: x1 :: x2 :: x3 :: some z :: δ) := Iff.rfl
theorem dVar5 {x0 x1 x2 x3 x4 : Option D} {a : D} {δ : DS} {M : Hd} {Q : DK} : dVar 5 (x0 :: x1 :: x2 :: x3 :: x4 :: some a :: δ) M Q ↔ Q a M := ⟨fun ⟨_, e, h⟩ => by cases e; exact h, fun h => ⟨a, rfl, h⟩⟩
theorem dAug5 {x0 x1 x2 x3 x4 : Option D} {a : D} {δ : DS} {M : Hd} {de : DE} {rd : DR2} {En : DEnds} : dAug 5 de rd En (x0 :: x1 :: x2 :: x3 :: x4 :: some a :: δ) M ↔ de (x0 :: x1 :: x2 :: x3 :: x4 :: some a :: δ) M fun y M1 => rd a y M1 fun z M2 => En.nx (x0 :: x1 :: x2 :: x3 :: x4 :: some z :: δ) M2 := ⟨fun ⟨_, e, h⟩ => by cases e; exact h, fun h => ⟨a, rfl, h⟩⟩
theorem dSet5 {x0 x1 x2 x3 x4 : Option D} {y : Option D} {δ : DS} {M : Hd} {de : DE} {En : DEnds} : dSet 5 de En (x0 :: x1 :: x2 :: x3 :: x4 :: y :: δ) M ↔ de (x0 :: x1 :: x2 :: x3 :: x4 :: y :: δ) M fun z M1 => En.nx (x0 :: x1 :: x2 :: x3 :: x4 :: some z :: δ) M1 := Iff.rfl
theorem dTgN5 {x0 x1 x2 x3 x4 : Option D} {y : Option D} {z : D} {δ : DS} {Q : DS → Prop} : dTg (.nm 5) z (x0 :: x1 :: x2 :: x3 :: x4 :: y :: δ) Q ↔ Q (x0 :: x1 :: x2 :: x3 :: x4 :: some z :: δ) := Iff.rfl
theorem dTgW5 {x0 x1 x2 x3 x4 : Option D} {y : Option D} {z : D} {δ : DS} {Q : DS → Prop} : dTg (.nm 5) z (wipeD (x0 :: x1 :: x2 :: x3 :: x4 :: y :: δ) [5]) Q ↔ Q (x0 :: x1 :: x2 :: x3 :: x4 :: some z :: δ) := Iff.rfl
theorem dVar6 {x0 x1 x2 x3 x4 x5 : Option D} {a : D} {δ : DS} {M : Hd} {Q : DK} : dVar 6 (x0 :: x1 :: x2 :: x3 :: x4 :: x5 :: some a :: δ) M Q ↔ Q a M := ⟨fun ⟨_, e, h⟩ => by cases e; exact h, fun h => ⟨a, rfl, h⟩⟩
theorem dAug6 {x0 x1 x2 x3 x4 x5 : Option D} {a : D} {δ : DS} {M : Hd} {de : DE} {rd : DR2} {En : DEnds} : dAug 6 de rd En (x0 :: x1 :: x2 :: x3 :: x4 :: x5 :: some a :: δ) M ↔ de (x0 :: x1 :: x2 :: x3 :: x4 :: x5 :: some a :: δ) M fun y M1 => rd a y M1 fun z M2 => En.nx (x0 :: x1 :: x2 :: x3 :: x4 :: x5 :: some z :: δ) M2 := ⟨fun ⟨_, e, h⟩ => by cases e; exact h, fun h => ⟨a, rfl, h⟩⟩
theorem dSet6 {x0 x1 x2 x3 x4 x5 : Option D} {y : Option D} {δ : DS} {M : Hd} {de : DE} {En : DEnds} : dSet 6 de En (x0 :: x1 :: x2 :: x3 :: x4 :: x5 :: y :: δ) M ↔ de (x0 :: x1 :: x2 :: x3 :: x4 :: x5 :: y :: δ) M fun z M1 => En.nx (x0 :: x1 :: x2 :: x3 :: x4 :: x5 :: some z :: δ) M1 := Iff.rfl
theorem dTgN6 {x0 x1 x2 x3 x4 x5 : Option D} {y : Option D} {z : D} {δ : DS} {Q : DS → Prop} : dTg (.nm 6) z (x0 :: x1 :: x2 :: x3 :: x4 :: x5 :: y :: δ) Q ↔ Q (x0 :: x1 :: x2 :: x3 :: x4 :: x5 :: some z :: δ) := Iff.rfl
theorem dTgW6 {x0 x1 x2 x3 x4 x5 : Option D} {y : Option D} {z : D} {δ : DS} {Q : DS → Prop} : dTg (.nm 6) z (wipeD (x0 :: x1 :: x2 :: x3 :: x4 :: x5 :: y :: δ) [6]) Q ↔ Q (x0 :: x1 :: x2 :: x3 :: x4 :: x5 :: some z :: δ) := Iff.rfl
theorem dVar7 {x0 x1 x2 x3 x4 x5 x6 : Option D} {a : D} {δ : DS} {M : Hd} {Q : DK} : dVar 7 (x0 :: x1 :: x2 :: x3 :: x4 :: x5 :: x6 :: some a :: δ) M Q ↔ Q a M := ⟨fun ⟨_, e, h⟩ => by cases e; exact h, fun h => ⟨a, rfl, h⟩⟩
theorem dAug7 {x0 x1 x2 x3 x4 x5 x6 : Option D} {a : D} {δ : DS} {M : Hd} {de : DE} {rd : DR2} {En : DEnds} : dAug 7 de rd En (x0 :: x1 :: x2 :: x3 :: x4 :: x5 :: x6 :: some a :: δ) M ↔ de (x0 :: x1 :: x2 :: x3 :: x4 :: x5 :: x6 :: some a :: δ) M fun y M1 => rd a y M1 fun z M2 => En.nx (x0 :: x1 :: x2 :: x3 :: x4 :: x5 :: x6 :: some z :: δ) M2 := ⟨fun ⟨_, e, h⟩ => by cases e; exact h, fun h => ⟨a, rfl, h⟩⟩
theorem dSet7 {x0 x1 x2 x3 x4 x5 x6 : Option D} {y : Option D} {δ : DS} {M : Hd} {de : DE} {En : DEnds} : dSet 7 de En (x0 :: x1 :: x2 :: x3 :: x4 :: x5 :: x6 :: y :: δ) M ↔ de (x0 :: x1 :: x2 :: x3 :: x4 :: x5 :: x6 :: y :: δ) M fun z M1 => En.nx (x0 :: x1 :: x2 :: x3 :: x4 :: x5 :: x6 :: some z :: δ) M1 := Iff.rfl
theorem dTgN7 {x0 x1 x2 x3 x4 x5 x6 : Option D} {y : Option D} {z : D} {δ : DS} {Q : DS → Prop} : dTg (.nm 7) z (x0 :: x1 :: x2 :: x3 :: x4 :: x5 :: x6 :: y :: δ) Q ↔ Q (x0 :: x1 :: x2 :: x3 :: x4 :: x5 :: x6 :: some z :: δ) := Iff.rfl
theorem dTgW7 {x0 x1 x2 x3 x4 x5 x6 : Option D} {y : Option D} {z : D} {δ : DS} {Q : DS → Prop} : dTg (.nm 7) z (wipeD (x0 :: x1 :: x2 :: x3 :: x4 :: x5 :: x6 :: y :: δ) [7]) Q ↔ Q (x0 :: x1 :: x2 :: x3 :: x4 :: x5 :: x6 :: some z :: δ) := Iff.rfl
theorem dVar8 {x0 x1 x2 x3 x4 x5 x6 x7 : Option D} {a : D} {δ : DS} {M : Hd} {Q : DK} : dVar 8 (x0 :: x1 :: x2 :: x3 :: x4 :: x5 :: x6 :: x7 :: some a :: δ) M Q ↔ Q a M := ⟨fun ⟨_, e, h⟩ => by cases e; exact h, fun h => ⟨a, rfl, h⟩⟩
theorem dAug8 {x0 x1 x2 x3 x4 x5 x6 x7 : Option D} {a : D} {δ : DS} {M : Hd} {de : DE} {rd : DR2} {En : DEnds} : dAug 8 de rd En (x0 :: x1 :: x2 :: x3 :: x4 :: x5 :: x6 :: x7 :: some a :: δ) M ↔ de (x0 :: x1 :: x2 :: x3 :: x4 :: x5 :: x6 :: x7 :: some a :: δ) M fun y M1 => rd a y M1 fun z M2 => En.nx (x0 :: x1 :: x2 :: x3 :: x4 :: x5 :: x6 :: x7 :: some z :: δ) M2 := ⟨fun ⟨_, e, h⟩ => by cases e; exact h, fun h => ⟨a, rfl, h⟩⟩
theorem dSet8 {x0 x1 x2 x3 x4 x5 x6 x7 : Option D} {y : Option D} {δ : DS} {M : Hd} {de : DE} {En : DEnds} : dSet 8 de En (x0 :: x1 :: x2 :: x3 :: x4 :: x5 :: x6 :: x7 :: y :: δ) M ↔ de (x0 :: x1 :: x2 :: x3 :: x4 :: x5 :: x6 :: x7 :: y :: δ) M fun z M1 => En.nx (x0 :: x1 :: x2 :: x3 :: x4 :: x5 :: x6 :: x7 :: some z :: δ) M1 := Iff.rfl
theorem dTgN8 {x0 x1 x2 x3 x4 x5 x6 x7 : Option D} {y : Option D} {z : D} {δ : DS} {Q : DS → Prop} : dTg (.nm 8) z (x0 :: x1 :: x2 :: x3 :: x4 :: x5 :: x6 :: x7 :: y :: δ) Q ↔ Q (x0 :: x1 :: x2 :: x3 :: x4 :: x5 :: x6 :: x7 :: some z :: δ) := Iff.rfl
theorem dTgW8 {x0 x1 x2 x3 x4 x5 x6 x7 : Option D} {y : Option D} {z : D} {δ : DS} {Q : DS → Prop} : dTg (.nm 8) z (wipeD (x0 :: x1 :: x2 :: x3 :: x4 :: x5 :: x6 :: x7 :: y :: δ) [8]) Q ↔ Q (x0 :: x1 :: x2 :: x3 :: x4 :: x5 :: x6 :: x7 :: some z :: δ) := Iff.rfl
theorem dVar9 {x0 x1 x2 x3 x4 x5 x6 x7 x8 : Option D} {a : D} {δ : DS} {M : Hd} {Q : DK} : dVar 9 (x0 :: x1 :: x2 :: x3 :: x4 :: x5 :: x6 :: x7 :: x8 :: some a :: δ) M Q ↔ Q a M := ⟨fun ⟨_, e, h⟩ => by cases e; exact h, fun h => ⟨a, rfl, h⟩⟩
theorem dAug9 {x0 x1 x2 x3 x4 x5 x6 x7 x8 : Option D} {a : D} {δ : DS} {M : Hd} {de : DE} {rd : DR2} {En : DEnds} : dAug 9 de rd En (x0 :: x1 :: x2 :: x3 :: x4 :: x5 :: x6 :: x7 :: x8 :: some a :: δ) M ↔ de (x0 :: x1 :: x2 :: x3 :: x4 :: x5 :: x6 :: x7 :: x8 :: some a :: δ) M fun y M1 => rd a y M1 fun z M2 => En.nx (x0 :: x1 :: x2 :: x3 :: x4 :: x5 :: x6 :: x7 :: x8 :: some z :: δ) M2 := ⟨fun ⟨_, e, h⟩ => by cases e; exact h, fun h => ⟨a, rfl, h⟩⟩
theorem dSet9 {x0 x1 x2 x3 x4 x5 x6 x7 x8 : Option D} {y : Option D} {δ : DS} {M : Hd} {de : DE} {En : DEnds} : dSet 9 de En (x0 :: x1 :: x2 :: x3 :: x4 :: x5 :: x6 :: x7 :: x8 :: y :: δ) M ↔ de (x0 :: x1 :: x2 :: x3 :: x4 :: x5 :: x6 :: x7 :: x8 :: y :: δ) M fun z M1 => En.nx (x0 :: x1 :: x2 :: x3 :: x4 :: x5 :: x6 :: x7 :: x8 :: some z :: δ) M1 := Iff.rfl
theorem dTgN9 {x0 x1 x2 x3 x4 x5 x6 x7 x8 : Option D} {y : Option D} {z : D} {δ : DS} {Q : DS → Prop} : dTg (.nm 9) z (x0 :: x1 :: x2 :: x3 :: x4 :: x5 :: x6 :: x7 :: x8 :: y :: δ) Q ↔ Q (x0 :: x1 :: x2 :: x3 :: x4 :: x5 :: x6 :: x7 :: x8 :: some z :: δ) := Iff.rfl
theorem dTgW9 {x0 x1 x2 x3 x4 x5 x6 x7 x8 : Option D} {y : Option D} {z : D} {δ : DS} {Q : DS → Prop} : dTg (.nm 9) z (wipeD (x0 :: x1 :: x2 :: x3 :: x4 :: x5 :: x6 :: x7 :: x8 :: y :: δ) [9]) Q ↔ Q (x0 :: x1 :: x2 :: x3 :: x4 :: x5 :: x6 :: x7 :: x8 :: some z :: δ) := Iff.rfl
theorem dVar10 {x0 x1 x2 x3 x4 x5 x6 x7 x8 x9 : Option D} {a : D} {δ : DS} {M : Hd} {Q : DK} : dVar 10 (x0 :: x1 :: x2 :: x3 :: x4 :: x5 :: x6 :: x7 :: x8 :: x9 :: some a :: δ) M Q ↔ Q a M := ⟨fun ⟨_, e, h⟩ => by cases e; exact h, fun h => ⟨a, rfl, h⟩⟩
theorem dAug10 {x0 x1 x2 x3 x4 x5 x6 x7 x8 x9 : Option D} {a : D} {δ : DS} {M : Hd} {de : DE} {rd : DR2} {En : DEnds} : dAug 10 de rd En (x0 :: x1 :: x2 :: x3 :: x4 :: x5 :: x6 :: x7 :: x8 :: x9 :: some a :: δ) M ↔ de (x0 :: x1 :: x2 :: x3 :: x4 :: x5 :: x6 :: x7 :: x8 :: x9 :: some a :: δ) M fun y M1 => rd a y M1 fun z M2 => En.nx (x0 :: x1 :: x2 :: x3 :: x4 :: x5 :: x6 :: x7 :: x8 :: x9 :: some z :: δ) M2 := ⟨fun ⟨_, e, h⟩ => by cases e; exact h, fun h => ⟨a, rfl, h⟩⟩
theorem dSet10 {x0 x1 x2 x3 x4 x5 x6 x7 x8 x9 : Option D} {y : Option D} {δ : DS} {M : Hd} {de : DE} {En : DEnds} : dSet 10 de En (x0 :: x1 :: x2 :: x3 :: x4 :: x5 :: x6 :: x7 :: x8 :: x9 :: y :: δ) M ↔ de (x0 :: x1 :: x2 :: x3 :: x4 :: x5 :: x6 :: x7 :: x8 :: x9 :: y :: δ) M fun z M1 => En.nx (x0 :: x1 :: x2 :: x3 :: x4 :: x5 :: x6 :: x7 :: x8 :: x9 :: some z :: δ) M1 := Iff.rfl
theorem dTgN10 {x0 x1 x2 x3 x4 x5 x6 x7 x8 x9 : Option D} {y : Option D} {z : D} {δ : DS} {Q : DS → Prop} : dTg (.nm 10) z (x0 :: x1 :: x2 :: x3 :: x4 :: x5 :: x6 :: x7 :: x8 :: x9 :: y :: δ) Q ↔ Q (x0 :: x1 :: x2 :: x3 :: x4 :: x5 :: x6 :: x7 :: x8 :: x9 :: some z :: δ) := Iff.rfl
theorem dTgW10 {x0 x1 x2 x3 x4 x5 x6 x7 x8 x9 : Option D} {y : Option D} {z : D} {δ : DS} {Q : DS → Prop} : dTg (.nm 10) z (wipeD (x0 :: x1 :: x2 :: x3 :: x4 :: x5 :: x6 :: x7 :: x8 :: x9 :: y :: δ) [10]) Q ↔ Q (x0 :: x1 :: x2 :: x3 :: x4 :: x5 :: x6 :: x7 :: x8 :: x9 :: some z :: δ) := Iff.rfl
theorem dVar11 {x0 x1 x2 x3 x4 x5 x6 x7 x8 x9 x10 : Option D} {a : D} {δ : DS} {M : Hd} {Q : DK} : dVar 11 (x0 :: x1 :: x2 :: x3 :: x4 :: x5 :: x6 :: x7 :: x8 :: x9 :: x10 :: some a :: δ) M Q ↔ Q a M := ⟨fun ⟨_, e, h⟩ => by cases e; exact h, fun h => ⟨a, rfl, h⟩⟩
theorem dAug11 {x0 x1 x2 x3 x4 x5 x6 x7 x8 x9 x10 : Option D} {a : D} {δ : DS} {M : Hd} {de : DE} {rd : DR2} {En : DEnds} : dAug 11 de rd En (x0 :: x1 :: x2 :: x3 :: x4 :: x5 :: x6 :: x7 :: x8 :: x9 :: x10 :: some a :: δ) M ↔ de (x0 :: x1 :: x2 :: x3 :: x4 :: x5 :: x6 :: x7 :: x8 :: x9 :: x10 :: some a :: δ) M fun y M1 => rd a y M1 fun z M2 => En.nx (x0 :: x1 :: x2 :: x3 :: x4 :: x5 :: x6 :: x7 :: x8 :: x9 :: x10 :: some z :: δ) M2 := ⟨fun ⟨_, e, h⟩ => by cases e; exact h, fun h => ⟨a, rfl, h⟩⟩
theorem dSet11 {x0 x1 x2 x3 x4 x5 x6 x7 x8 x9 x10 : Option D} {y : Option D} {δ : DS} {M : Hd} {de : DE} {En : DEnds} : dSet 11 de En (x0 :: x1 :: x2 :: x3 :: x4 :: x5 :: x6 :: x7 :: x8 :: x9 :: x10 :: y :: δ) M ↔ de (x0 :: x1 :: x2 :: x3 :: x4 :: x5 :: x6 :: x7 :: x8 :: x9 :: x10 :: y :: δ) M fun z M1 => En.nx (x0 :: x1 :: x2 :: x3 :: x4 :: x5 :: x6 :: x7 :: x8 :: x9 :: x10 :: some z :: δ) M1 := Iff.rfl
theorem dTgN11 {x0 x1 x2 x3 x4 x5 x6 x7 x8 x9 x10 : Option D} {y : Option D} {z : D} {δ : DS} {Q : DS → Prop} : dTg (.nm 11) z (x0 :: x1 :: x2 :: x3 :: x4 :: x5 :: x6 :: x7 :: x8 :: x9 :: x10 :: y :: δ) Q ↔ Q (x0 :: x1 :: x2 :: x3 :: x4 :: x5 :: x6 :: x7 :: x8 :: x9 :: x10 :: some z :: δ) := Iff.rfl
theorem dTgW11 {x0 x1 x2 x3 x4 x5 x6 x7 x8 x9 x10 : Option D} {y : Option D} {z : D} {δ : DS} {Q : DS → Prop} : dTg (.nm 11) z (wipeD (x0 :: x1 :: x2 :: x3 :: x4 :: x5 :: x6 :: x7 :: x8 :: x9 :: x10 :: y :: δ) [11]) Q ↔ Q (x0 :: x1 :: x2 :: x3 :: x4 :: x5 :: x6 :: x7 :: x8 :: x9 :: x10 :: some z :: δ) := Iff.rfl
theorem dVar12 {x0 x1 x2 x3 x4 x5 x6 x7 x8 x9 x10 x11 : Option D} {a : D} {δ : DS} {M : Hd} {Q : DK} : dVar 12 (x0 :: x1 :: x2 :: x3 :: x4 :: x5 :: x6 :: x7 :: x8 :: x9 :: x10 :: x11 :: some a :: δ) M Q ↔ Q a M := ⟨fun ⟨_, e, h⟩ => by cases e; exact h, fun h => ⟨a, rfl, h⟩⟩
theorem dAug12 {x0 x1 x2 x3 x4 x5 x6 x7 x8 x9 x10 x11 : Option D} {a : D} {δ : DS} {M : Hd} {de : DE} {rd : DR2} {En : DEnds} : dAug 12 de rd En (x0 :: x1 :: x2 :: x3 :: x4 :: x5 :: x6 :: x7 :: x8 :: x9 :: x10 :: x11 :: some a :: δ) M ↔ de (x0 :: x1 :: x2 :: x3 :: x4 :: x5 :: x6 :: x7 :: x8 :: x9 :: x10 :: x11 :: some a :: δ) M fun y M1 => rd a y M1 fun z M2 => En.nx (x0 :: x1 :: x2 :: x3 :: x4 :: x5 :: x6 :: x7 :: x8 :: x9 :: x10 :: x11 :: some z :: δ) M2 := ⟨fun ⟨_, e, h⟩ => by cases e; exact h, fun h => ⟨a, rfl, h⟩⟩
theorem dSet12 {x0 x1 x2 x3 x4 x5 x6 x7 x8 x9 x10 x11 : Option D} {y : Option D} {δ : DS} {M : Hd} {de : DE} {En : DEnds} : dSet 12 de En (x0 :: x1 :: x2 :: x3 :: x4 :: x5 :: x6 :: x7 :: x8 :: x9 :: x10 :: x11 :: y :: δ) M ↔ de (x0 :: x1 :: x2 :: x3 :: x4 :: x5 :: x6 :: x7 :: x8 :: x9 :: x10 :: x11 :: y :: δ) M fun z M1 => En.nx (x0 :: x1 :: x2 :: x3 :: x4 :: x5 :: x6 :: x7 :: x8 :: x9 :: x10 :: x11 :: some z :: δ) M1 := Iff.rfl
theorem dTgN12 {x0 x1 x2 x3 x4 x5 x6 x7 x8 x9 x10 x11 : Option D} {y : Option D} {z : D} {δ : DS} {Q : DS → Prop} : dTg (.nm 12) z (x0 :: x1 :: x2 :: x3 :: x4 :: x5 :: x6 :: x7 :: x8 :: x9 :: x10 :: x11 :: y :: δ) Q ↔ Q (x0 :: x1 :: x2 :: x3 :: x4 :: x5 :: x6 :: x7 :: x8 :: x9 :: x10 :: x11 :: some z :: δ) := Iff.rfl
theorem dTgW12 {x0 x1 x2 x3 x4 x5 x6 x7 x8 x9 x10 x11 : Option D} {y : Option D} {z : D} {δ : DS} {Q : DS → Prop} : dTg (.nm 12) z (wipeD (x0 :: x1 :: x2 :: x3 :: x4 :: x5 :: x6 :: x7 :: x8 :: x9 :: x10 :: x11 :: y :: δ) [12]) Q ↔ Q (x0 :: x1 :: x2 :: x3 :: x4 :: x5 :: x6 :: x7 :: x8 :: x9 :: x10 :: x11 :: some z :: δ) := Iff.rfl
theorem dVar13 {x0 x1 x2 x3 x4 x5 x6 x7 x8 x9 x10 x11 x12 : Option D} {a : D} {δ : DS} {M : Hd} {Q : DK} : dVar 13 (x0 :: x1 :: x2 :: x3 :: x4 :: x5 :: x6 :: x7 :: x8 :: x9 :: x10 :: x11 :: x12 :: some a :: δ) M Q ↔ Q a M := ⟨fun ⟨_, e, h⟩ => by cases e; exact h, fun h => ⟨a, rfl, h⟩⟩
theorem dAug13 {x0 x1 x2 x3 x4 x5 x6 x7 x8 x9 x10 x11 x12 : Option D} {a : D} {δ : DS} {M : Hd} {de : DE} {rd : DR2} {En : DEnds} : dAug 13 de rd En (x0 :: x1 :: x2 :: x3 :: x4 :: x5 :: x6 :: x7 :: x8 :: x9 :: x10 :: x11 :: x12 :: some a :: δ) M ↔ de (x0 :: x1 :: x2 :: x3 :: x4 :: x5 :: x6 :: x7 :: x8 :: x9 :: x10 :: x11 :: x12 :: some a :: δ) M fun y M1 => rd a y M1 fun z M2 => En.nx (x0 :: x1 :: x2 :: x3 :: x4 :: x5 :: x6 :: x7 :: x8 :: x9 :: x10 :: x11 :: x12 :: some z :: δ) M2 := ⟨fun ⟨_, e, h⟩ => by cases e; exact h, fun h => ⟨a, rfl, h⟩⟩
theorem dSet13 {x0 x1 x2 x3 x4 x5 x6 x7 x8 x9 x10 x11 x12 : Option D} {y : Option D} {δ : DS} {M : Hd} {de : DE} {En : DEnds} : dSet 13 de En (x0 :: x1 :: x2 :: x3 :: x4 :: x5 :: x6 :: x7 :: x8 :: x9 :: x10 :: x11 :: x12 :: y :: δ) M ↔ de (x0 :: x1 :: x2 :: x3 :: x4 :: x5 :: x6 :: x7 :: x8 :: x9 :: x10 :: x11 :: x12 :: y :: δ) M fun z M1 => En.nx (x0 :: x1 :: x2 :: x3 :: x4 :: x5 :: x6 :: x7 :: x8 :: x9 :: x10 :: x11 :: x12 :: some z :: δ) M1 := Iff.rfl
theorem dTgN13 {x0 x1 x2 x3 x4 x5 x6 x7 x8 x9 x10 x11 x12 : Option D} {y : Option D} {z : D} {δ : DS} {Q : DS → Prop} : dTg (.nm 13) z (x0 :: x1 :: x2 :: x3 :: x4 :: x5 :: x6 :: x7 :: x8 :: x9 :: x10 :: x11 :: x12 :: y :: δ) Q ↔ Q (x0 :: x1 :: x2 :: x3 :: x4 :: x5 :: x6 :: x7 :: x8 :: x9 :: x10 :: x11 :: x12 :: some z :: δ) := Iff.rfl
theorem dTgW13 {x0 x1 x2 x3 x4 x5 x6 x7 x8 x9 x10 x11 x12 : Option D} {y : Option D} {z : D} {δ : DS} {Q : DS → Prop} : dTg (.nm 13) z (wipeD (x0 :: x1 :: x2 :: x3 :: x4 :: x5 :: x6 :: x7 :: x8 :: x9 :: x10 :: x11 :: x12 :: y :: δ) [13]) Q ↔ Q (x0 :: x1 :: x2 :: x3 :: x4 :: x5 :: x6 :: x7 :: x8 :: x9 :: x10 :: x11 :: x12 :: some z :: δ) := Iff.rfl
theorem dVar14 {x0 x1 x2 x3 x4 x5 x6 x7 x8 x9 x10 x11 x12 x13 : Option D} {a : D} {δ : DS} {M : Hd} {Q : DK} : dVar 14 (x0 :: x1 :: x2 :: x3 :: x4 :: x5 :: x6 :: x7 :: x8 :: x9 :: x10 :: x11 :: x12 :: x13 :: some a :: δ) M Q ↔ Q a M := ⟨fun ⟨_, e, h⟩ => by cases e; exact h, fun h => ⟨a, rfl, h⟩⟩
theorem dAug14 {x0 x1 x2 x3 x4 x5 x6 x7 x8 x9 x10 x11 x12 x13 : Option D} {a : D} {δ : DS} {M : Hd} {de : DE} {rd : DR2} {En : DEnds} : dAug 14 de rd En (x0 :: x1 :: x2 :: x3 :: x4 :: x5 :: x6 :: x7 :: x8 :: x9 :: x10 :: x11 :: x12 :: x13 :: some a :: δ) M ↔ de (x0 :: x1 :: x2 :: x3 :: x4 :: x5 :: x6 :: x7 :: x8 :: x9 :: x10 :: x11 :: x12 :: x13 :: some a :: δ) M fun y M1 => rd a y M1 fun z M2 => En.nx (x0 :: x1 :: x2 :: x3 :: x4 :: x5 :: x6 :: x7 :: x8 :: x9 :: x10 :: x11 :: x12 :: x13 :: some z :: δ) M2 := ⟨fun ⟨_, e, h⟩ => by cases e; exact h, fun h => ⟨a, rfl, h⟩⟩
theorem dSet14 {x0 x1 x2 x3 x4 x5 x6 x7 x8 x9 x10 x11 x12 x13 : Option D} {y : Option D} {δ : DS} {M : Hd} {de : DE} {En : DEnds} : dSet 14 de En (x0 :: x1 :: x2 :: x3 :: x4 :: x5 :: x6 :: x7 :: x8 :: x9 :: x10 :: x11 :: x12 :: x13 :: y :: δ) M ↔ de (x0 :: x1 :: x2 :: x3 :: x4 :: x5 :: x6 :: x7 :: x8 :: x9 :: x10 :: x11 :: x12 :: x13 :: y :: δ) M fun z M1 => En.nx (x0 :: x1 :: x2 :: x3 :: x4 :: x5 :: x6 :: x7 :: x8 :: x9 :: x10 :: x11 :: x12 :: x13 :: some z :: δ) M1 := Iff.rfl
theorem dTgN14 {x0 x1 x2 x3 x4 x5 x6 x7 x8 x9 x10 x11 x12 x13 : Option D} {y : Option D} {z : D} {δ : DS} {Q : DS → Prop} : dTg (.nm 14) z (x0 :: x1 :: x2 :: x3 :: x4 :: x5 :: x6 :: x7 :: x8 :: x9 :: x10 :: x11 :: x12 :: x13 :: y :: δ) Q ↔ Q (x0 :: x1 :: x2 :: x3 :: x4 :: x5 :: x6 :: x7 :: x8 :: x9 :: x10 :: x11 :: x12 :: x13 :: some z :: δ) := Iff.rfl
theorem dTgW14 {x0 x1 x2 x3 x4 x5 x6 x7 x8 x9 x10 x11 x12 x13 : Option D} {y : Option D} {z : D} {δ : DS} {Q : DS → Prop} : dTg (.nm 14) z (wipeD (x0 :: x1 :: x2 :: x3 :: x4 :: x5 :: x6 :: x7 :: x8 :: x9 :: x10 :: x11 :: x12 :: x13 :: y :: δ) [14]) Q ↔ Q (x0 :: x1 :: x2 :: x3 :: x4 :: x5 :: x6 :: x7 :: x8 :: x9 :: x10 :: x11 :: x12 :: x13 :: some z :: δ) := Iff.rfl
theorem dVar15 {x0 x1 x2 x3 x4 x5 x6 x7 x8 x9 x10 x11 x12 x13 x14 : Option D} {a : D} {δ : DS} {M : Hd} {Q : DK} : dVar 15 (x0 :: x1 :: x2 :: x3 :: x4 :: x5 :: x6 :: x7 :: x8 :: x9 :: x10 :: x11 :: x12 :: x13 :: x14 :: some a :: δ) M Q ↔ Q a M := ⟨fun ⟨_, e, h⟩ => by cases e; exact h, fun h => ⟨a, rfl, h⟩⟩
theorem dAug15 {x0 x1 x2 x3 x4 x5 x6 x7 x8 x9 x10 x11 x12 x13 x14 : Option D} {a : D} {δ : DS} {M : Hd} {de : DE} {rd : DR2} {En : DEnds} : dAug 15 de rd En (x0 :: x1 :: x2 :: x3 :: x4 :: x5 :: x6 :: x7 :: x8 :: x9 :: x10 :: x11 :: x12 :: x13 :: x14 :: some a :: δ) M ↔ de (x0 :: x1 :: x2 :: x3 :: x4 :: x5 :: x6 :: x7 :: x8 :: x9 :: x10 :: x11 :: x12 :: x13 :: x14 :: some a :: δ) M fun y M1 => rd a y M1 fun z M2 => En.nx (x0 :: x1 :: x2 :: x3 :: x4 :: x5 :: x6 :: x7 :: x8 :: x9 :: x10 :: x11 :: x12 :: x13 :: x14 :: some z :: δ) M2 := ⟨fun ⟨_, e, h⟩ => by cases e; exact h, fun h => ⟨a, rfl, h⟩⟩
theorem dSet15 {x0 x1 x2 x3 x4 x5 x6 x7 x8 x9 x10 x11 x12 x13 x14 : Option D} {y : Option D} {δ : DS} {M : Hd} {de : DE} {En : DEnds} : dSet 15 de En (x0 :: x1 :: x2 :: x3 :: x4 :: x5 :: x6 :: x7 :: x8 :: x9 :: x10 :: x11 :: x12 :: x13 :: x14 :: y :: δ) M ↔ de (x0 :: x1 :: x2 :: x3 :: x4 :: x5 :: x6 :: x7 :: x8 :: x9 :: x10 :: x11 :: x12 :: x13 :: x14 :: y :: δ) M fun z M1 => En.nx (x0 :: x1 :: x2 :: x3 :: x4 :: x5 :: x6 :: x7 :: x8 :: x9 :: x10 :: x11 :: x12 :: x13 :: x14 :: some z :: δ) M1 := Iff.rfl
theorem dTgN15 {x0 x1 x2 x3 x4 x5 x6 x7 x8 x9 x10 x11 x12 x13 x14 : Option D} {y : Option D} {z : D} {δ : DS} {Q : DS → Prop} : dTg (.nm 15) z (x0 :: x1 :: x2 :: x3 :: x4 :: x5 :: x6 :: x7 :: x8 :: x9 :: x10 :: x11 :: x12 :: x13 :: x14 :: y :: δ) Q ↔ Q (x0 :: x1 :: x2 :: x3 :: x4 :: x5 :: x6 :: x7 :: x8 :: x9 :: x10 :: x11 :: x12 :: x13 :: x14 :: some z :: δ) := Iff.rfl
theorem dTgW15 {x0 x1 x2 x3 x4 x5 x6 x7 x8 x9 x10 x11 x12 x13 x14 : Option D} {y : Option D} {z : D} {δ : DS} {Q : DS → Prop} : dTg (.nm 15) z (wipeD (x0 :: x1 :: x2 :: x3 :: x4 :: x5 :: x6 :: x7 :: x8 :: x9 :: x10 :: x11 :: x12 :: x13 :: x14 :: y :: δ) [15]) Q ↔ Q (x0 :: x1 :: x2 :: x3 :: x4 :: x5 :: x6 :: x7 :: x8 :: x9 :: x10 :: x11 :: x12 :: x13 :: x14 :: some z :: δ) := Iff.rfl
theorem dVar16 {x0 x1 x2 x3 x4 x5 x6 x7 x8 x9 x10 x11 x12 x13 x14 x15 : Option D} {a : D} {δ : DS} {M : Hd} {Q : DK} : dVar 16 (x0 :: x1 :: x2 :: x3 :: x4 :: x5 :: x6 :: x7 :: x8 :: x9 :: x10 :: x11 :: x12 :: x13 :: x14 :: x15 :: some a :: δ) M Q ↔ Q a M := ⟨fun ⟨_, e, h⟩ => by cases e; exact h, fun h => ⟨a, rfl, h⟩⟩
theorem dAug16 {x0 x1 x2 x3 x4 x5 x6 x7 x8 x9 x10 x11 x12 x13 x14 x15 : Option D} {a : D} {δ : DS} {M : Hd} {de : DE} {rd : DR2} {En : DEnds} : dAug 16 de rd En (x0 :: x1 :: x2 :: x3 :: x4 :: x5 :: x6 :: x7 :: x8 :: x9 :: x10 :: x11 :: x12 :: x13 :: x14 :: x15 :: some a :: δ) M ↔ de (x0 :: x1 :: x2 :: x3 :: x4 :: x5 :: x6 :: x7 :: x8 :: x9 :: x10 :: x11 :: x12 :: x13 :: x14 :: x15 :: some a :: δ) M fun y M1 => rd a y M1 fun z M2 => En.nx (x0 :: x1 :: x2 :: x3 :: x4 :: x5 :: x6 :: x7 :: x8 :: x9 :: x10 :: x11 :: x12 :: x13 :: x14 :: x15 :: some z :: δ) M2 := ⟨fun ⟨_, e, h⟩ => by cases e; exact h, fun h => ⟨a, rfl, h⟩⟩
theorem dSet16 {x0 x1 x2 x3 x4 x5 x6 x7 x8 x9 x10 x11 x12 x13 x14 x15 : Option D} {y : Option D} {δ : DS} {M : Hd} {de : DE} {En : DEnds} : dSet 16 de En (x0 :: x1 :: x2 :: x3 :: x4 :: x5 :: x6 :: x7 :: x8 :: x9 :: x10 :: x11 :: x12 :: x13 :: x14 :: x15 :: y :: δ) M ↔ de (x0 :: x1 :: x2 :: x3 :: x4 :: x5 :: x6 :: x7 :: x8 :: x9 :: x10 :: x11 :: x12 :: x13 :: x14 :: x15 :: y :: δ) M fun z M1 => En.nx (x0 :: x1 :: x2 :: x3 :: x4 :: x5 :: x6 :: x7 :: x8 :: x9 :: x10 :: x11 :: x12 :: x13 :: x14 :: x15 :: some z :: δ) M1 := Iff.rfl
theorem dTgN16 {x0 x1 x2 x3 x4 x5 x6 x7 x8 x9 x10 x11 x12 x13 x14 x15 : Option D} {y : Option D} {z : D} {δ : DS} {Q : DS → Prop} : dTg (.nm 16) z (x0 :: x1 :: x2 :: x3 :: x4 :: x5 :: x6 :: x7 :: x8 :: x9 :: x10 :: x11 :: x12 :: x13 :: x14 :: x15 :: y :: δ) Q ↔ Q (x0 :: x1 :: x2 :: x3 :: x4 :: x5 :: x6 :: x7 :: x8 :: x9 :: x10 :: x11 :: x12 :: x13 :: x14 :: x15 :: some z :: δ) := Iff.rfl
theorem dTgW16 {x0 x1 x2 x3 x4 x5 x6 x7 x8 x9 x10 x11 x12 x13 x14 x15 : Option D} {y : Option D} {z : D} {δ : DS} {Q : DS → Prop} : dTg (.nm 16) z (wipeD (x0 :: x1 :: x2 :: x3 :: x4 :: x5 :: x6 :: x7 :: x8 :: x9 :: x10 :: x11 :: x12 :: x13 :: x14 :: x15 :: y :: δ) [16]) Q ↔ Q (x0 :: x1 :: x2 :: x3 :: x4 :: x5 :: x6 :: x7 :: x8 :: x9 :: x10 :: x11 :: x12 :: x13 :: x14 :: x15 :: some z :: δ) := Iff.rfl
theorem dVar17 {x0 x1 x2 x3 x4 x5 x6 x7 x8 x9 x10 x11 x12 x13 x14 x15 x16 : Option D} {a : D} {δ : DS} {M : Hd} {Q : DK} : dVar 17 (x0 :: x1 :: x2 :: x3 :: x4 :: x5 :: x6 :: x7 :: x8 :: x9 :: x10 :: x11 :: x12 :: x13 :: x14 :: x15 :: x16 :: some a :: δ) M Q ↔ Q a M := ⟨fun ⟨_, e, h⟩ => by cases e; exact h, fun h => ⟨a, rfl, h⟩⟩
theorem dAug17 {x0 x1 x2 x3 x4 x5 x6 x7 x8 x9 x10 x11 x12 x13 x14 x15 x16 : Option D} {a : D} {δ : DS} {M : Hd} {de : DE} {rd : DR2} {En : DEnds} : dAug 17 de rd En (x0 :: x1 :: x2 :: x3 :: x4 :: x5 :: x6 :: x7 :: x8 :: x9 :: x10 :: x11 :: x12 :: x13 :: x14 :: x15 :: x16 :: some a :: δ) M ↔ de (x0 :: x1 :: x2 :: x3 :: x4 :: x5 :: x6 :: x7 :: x8 :: x9 :: x10 :: x11 :: x12 :: x13 :: x14 :: x15 :: x16 :: some a :: δ) M fun y M1 => rd a y M1 fun z M2 => En.nx (x0 :: x1 :: x2 :: x3 :: x4 :: x5 :: x6 :: x7 :: x8 :: x9 :: x10 :: x11 :: x12 :: x13 :: x14 :: x15 :: x16 :: some z :: δ) M2 := ⟨fun ⟨_, e, h⟩ => by cases e; exact h, fun h => ⟨a, rfl, h⟩⟩
theorem dSet17 {x0 x1 x2 x3 x4 x5 x6 x7 x8 x9 x10 x11 x12 x13 x14 x15 x16 : Option D} {y : Option D} {δ : DS} {M : Hd} {de : DE} {En : DEnds} : dSet 17 de En (x0 :: x1 :: x2 :: x3 :: x4 :: x5 :: x6 :: x7 :: x8 :: x9 :: x10 :: x11 :: x12 :: x13 :: x14 :: x15 :: x16 :: y :: δ) M ↔ de (x0 :: x1 :: x2 :: x3 :: x4 :: x5 :: x6 :: x7 :: x8 :: x9 :: x10 :: x11 :: x12 :: x13 :: x14 :: x15 :: x16 :: y :: δ) M fun z M1 => En.nx (x0 :: x1 :: x2 :: x3 :: x4 :: x5 :: x6 :: x7 :: x8 :: x9 :: x10 :: x11 :: x12 :: x13 :: x14 :: x15 :: x16 :: some z :: δ) M1 := Iff.rfl
theorem dTgN17 {x0 x1 x2 x3 x4 x5 x6 x7 x8 x9 x10 x11 x12 x13 x14 x15 x16 : Option D} {y : Option D} {z : D} {δ : DS} {Q : DS → Prop} : dTg (.nm 17) z (x0 :: x1 :: x2 :: x3 :: x4 :: x5 :: x6 :: x7 :: x8 :: x9 :: x10 :: x11 :: x12 :: x13 :: x14 :: x15 :: x16 :: y :: δ) Q ↔ Q (x0 :: x1 :: x2 :: x3 :: x4 :: x5 :: x6 :: x7 :: x8 :: x9 :: x10 :: x11 :: x12 :: x13 :: x14 :: x15 :: x16 :: some z :: δ) := Iff.rfl
theorem dTgW17 {x0 x1 x2 x3 x4 x5 x6 x7 x8 x9 x10 x11 x12 x13 x14 x15 x16 : Option D} {y : Option D} {z : D} {δ : DS} {Q : DS → Prop} : dTg (.nm 17) z (wipeD (x0 :: x1 :: x2 :: x3 :: x4 :: x5 :: x6 :: x7 :: x8 :: x9 :: x10 :: x11 :: x12 :: x13 :: x14 :: x15 :: x16 :: y :: δ) [17]) Q ↔ Q (x0 :: x1 :: x2 :: x3 :: x4 :: x5 :: x6 :: x7 :: x8 :: x9 :: x10 :: x11 :: x12 :: x13 :: x14 :: x15 :: x16 :: some z :: δ) := Iff.rfl
theorem dVar18 {x0 x1 x2 x3 x4 x5 x6 x7 x8 x9 x10 x11 x12 x13 x14 x15 x16 x17 : Option D} {a : D} {δ : DS} {M : Hd} {Q : DK} : dVar 18 (x0 :: x1 :: x2 :: x3 :: x4 :: x5 :: x6 :: x7 :: x8 :: x9 :: x10 :: x11 :: x12 :: x13 :: x14 :: x15 :: x16 :: x17 :: some a :: δ) M Q ↔ Q a M := ⟨fun ⟨_, e, h⟩ => by cases e; exact h, fun h => ⟨a, rfl, h⟩⟩
theorem dAug18 {x0 x1 x2 x3 x4 x5 x6 x7 x8 x9 x10 x11 x12 x13 x14 x15 x16 x17 : Option D} {a : D} {δ : DS} {M : Hd} {de : DE} {rd : DR2} {En : DEnds} : dAug 18 de rd En (x0 :: x1 :: x2 :: x3 :: x4 :: x5 :: x6 :: x7 :: x8 :: x9 :: x10 :: x11 :: x12 :: x13 :: x14 :: x15 :: x16 :: x17 :: some a :: δ) M ↔ de (x0 :: x1 :: x2 :: x3 :: x4 :: x5 :: x6 :: x7 :: x8 :: x9 :: x10 :: x11 :: x12 :: x13 :: x14 :: x15 :: x16 :: x17 :: some a :: δ) M fun y M1 => rd a y M1 fun z M2 => En.nx (x0 :: x1 :: x2 :: x3 :: x4 :: x5 :: x6 :: x7 :: x8 :: x9 :: x10 :: x11 :: x12 :: x13 :: x14 :: x15 :: x16 :: x17 :: some z :: δ) M2 := ⟨fun ⟨_, e, h⟩ => by cases e; exact h, fun h => ⟨a, rfl, h⟩⟩
theorem dSet18 {x0 x1 x2 x3 x4 x5 x6 x7 x8 x9 x10 x11 x12 x13 x14 x15 x16 x17 : Option D} {y : Option D} {δ : DS} {M : Hd} {de : DE} {En : DEnds} : dSet 18 de En (x0 :: x1 :: x2 :: x3 :: x4 :: x5 :: x6 :: x7 :: x8 :: x9 :: x10 :: x11 :: x12 :: x13 :: x14 :: x15 :: x16 :: x17 :: y :: δ) M ↔ de (x0 :: x1 :: x2 :: x3 :: x4 :: x5 :: x6 :: x7 :: x8 :: x9 :: x10 :: x11 :: x12 :: x13 :: x14 :: x15 :: x16 :: x17 :: y :: δ) M fun z M1 => En.nx (x0 :: x1 :: x2 :: x3 :: x4 :: x5 :: x6 :: x7 :: x8 :: x9 :: x10 :: x11 :: x12 :: x13 :: x14 :: x15 :: x16 :: x17 :: some z :: δ) M1 := Iff.rfl
theorem dTgN18 {x0 x1 x2 x3 x4 x5 x6 x7 x8 x9 x10 x11 x12 x13 x14 x15 x16 x17 : Option D} {y : Option D} {z : D} {δ : DS} {Q : DS → Prop} : dTg (.nm 18) z (x0 :: x1 :: x2 :: x3 :: x4 :: x5 :: x6 :: x7 :: x8 :: x9 :: x10 :: x11 :: x12 :: x13 :: x14 :: x15 :: x16 :: x17 :: y :: δ) Q ↔ Q (x0 :: x1 :: x2 :: x3 :: x4 :: x5 :: x6 :: x7 :: x8 :: x9 :: x10 :: x11 :: x12 :: x13 :: x14 :: x15 :: x16 :: x17 :: some z :: δ) := Iff.rfl
theorem dTgW18 {x0 x1 x2 x3 x4 x5 x6 x7 x8 x9 x10 x11 x12 x13 x14 x15 x16 x17 : Option D} {y : Option D} {z : D} {δ : DS} {Q : DS → Prop} : dTg (.nm 18) z (wipeD (x0 :: x1 :: x2 :: x3 :: x4 :: x5 :: x6 :: x7 :: x8 :: x9 :: x10 :: x11 :: x12 :: x13 :: x14 :: x15 :: x16 :: x17 :: y :: δ) [18]) Q ↔ Q (x0 :: x1 :: x2 :: x3 :: x4 :: x5 :: x6 :: x7 :: x8 :: x9 :: x10 :: x11 :: x12 :: x13 :: x14 :: x15 :: x16 :: x17 :: some z :: δ) := Iff.rfl
theorem dVar19 {x0 x1 x2 x3 x4 x5 x6 x7 x8 x9 x10 x11 x12 x13 x14 x15 x16 x17 x18 : Option D} {a : D} {δ : DS} {M : Hd} {Q : DK} : dVar 19 (x0 :: x1 :: x2 :: x3 :: x4 :: x5 :: x6 :: x7 :: x8 :: x9 :: x10 :: x11 :: x12 :: x13 :: x14 :: x15 :: x16 :: x17 :: x18 :: some a :: δ) M Q ↔ Q a M := ⟨fun ⟨_, e, h⟩ => by cases e; exact h, fun h => ⟨a, rfl, h⟩⟩
theorem dAug19 {x0 x1 x2 x3 x4 x5 x6 x7 x8 x9 x10 x11 x12 x13 x14 x15 x16 x17 x18 : Option D} {a : D} {δ : DS} {M : Hd} {de : DE} {rd : DR2} {En : DEnds} : dAug 19 de rd En (x0 :: x1 :: x2 :: x3 :: x4 :: x5 :: x6 :: x7 :: x8 :: x9 :: x10 :: x11 :: x12 :: x13 :: x14 :: x15 :: x16 :: x17 :: x18 :: some a :: δ) M ↔ de (x0 :: x1 :: x2 :: x3 :: x4 :: x5 :: x6 :: x7 :: x8 :: x9 :: x10 :: x11 :: x12 :: x13 :: x14 :: x15 :: x16 :: x17 :: x18 :: some a :: δ) M fun y M1 => rd a y M1 fun z M2 => En.nx (x0 :: x1 :: x2 :: x3 :: x4 :: x5 :: x6 :: x7 :: x8 :: x9 :: x10 :: x11 :: x12 :: x13 :: x14 :: x15 :: x16 :: x17 :: x18 :: some z :: δ) M2 := ⟨fun ⟨_, e, h⟩ => by cases e; exact h, fun h => ⟨a, rfl, h⟩⟩
theorem dSet19 {x0 x1 x2 x3 x4 x5 x6 x7 x8 x9 x10 x11 x12 x13 x14 x15 x16 x17 x18 : Option D} {y : Option D} {δ : DS} {M : Hd} {de : DE} {En : DEnds} : dSet 19 de En (x0 :: x1 :: x2 :: x3 :: x4 :: x5 :: x6 :: x7 :: x8 :: x9 :: x10 :: x11 :: x12 :: x13 :: x14 :: x15 :: x16 :: x17 :: x18 :: y :: δ) M ↔ de (x0 :: x1 :: x2 :: x3 :: x4 :: x5 :: x6 :: x7 :: x8 :: x9 :: x10 :: x11 :: x12 :: x13 :: x14 :: x15 :: x16 :: x17 :: x18 :: y :: δ) M fun z M1 => En.nx (x0 :: x1 :: x2 :: x3 :: x4 :: x5 :: x6 :: x7 :: x8 :: x9 :: x10 :: x11 :: x12 :: x13 :: x14 :: x15 :: x16 :: x17 :: x18 :: some z :: δ) M1 := Iff.rfl
theorem dTgN19 {x0 x1 x2 x3 x4 x5 x6 x7 x8 x9 x10 x11 x12 x13 x14 x15 x16 x17 x18 : Option D} {y : Option D} {z : D} {δ : DS} {Q : DS → Prop} : dTg (.nm 19) z (x0 :: x1 :: x2 :: x3 :: x4 :: x5 :: x6 :: x7 :: x8 :: x9 :: x10 :: x11 :: x12 :: x13 :: x14 :: x15 :: x16 :: x17 :: x18 :: y :: δ) Q ↔ Q (x0 :: x1 :: x2 :: x3 :: x4 :: x5 :: x6 :: x7 :: x8 :: x9 :: x10 :: x11 :: x12 :: x13 :: x14 :: x15 :: x16 :: x17 :: x18 :: some z :: δ) := Iff.rfl
theorem dTgW19 {x0 x1 x2 x3 x4 x5 x6 x7 x8 x9 x10 x11 x12 x13 x14 x15 x16 x17 x18 : Option D} {y : Option D} {z : D} {δ : DS} {Q : DS → Prop} : dTg (.nm 19) z (wipeD (x0 :: x1 :: x2 :: x3 :: x4 :: x5 :: x6 :: x7 :: x8 :: x9 :: x10 :: x11 :: x12 :: x13 :: x14 :: x15 :: x16 :: x17 :: x18 :: y :: δ) [19]) Q ↔ Q (x0 :: x1 :: x2 :: x3 :: x4 :: x5 :: x6 :: x7 :: x8 :: x9 :: x10 :: x11 :: x12 :: x13 :: x14 :: x15 :: x16 :: x17 :: x18 :: some z :: δ) := Iff.rfl
theorem dTg_t2 {i j : Nat} {a b : D} {δ : DS} {Q : DS → Prop} : dTg (.t2 i j) (.tup [a, b]) δ Q ↔ dTg (.nm i) a δ fun δ => dTg (.nm j) b δ Q := Iff.rfl
theorem dTg_t3 {i j k : Nat} {a b c : D} {δ : DS} {Q : DS → Prop} : dTg (.t3 i j k) (.tup [a, b, c]) δ Q ↔ dTg (.nm i) a δ fun δ => dTg (.nm j) b δ fun δ => dTg (.nm k) c δ Q := Iff.rfl
theorem dFlag_bl {b : Bool} {M : Hd} {Q : Bool → Hd → Prop} : dFlag (.bl b) M Q ↔ Q b M := ⟨fun ⟨_, e, h⟩ => by cases e; exact h, fun h => ⟨b, rfl, h⟩⟩
theorem exBl {b : Bool} {R : Bool → Prop} : (∃ k, D.bl b = D.bl k ∧ R k) ↔ R b := ⟨fun ⟨_, e, h⟩ => by cases e; exact h, fun h => ⟨b, rfl, h⟩⟩
theorem exInt {b : Int} {R : Int → Prop} : (∃ k, D.int b = D.int k ∧ R k) ↔ R b := ⟨fun ⟨_, e, h⟩ => by cases e; exact h, fun h => ⟨b, rfl, h⟩⟩
theorem exRef {b : Addr} {R : Addr → Prop} : (∃ k, D.ref b = D.ref k ∧ R k) ↔ R b := ⟨fun ⟨_, e, h⟩ => by cases e; exact h, fun h => ⟨b, rfl, h⟩⟩
/-! ### the heap, looked up at once -/
section
variable {M : Hd} {p q : Addr} {l xs : List D} {o : O}
theorem exLSu {R : List D → Prop} : (∃ xs, LS (up M p (.lst l)) p xs ∧ R xs) ↔ R l := ⟨fun ⟨_, a, b⟩ => by rw [← LS_up.mp a]; exact b, fun h => ⟨l, LS_up.mpr rfl, h⟩⟩
theorem exLS (h : M p = some (.lst l)) {R : List D → Prop} : (∃ xs, LS M p xs ∧ R xs) ↔ R l := ⟨fun ⟨_, a, b⟩ => by rw [← (ls_lst h).mp a]; exact b, fun z => ⟨l, (ls_lst h).mpr rfl, z⟩⟩
theorem exLSz (h : M p = some (.fz l)) {R : List D → Prop} : (∃ xs, LS M p xs ∧ R xs) ↔ R l := ⟨fun ⟨_, a, b⟩ => by rw [← (ls_fz h).mp a]; exact b, fun z => ⟨l, (ls_fz h).mpr rfl, z⟩⟩
theorem LS_ne (h : q ≠ p) : LS (up M p o) q xs ↔ LS M q xs := by unfold LS; rw [up_ne h]
theorem DK_ne (h : q ≠ p) {kvs : List (Key × D)} : DK_ (up M p o) q kvs ↔ DK_ M q kvs := by unfold DK_; rw [up_ne h]
theorem exLSn (h : q ≠ p) {R : List D → Prop} : (∃ xs, LS (up M p o) q xs ∧ R xs) ↔ ∃ xs, LS M q xs ∧ R xs := by
  constructor <;> rintro ⟨xs, a, b⟩
  · exact ⟨xs, (LS_ne h).mp a, b⟩
  · exact ⟨xs, (LS_ne h).mpr a, b⟩
theorem exDKu {R : List (Key × D) → Prop} : (∃ kvs, DK_ (up M p (.lst l)) p kvs ∧ R kvs) ↔ False := by
  constructor
  · rintro ⟨kvs, a | a, _⟩ <;> rw [up_same] at a <;> cases a
  · exact False.elim
theorem exDKh (h : M p = some (.lst l)) {R : List (Key × D) → Prop} : (∃ kvs, DK_ M p kvs ∧ R kvs) ↔ False := by
  constructor
  · rintro ⟨kvs, a | a, _⟩ <;> rw [h] at a <;> cases a
  · exact False.elim
theorem exDKz (h : M p = some (.fz l)) {R : List (Key × D) → Prop} : (∃ kvs, DK_ M p kvs ∧ R kvs) ↔ False := by
  constructor
  · rintro ⟨kvs, a | a, _⟩ <;> rw [h] at a <;> cases a
  · exact False.elim
theorem exDKn (h : q ≠ p) {R : List (Key × D) → Prop} : (∃ kvs, DK_ (up M p o) q kvs ∧ R kvs) ↔ ∃ kvs, DK_ M q kvs ∧ R kvs := by
  constructor <;> rintro ⟨xs, a, b⟩
  · exact ⟨xs, (DK_ne h).mp a, b⟩
  · exact ⟨xs, (DK_ne h).mpr a, b⟩
theorem exDKd {kvs : List (Key × D)} {R : List (Key × D) → Prop} : (∃ ks, DK_ (up M p (.dK kvs)) p ks ∧ R ks) ↔ R kvs := by
  constructor
  · rintro ⟨ks, a | a, b⟩ <;> rw [up_same] at a <;> cases a
    exact b
  · exact fun h => ⟨kvs, .inl up_same, h⟩
theorem exLSd {kvs : List (Key × D)} {R : List D → Prop} : (∃ xs, LS (up M p (.dK kvs)) p xs ∧ R xs) ↔ False := by
  constructor
  · rintro ⟨ks, a | a, b⟩ <;> rw [up_same] at a <;> cases a
  · exact False.elim
theorem exLu {R : List D → Prop} : (∃ xs, up M p (.lst l) p = some (.lst xs) ∧ R xs) ↔ R l := by
  rw [up_same]
  exact ⟨fun ⟨_, a, b⟩ => by cases a; exact b, fun h => ⟨l, rfl, h⟩⟩
theorem exLh (h : M p = some (.lst l)) {R : List D → Prop} : (∃ xs, M p = some (.lst xs) ∧ R xs) ↔ R l := by
  rw [h]
  exact ⟨fun ⟨_, a, b⟩ => by cases a; exact b, fun h => ⟨l, rfl, h⟩⟩
theorem exLn (h : q ≠ p) {R : List D → Prop} : (∃ xs, up M p o q = some (.lst xs) ∧ R xs) ↔ ∃ xs, M q = some (.lst xs) ∧ R xs := by rw [up_ne h]
theorem dIxRh (h : M p = some (.lst l)) {i : Int} {Q : D → Prop} : dIxR p (.int i) M Q ↔ ∃ v, atI l i = some v ∧ Q v := by
  unfold dIxR
  constructor
  · rintro (⟨xs, j, v, e, a, b, c⟩ | ⟨kvs, k, v, _, a, _⟩ | ⟨kvs, k, v, e, _⟩)
    · cases e
      rw [(ls_lst h).mp a] at b
      exact ⟨v, b, c⟩
    · exact absurd (show ∃ kvs, DK_ M p kvs ∧ True from ⟨kvs, a, trivial⟩) (exDKh h).mp
    · cases e
  · rintro ⟨v, b, c⟩
    exact .inl ⟨l, i, v, rfl, .inl h, b, c⟩
theorem dIxRz (h : M p = some (.fz l)) {i : Int} {Q : D → Prop} : dIxR p (.int i) M Q ↔ ∃ v, atI l i = some v ∧ Q v := by
  unfold dIxR
  constructor
  · rintro (⟨xs, j, v, e, a, b, c⟩ | ⟨kvs, k, v, _, a, _⟩ | ⟨kvs, k, v, e, _⟩)
    · cases e
      rw [(ls_fz h).mp a] at b
      exact ⟨v, b, c⟩
    · exact absurd (show ∃ kvs, DK_ M p kvs ∧ True from ⟨kvs, a, trivial⟩) (exDKz h).mp
    · cases e
  · rintro ⟨v, b, c⟩
    exact .inl ⟨l, i, v, rfl, .inr h, b, c⟩
theorem dIxRu {i : Int} {Q : D → Prop} : dIxR p (.int i) (up M p (.lst l)) Q ↔ ∃ v, atI l i = some v ∧ Q v := dIxRh up_same
theorem dIxRn (h : q ≠ p) {y : D} {Q : D → Prop} : dIxR q y (up M p o) Q ↔ dIxR q y M Q := by
  unfold dIxR LS DK_
  rw [up_ne h]
theorem dPuth (h : M p = some (.lst l)) {i : Int} {v : D} {Q : Hd → Prop} : dPut (.ref p) (.int i) v M Q ↔ ∃ j, ixN l.length i = some j ∧ Q (up M p (.lst (l.set j v))) := by
  unfold dPut
  constructor
  · rintro ⟨p', e, h2⟩
    cases e
    rcases h2 with ⟨xs, k, j, e, a, b, c⟩ | ⟨kvs, k, _, a, _⟩ | ⟨kvs, k, e, _⟩
    · cases e
      rw [h] at a
      cases a
      exact ⟨j, b, c⟩
    · rw [h] at a; cases a
    · cases e
  · rintro ⟨j, b, c⟩
    exact ⟨p, rfl, .inl ⟨l, i, j, rfl, h, b, c⟩⟩
theorem dPutu {i : Int} {v : D} {Q : Hd → Prop} : dPut (.ref p) (.int i) v (up M p (.lst l)) Q ↔ ∃ j, ixN l.length i = some j ∧ Q (up M p (.lst (l.set j v))) := by
  rw [dPuth up_same]
  simp only [up_up]
theorem dGetAh (h : M p = some (.lst l)) {i : Int} {Q : DK} : dGetA (.ref p) (.int i) M Q ↔ 0 ≤ i ∧ ∃ v, l[i.toNat]? = some v ∧ Q v M := by
  unfold dGetA
  constructor
  · rintro ⟨p', e, ⟨xs, j, v, e2, a, b, c, d⟩ | ⟨kvs, k, v, _, a, _⟩⟩
    · cases e; cases e2
      rw [(ls_lst h).mp a] at c
      exact ⟨b, v, c, d⟩
    · cases e
      exact absurd (show ∃ kvs, DK_ M p kvs ∧ True from ⟨kvs, a, trivial⟩) (exDKh h).mp
  · rintro ⟨b, v, c, d⟩
    exact ⟨p, rfl, .inl ⟨l, i, v, rfl, .inl h, b, c, d⟩⟩
theorem dGetAu {i : Int} {Q : DK} : dGetA (.ref p) (.int i) (up M p (.lst l)) Q ↔ 0 ≤ i ∧ ∃ v, l[i.toNat]? = some v ∧ Q v (up M p (.lst l)) := dGetAh up_same
theorem exAtM {α : Type} {f : α → D} {ys : List α} {i : Int} {R : D → Prop} : (∃ v, atI (ys.map f) i = some v ∧ R v) ↔ ∃ a, atI ys i = some a ∧ R (f a) := by
  unfold atI
  rw [List.length_map]
  cases ixN ys.length i with
  | none => simp
  | some j =>
    simp only [List.getElem?_map]
    constructor
    · rintro ⟨v, e, h⟩
      obtain ⟨a, ha, rfl⟩ := Option.map_eq_some_iff.mp e
      exact ⟨a, ha, h⟩
    · rintro ⟨a, e, h⟩
      have e' : ys[j]? = some a := e
      exact ⟨f a, by show Option.map f ys[j]? = _; rw [e']; rfl, h⟩
theorem atI_lt {α : Type} {ys : List α} {i : Int} (h0 : 0 ≤ i) (h1 : i < ys.length) : ∃ a, atI ys i = some a ∧ ys[i.toNat]? = some a := by
  obtain ⟨j, rfl⟩ := Int.eq_ofNat_of_zero_le h0
  have hj : j < ys.length := by omega
  exact ⟨ys[j], atI_nat (List.getElem?_eq_getElem hj), by simp [hj]⟩
theorem ixN_lt {n : Nat} {i : Int} (h0 : 0 ≤ i) (h1 : i < n) : ixN n i = some i.toNat := by
  unfold ixN
  obtain ⟨j, rfl⟩ := Int.eq_ofNat_of_zero_le h0
  have hj : j < n := by omega
  simp [hj]
theorem dPutn (h : q ≠ p) {i : Int} {v : D} {Q : Hd → Prop} : dPut (.ref q) (.int i) v (up (up M q (.lst l)) p o) Q ↔ ∃ j, ixN l.length i = some j ∧ Q (up (up M q (.lst (l.set j v))) p o) := by
  rw [up_comm h, dPutu]
  simp only [up_comm h]
theorem dEq_int {i j : Int} {Q : DK} : dEq (.int i) (.int j) M Q ↔ Q (.bl (decide (i = j))) M := Iff.rfl
theorem dNe_int {i j : Int} {Q : DK} : dNe (.int i) (.int j) M Q ↔ Q (.bl (!decide (i = j))) M := Iff.rfl
theorem dEq_bl {i j : Bool} {Q : DK} : dEq (.bl i) (.bl j) M Q ↔ Q (.bl (decide (i = j))) M := Iff.rfl
theorem dNe_bl {i j : Bool} {Q : DK} : dNe (.bl i) (.bl j) M Q ↔ Q (.bl (!decide (i = j))) M := Iff.rfl
theorem dEq_str {i j : Str} {Q : DK} : dEq (.str i) (.str j) M Q ↔ Q (.bl (decide (i = j))) M := Iff.rfl
theorem dNe_str {i j : Str} {Q : DK} : dNe (.str i) (.str j) M Q ↔ Q (.bl (!decide (i = j))) M := Iff.rfl
theorem dAdd_tup {xs ys : List D} {Q : DK} : dAdd (.tup xs) (.tup ys) M Q ↔ xs.length + ys.length ≤ sizeLine ∧ Q (.tup (xs ++ ys)) M := Iff.rfl
theorem dAdd_ref {Q : DK} : dAdd (.ref p) (.ref q) M Q ↔ ∃ xs, M p = some (.lst xs) ∧ ∃ ys, M q = some (.lst ys) ∧ xs.length + ys.length ≤ sizeLine ∧ ∀ l, M l = none → Q (.ref l) (up M l (.lst (xs ++ ys))) :=
  ⟨fun ⟨xs, ys, a, b, c⟩ => ⟨xs, a, ys, b, c⟩, fun ⟨xs, a, ys, b, c⟩ => ⟨xs, ys, a, b, c⟩⟩
theorem dAdd_int {i j : Int} {Q : DK} : dAdd (.int i) (.int j) M Q ↔ Q (.int (i + j)) M := Iff.rfl
theorem exAt10 {a : D} {R : D → Prop} : (∃ v, atI [a] 0 = some v ∧ R v) ↔ R a := ⟨fun ⟨_, e, h⟩ => by cases e; exact h, fun h => ⟨_, rfl, h⟩⟩
theorem exIx10 {a : D} {R : Nat → Prop} : (∃ j, ixN [a].length 0 = some j ∧ R j) ↔ R 0 := ⟨fun ⟨_, e, h⟩ => by cases e; exact h, fun h => ⟨_, rfl, h⟩⟩
theorem exAt20 {a b : D} {R : D → Prop} : (∃ v, atI [a, b] 0 = some v ∧ R v) ↔ R a := ⟨fun ⟨_, e, h⟩ => by cases e; exact h, fun h => ⟨_, rfl, h⟩⟩
theorem exIx20 {a b : D} {R : Nat → Prop} : (∃ j, ixN [a, b].length 0 = some j ∧ R j) ↔ R 0 := ⟨fun ⟨_, e, h⟩ => by cases e; exact h, fun h => ⟨_, rfl, h⟩⟩
theorem exAt21 {a b : D} {R : D → Prop} : (∃ v, atI [a, b] 1 = some v ∧ R v) ↔ R b := ⟨fun ⟨_, e, h⟩ => by cases e; exact h, fun h => ⟨_, rfl, h⟩⟩
theorem exIx21 {a b : D} {R : Nat → Prop} : (∃ j, ixN [a, b].length 1 = some j ∧ R j) ↔ R 1 := ⟨fun ⟨_, e, h⟩ => by cases e; exact h, fun h => ⟨_, rfl, h⟩⟩
theorem exAt30 {a b c : D} {R : D → Prop} : (∃ v, atI [a, b, c] 0 = some v ∧ R v) ↔ R a := ⟨fun ⟨_, e, h⟩ => by cases e; exact h, fun h => ⟨_, rfl, h⟩⟩
theorem exIx30 {a b c : D} {R : Nat → Prop} : (∃ j, ixN [a, b, c].length 0 = some j ∧ R j) ↔ R 0 := ⟨fun ⟨_, e, h⟩ => by cases e; exact h, fun h => ⟨_, rfl, h⟩⟩
theorem exAt31 {a b c : D} {R : D → Prop} : (∃ v, atI [a, b, c] 1 = some v ∧ R v) ↔ R b := ⟨fun ⟨_, e, h⟩ => by cases e; exact h, fun h => ⟨_, rfl, h⟩⟩
theorem exIx31 {a b c : D} {R : Nat → Prop} : (∃ j, ixN [a, b, c].length 1 = some j ∧ R j) ↔ R 1 := ⟨fun ⟨_, e, h⟩ => by cases e; exact h, fun h => ⟨_, rfl, h⟩⟩
theorem exAt32 {a b c : D} {R : D → Prop} : (∃ v, atI [a, b, c] 2 = some v ∧ R v) ↔ R c := ⟨fun ⟨_, e, h⟩ => by cases e; exact h, fun h => ⟨_, rfl, h⟩⟩
theorem exIx32 {a b c : D} {R : Nat → Prop} : (∃ j, ixN [a, b, c].length 2 = some j ∧ R j) ↔ R 2 := ⟨fun ⟨_, e, h⟩ => by cases e; exact h, fun h => ⟨_, rfl, h⟩⟩
theorem exAt40 {a b c d : D} {R : D → Prop} : (∃ v, atI [a, b, c, d] 0 = some v ∧ R v) ↔ R a := ⟨fun ⟨_, e, h⟩ => by cases e; exact h, fun h => ⟨_, rfl, h⟩⟩
theorem exIx40 {a b c d : D} {R : Nat → Prop} : (∃ j, ixN [a, b, c, d].length 0 = some j ∧ R j) ↔ R 0 := ⟨fun ⟨_, e, h⟩ => by cases e; exact h, fun h => ⟨_, rfl, h⟩⟩
theorem exAt41 {a b c d : D} {R : D → Prop} : (∃ v, atI [a, b, c, d] 1 = some v ∧ R v) ↔ R b := ⟨fun ⟨_, e, h⟩ => by cases e; exact h, fun h => ⟨_, rfl, h⟩⟩
theorem exIx41 {a b c d : D} {R : Nat → Prop} : (∃ j, ixN [a, b, c, d].length 1 = some j ∧ R j) ↔ R 1 := ⟨fun ⟨_, e, h⟩ => by cases e; exact h, fun h => ⟨_, rfl, h⟩⟩
theorem exAt42 {a b c d : D} {R : D → Prop} : (∃ v, atI [a, b, c, d] 2 = some v ∧ R v) ↔ R c := ⟨fun ⟨_, e, h⟩ => by cases e; exact h, fun h => ⟨_, rfl, h⟩⟩
theorem exIx42 {a b c d : D} {R : Nat → Prop} : (∃ j, ixN [a, b, c, d].length 2 = some j ∧ R j) ↔ R 2 := ⟨fun ⟨_, e, h⟩ => by cases e; exact h, fun h => ⟨_, rfl, h⟩⟩
theorem exAt43 {a b c d : D} {R : D → Prop} : (∃ v, atI [a, b, c, d] 3 = some v ∧ R v) ↔ R d := ⟨fun ⟨_, e, h⟩ => by cases e; exact h, fun h => ⟨_, rfl, h⟩⟩
theorem exIx43 {a b c d : D} {R : Nat → Prop} : (∃ j, ixN [a, b, c, d].length 3 = some j ∧ R j) ↔ R 3 := ⟨fun ⟨_, e, h⟩ => by cases e; exact h, fun h => ⟨_, rfl, h⟩⟩
theorem exAt50 {a b c d e : D} {R : D → Prop} : (∃ v, atI [a, b, c, d, e] 0 = some v ∧ R v) ↔ R a := ⟨fun ⟨_, e, h⟩ => by cases e; exact h, fun h => ⟨_, rfl, h⟩⟩
theorem exIx50 {a b c d e : D} {R : Nat → Prop} : (∃ j, ixN [a, b, c, d, e].length 0 = some j ∧ R j) ↔ R 0 := ⟨fun ⟨_, e, h⟩ => by cases e; exact h, fun h => ⟨_, rfl, h⟩⟩
theorem exAt51 {a b c d e : D} {R : D → Prop} : (∃ v, atI [a, b, c, d, e] 1 = some v ∧ R v) ↔ R b := ⟨fun ⟨_, e, h⟩ => by cases e; exact h, fun h => ⟨_, rfl, h⟩⟩
theorem exIx51 {a b c d e : D} {R : Nat → Prop} : (∃ j, ixN [a, b, c, d, e].length 1 = some j ∧ R j) ↔ R 1 := ⟨fun ⟨_, e, h⟩ => by cases e; exact h, fun h => ⟨_, rfl, h⟩⟩
theorem exAt52 {a b c d e : D} {R : D → Prop} : (∃ v, atI [a, b, c, d, e] 2 = some v ∧ R v) ↔ R c := ⟨fun ⟨_, e, h⟩ => by cases e; exact h, fun h => ⟨_, rfl, h⟩⟩
theorem exIx52 {a b c d e : D} {R : Nat → Prop} : (∃ j, ixN [a, b, c, d, e].length 2 = some j ∧ R j) ↔ R 2 := ⟨fun ⟨_, e, h⟩ => by cases e; exact h, fun h => ⟨_, rfl, h⟩⟩
theorem exAt53 {a b c d e : D} {R : D → Prop} : (∃ v, atI [a, b, c, d, e] 3 = some v ∧ R v) ↔ R d := ⟨fun ⟨_, e, h⟩ => by cases e; exact h, fun h => ⟨_, rfl, h⟩⟩
theorem exIx53 {a b c d e : D} {R : Nat → Prop} : (∃ j, ixN [a, b, c, d, e].length 3 = some j ∧ R j) ↔ R 3 := ⟨fun ⟨_, e, h⟩ => by cases e; exact h, fun h => ⟨_, rfl, h⟩⟩
theorem exAt54 {a b c d e : D} {R : D → Prop} : (∃ v, atI [a, b, c, d, e] 4 = some v ∧ R v) ↔ R e := ⟨fun ⟨_, e, h⟩ => by cases e; exact h, fun h => ⟨_, rfl, h⟩⟩
theorem exIx54 {a b c d e : D} {R : Nat → Prop} : (∃ j, ixN [a, b, c, d, e].length 4 = some j ∧ R j) ↔ R 4 := ⟨fun ⟨_, e, h⟩ => by cases e; exact h, fun h => ⟨_, rfl, h⟩⟩
theorem exAt60 {a b c d e f : D} {R : D → Prop} : (∃ v, atI [a, b, c, d, e, f] 0 = some v ∧ R v) ↔ R a := ⟨fun ⟨_, e, h⟩ => by cases e; exact h, fun h => ⟨_, rfl, h⟩⟩
theorem exIx60 {a b c d e f : D} {R : Nat → Prop} : (∃ j, ixN [a, b, c, d, e, f].length 0 = some j ∧ R j) ↔ R 0 := ⟨fun ⟨_, e, h⟩ => by cases e; exact h, fun h => ⟨_, rfl, h⟩⟩
theorem exAt61 {a b c d e f : D} {R : D → Prop} : (∃ v, atI [a, b, c, d, e, f] 1 = some v ∧ R v) ↔ R b := ⟨fun ⟨_, e, h⟩ => by cases e; exact h, fun h => ⟨_, rfl, h⟩⟩
theorem exIx61 {a b c d e f : D} {R : Nat → Prop} : (∃ j, ixN [a, b, c, d, e, f].length 1 = some j ∧ R j) ↔ R 1 := ⟨fun ⟨_, e, h⟩ => by cases e; exact h, fun h => ⟨_, rfl, h⟩⟩
theorem exAt62 {a b c d e f : D} {R : D → Prop} : (∃ v, atI [a, b, c, d, e, f] 2 = some v ∧ R v) ↔ R c := ⟨fun ⟨_, e, h⟩ => by cases e; exact h, fun h => ⟨_, rfl, h⟩⟩
theorem exIx62 {a b c d e f : D} {R : Nat → Prop} : (∃ j, ixN [a, b, c, d, e, f].length 2 = some j ∧ R j) ↔ R 2 := ⟨fun ⟨_, e, h⟩ => by cases e; exact h, fun h => ⟨_, rfl, h⟩⟩
theorem exAt63 {a b c d e f : D} {R : D → Prop} : (∃ v, atI [a, b, c, d, e, f] 3 = some v ∧ R v) ↔ R d := ⟨fun ⟨_, e, h⟩ => by cases e; exact h, fun h => ⟨_, rfl, h⟩⟩
theorem exIx63 {a b c d e f : D} {R : Nat → Prop} : (∃ j, ixN [a, b, c, d, e, f].length 3 = some j ∧ R j) ↔ R 3 := ⟨fun ⟨_, e, h⟩ => by cases e; exact h, fun h => ⟨_, rfl, h⟩⟩
theorem exAt64 {a b c d e f : D} {R : D → Prop} : (∃ v, atI [a, b, c, d, e, f] 4 = some v ∧ R v) ↔ R e := ⟨fun ⟨_, e, h⟩ => by cases e; exact h, fun h => ⟨_, rfl, h⟩⟩
theorem exIx64 {a b c d e f : D} {R : Nat → Prop} : (∃ j, ixN [a, b, c, d, e, f].length 4 = some j ∧ R j) ↔ R 4 := ⟨fun ⟨_, e, h⟩ => by cases e; exact h, fun h => ⟨_, rfl, h⟩⟩
theorem exAt65 {a b c d e f : D} {R : D → Prop} : (∃ v, atI [a, b, c, d, e, f] 5 = some v ∧ R v) ↔ R f := ⟨fun ⟨_, e, h⟩ => by cases e; exact h, fun h => ⟨_, rfl, h⟩⟩
theorem exIx65 {a b c d e f : D} {R : Nat → Prop} : (∃ j, ixN [a, b, c, d, e, f].length 5 = some j ∧ R j) ↔ R 5 := ⟨fun ⟨_, e, h⟩ => by cases e; exact h, fun h => ⟨_, rfl, h⟩⟩
end
/-! ### dicts, reckoned -/
theorem valD_nil {κ : Type} [DecidableEq κ] (k : κ) : valD ([] : List (κ × D)) k = none := rfl
theorem valD_cons {κ : Type} [DecidableEq κ] (a : κ × D) (l : List (κ × D)) (k : κ) : valD (a :: l) k = if a.1 = k then some a.2 else valD l k := by
  unfold valD
  rw [List.find?_cons]
  by_cases h : a.1 = k
  · simp [h]
  · simp [h]
theorem valD_none {κ : Type} [DecidableEq κ] : ∀ (l : List (κ × D)) (k : κ), (l.any fun kv => decide (kv.1 = k)) = false → valD l k = none
  | [], _, _ => rfl
  | a :: l, k, h => by
    rw [List.any_cons, Bool.or_eq_false_iff] at h
    rw [valD_cons, if_neg (of_decide_eq_false h.1)]
    exact valD_none l k h.2
theorem valD_app {κ : Type} [DecidableEq κ] : ∀ (l m : List (κ × D)) (k : κ), valD (l ++ m) k = (valD l k).or (valD m k)
  | [], m, k => by simp [valD_nil]
  | a :: l, m, k => by
    rw [List.cons_append, valD_cons, valD_cons, valD_app l m k]
    split <;> simp
theorem valD_map_ne {κ : Type} [DecidableEq κ] (k j : κ) (v : D) (h : ¬ j = k) : ∀ l : List (κ × D), valD (l.map fun kv => if kv.1 = k then (kv.1, v) else kv) j = valD l j
  | [] => rfl
  | b :: l => by
    rw [List.map_cons, valD_cons, valD_cons, valD_map_ne k j v h l]
    by_cases hb : b.1 = k
    · have : ¬ b.1 = j := fun z => h (z.symm.trans hb)
      rw [if_pos hb, if_neg this, if_neg this]
    · rw [if_neg hb]
theorem valD_map_eq {κ : Type} [DecidableEq κ] (k : κ) (v : D) : ∀ l : List (κ × D), (l.any fun kv => decide (kv.1 = k)) = true → valD (l.map fun kv => if kv.1 = k then (kv.1, v) else kv) k = some v
  | [], h => by simp at h
  | b :: l, h => by
    rw [List.map_cons, valD_cons]
    by_cases hb : b.1 = k
    · rw [if_pos hb, if_pos hb]
    · rw [if_neg hb, if_neg hb]
      exact valD_map_eq k v l (by simpa [hb] using h)
theorem valD_put {κ : Type} [DecidableEq κ] (l : List (κ × D)) (k j : κ) (v : D) : valD (putKD l k v) j = if j = k then some v else valD l j := by
  unfold putKD
  by_cases h : (l.any fun kv => decide (kv.1 = k)) = true
  · rw [if_pos h]
    by_cases hj : j = k
    · subst hj
      rw [if_pos rfl, valD_map_eq j v l h]
    · rw [if_neg hj, valD_map_ne k j v hj]
  · rw [if_neg h, valD_app, valD_cons, valD_nil]
    by_cases hj : j = k
    · subst hj
      rw [valD_none l j (Bool.eq_false_iff.mpr h)]
      simp
    · have : ¬ k = j := fun z => hj z.symm
      simp [hj, this]
theorem valD_fold {α κ : Type} [DecidableEq κ] (kf : α → κ) (g : α → D) : ∀ (xs : List α) (acc : List (κ × D)) (k : κ), (valD (xs.foldl (fun acc a => putKD acc (kf a) (g a)) acc) k).isSome = true ↔ (∃ x ∈ xs, kf x = k) ∨ (valD acc k).isSome = true
  | [], acc, k => by simp
  | a :: xs, acc, k => by
    rw [List.foldl_cons, valD_fold kf g xs, valD_put]
    by_cases h : k = kf a
    · subst h; simp
    · have h' : ¬ kf a = k := fun z => h z.symm
      simp [h, h']
/-! ### plans as data -/
def nD (n : Nat) : D := .int n
def rwD (r : List Nat) : D := .tup (r.map nD)
def plD (p : List (List Nat)) : D := .tup (p.map rwD)
theorem exGetM {α : Type} {f : α → D} {ys : List α} {i : Nat} {R : D → Prop} : (∃ v, (ys.map f)[i]? = some v ∧ R v) ↔ ∃ a, ys[i]? = some a ∧ R (f a) := by
  rw [List.getElem?_map]
  constructor
  · rintro ⟨v, e, h⟩
    obtain ⟨a, ha, rfl⟩ := Option.map_eq_some_iff.mp e
    exact ⟨a, ha, h⟩
  · rintro ⟨a, e, h⟩
    exact ⟨f a, by rw [e]; rfl, h⟩
theorem sumN (xs : List Nat) : (xs.map fun n : Nat => (n : Int)).sum = ((xs.sum : Nat) : Int) := by
  induction xs with
  | nil => rfl
  | cons x xs ih => simp [ih]
theorem nD_ints (xs : List Nat) : (xs.map fun n : Nat => (n : Int)).map D.int = xs.map nD := by
  rw [List.map_map]
  rfl
theorem nD_inv : ∀ {ns : List Int} {xs : List Nat}, ns.map D.int = xs.map nD → ns = xs.map fun n : Nat => (n : Int)
  | [], [], _ => rfl
  | [], _ :: _, h => by simp at h
  | _ :: _, [], h => by simp at h
  | n :: ns, x :: xs, h => by
    rw [List.map_cons, List.map_cons, List.cons.injEq] at h
    have h1 : n = (x : Int) := D.int.inj h.1
    rw [List.map_cons, nD_inv h.2, h1]
theorem exSumU {M : Hd} {p : Addr} {xs : List Nat} {R : List Int → Prop} : (∃ ns : List Int, LS (up M p (.lst (xs.map nD))) p (ns.map D.int) ∧ R ns) ↔ R (xs.map fun n : Nat => (n : Int)) := by
  constructor
  · rintro ⟨ns, a, b⟩
    rw [← nD_inv (LS_up.mp a)]
    exact b
  · exact fun h => ⟨_, by rw [nD_ints]; exact LS_up.mpr rfl, h⟩
theorem exSumH {M : Hd} {p : Addr} {xs : List Nat} (h : M p = some (.lst (xs.map nD))) {R : List Int → Prop} : (∃ ns : List Int, LS M p (ns.map D.int) ∧ R ns) ↔ R (xs.map fun n : Nat => (n : Int)) := by
  constructor
  · rintro ⟨ns, a, b⟩
    rw [← nD_inv ((ls_lst h).mp a)]
    exact b
  · exact fun z => ⟨_, by rw [nD_ints]; exact (ls_lst h).mpr rfl, z⟩
theorem down0 (n : Nat) : downD ((n : Int) - 1) (-1) = ((List.range n).reverse).map nD := by
  unfold downD
  have : ((n : Int) - 1 - -1).toNat = n := by omega
  rw [this]
  refine List.ext_getElem (by simp) fun i h1 h2 => ?_
  have hi : i < n := by simpa using h1
  simp only [List.getElem_map, List.getElem_range, List.getElem_reverse, List.length_range]
  show D.int _ = D.int _
  congr 1
  omega
theorem rng0 (n : Nat) : rngD 0 n = (List.range n).map nD := by
  unfold rngD
  have : ((n : Int) - 0).toNat = n := by omega
  rw [this]
  refine List.map_congr_left fun i _ => ?_
  show D.int (0 + (i : Int)) = D.int i
  rw [Int.zero_add]
theorem enum_map {α : Type} (f : α → D) (xs : List α) : enumD (xs.map f) = xs.zipIdx.map fun p => .tup [nD p.2, f p.1] := by
  unfold enumD
  rw [List.zipIdx_map, List.map_map]
  rfl
theorem snb {M : Hd} {p : Addr} {o : O} {Q : Hd → Prop} (h : M p = none) (b : Q M) (ho : ∀ c, o ≠ .own c := by intro _ z; cases z) : ∃ M2, Sub (up M p o) M2 ∧ Q M2 := ⟨M, Sub.new h ho, b⟩
theorem snb2 {M : Hd} {p q : Addr} {o u : O} {Q : Hd → Prop} (h : M p = none) (h2 : up M p o q = none) (b : Q M) (ho : ∀ c, o ≠ .own c := by intro _ z; cases z) (hu : ∀ c, u ≠ .own c := by intro _ z; cases z) : ∃ M2, Sub (up (up M p o) q u) M2 ∧ Q M2 := ⟨M, (Sub.new h2 hu).trans (Sub.new h ho), b⟩
theorem Sub.dn {K : PySem.W.Frag} {M M' : Hd} (a : Sub M M') {Q : Hd → Prop} (b : Q M') : ∃ M2, Fgt K M M2 ∧ Q M2 := ⟨M', a.fgt, b⟩
theorem dn0 {K : PySem.W.Frag} {M : Hd} {Q : Hd → Prop} (b : Q M) : ∃ M2, Fgt K M M2 ∧ Q M2 := ⟨M, Fgt.refl, b⟩
theorem sb0 {M : Hd} {Q : Hd → Prop} (b : Q M) : ∃ M2, Sub M M2 ∧ Q M2 := ⟨M, Sub.refl, b⟩
end T3
namespace T3
open PySem PySem.Spec PyProof.Rows L2
theorem drawn {k : Nat} {x : Int} (hk : 0 < k) : ∃ v, v < k ∧ D.int (x % (k : Int)) = nD v := by
  have h0 : 0 ≤ x % (k : Int) := Int.emod_nonneg _ (by omega)
  have h1 : x % (k : Int) < k := Int.emod_lt_of_pos _ (by omega)
  refine ⟨(x % (k : Int)).toNat, by omega, ?_⟩
  show D.int _ = D.int _
  rw [Int.toNat_of_nonneg h0]
theorem cm_l {i j : Int} (h0 : -(18446744073709551616) < i) (h1 : i < 18446744073709551616) : CMul i j := .inl ⟨h0, h1⟩
theorem cm_r {i j : Int} (h0 : -(18446744073709551616) < j) (h1 : j < 18446744073709551616) : CMul i j := .inr ⟨h0, h1⟩
theorem cd_k {i : Int} {k : Nat} (h : 0 < k) (h2 : k < 1073741824) : CDiv i k := ⟨by omega, by omega⟩
/-! ### what is drawn from: a list of numbers, or a list that holds one and numbers, hidden -/
def FlatI (p : Addr) (G : List Int → Prop) : Hp → Prop := fun H => ∃ ns, G ns ∧ H p = some (.lst (ns.map V.int))
def PairI (p r : Addr) (G : List Int → List Int → Prop) : Hp → Prop := fun H => ∃ ns ms, G ns ms ∧ H r = some (.lst (ns.map V.int)) ∧ H p = some (.lst (.ref r :: ms.map V.int))
def Flat (G : List Int → Prop) (M : Hd) (p : Addr) : Prop := M p = some (.ext (FlatI p G) [])
def Duo (G : List Int → List Int → Prop) (M : Hd) (p : Addr) : Prop := ∃ r, M p = some (.ext (PairI p r G) [r]) ∧ M r = some (.own p)
theorem Rs.ints' {K : PySem.W.Frag} {H : Hp} {ns : List Int} : Rs K H (ns.map D.int) (ns.map V.int) := Rs.of_ints ns
section
variable {K : PySem.W.Frag} {H : Hp} {M : Hd} {p r : Addr}
theorem flat_open {G : List Int → Prop} (rep : Rep K H M) (h : Flat G M p) : ∃ ns, G ns ∧ Rep K H (up M p (.lst (ns.map D.int))) := by
  obtain ⟨⟨ns, g, e⟩, _⟩ := rep p _ h
  refine ⟨ns, g, fun a o q => ?_⟩
  by_cases ha : a = p
  · subst ha
    rw [up_same] at q; cases q
    exact ⟨_, e, Rs.of_ints ns⟩
  · rw [up_ne ha] at q
    refine (rep a o q).stay Tx.refl (fun _ _ _ z => z) fun b c hb => ?_
    have : b ≠ p := by rintro rfl; rw [h] at hb; cases hb
    rw [up_ne this]; exact hb
theorem flat_close {G : List Int → Prop} {ns : List Int} (h : Flat G M p) (g : G ns) : Fgt K (up M p (.lst (ns.map D.int))) M := by
  refine ⟨fun H rep a o q => ?_, fun a e => ?_⟩
  · by_cases ha : a = p
    · subst ha
      have h' : M a = _ := h
      rw [h'] at q; cases q
      obtain ⟨vs, e, rs⟩ := rep a _ up_same
      have := rs.ints
      subst this
      exact ⟨⟨ns, g, e⟩, ⟨_, e, trivial⟩, fun b hb => by simp at hb, fun H2 _ hk => ⟨ns, g, hk a _ (.inl rfl) e⟩⟩
    · have q' : up M p (.lst (ns.map D.int)) a = some o := by rw [up_ne ha]; exact q
      refine (rep a o q').stay Tx.refl (fun _ _ _ z => z) fun b c hb => ?_
      by_cases hb' : b = p
      · subst hb'; rw [up_same] at hb; cases hb
      · rw [up_ne hb'] at hb; exact hb
  · by_cases ha : a = p
    · subst ha; rw [up_same] at e; cases e
    · rw [up_ne ha] at e; exact e
/-- a new one, hidden at once -/
theorem flat_new {G : List Int → Prop} {ns : List Int} (g : G ns) : Fgt K (up M p (.lst (ns.map D.int))) (up M p (.ext (FlatI p G) [])) := by
  have := flat_close (K := K) (M := up M p (.ext (FlatI p G) [])) (p := p) (G := G) (ns := ns) up_same g
  rwa [up_up] at this
theorem duo_open {G : List Int → List Int → Prop} (rep : Rep K H M) (h : Duo G M p) : ∃ r ns ms, r ≠ p ∧ M r = some (.own p) ∧ M p = some (.ext (PairI p r G) [r]) ∧ G ns ms ∧ Rep K H (up (up M r (.lst (ns.map D.int))) p (.lst (.ref r :: ms.map D.int))) := by
  obtain ⟨r, h1, h2⟩ := h
  obtain ⟨⟨ns, ms, g, e1, e2⟩, _⟩ := rep p _ h1
  have ne : r ≠ p := by rintro rfl; rw [h1] at h2; cases h2
  refine ⟨r, ns, ms, ne, h2, h1, g, fun a o q => ?_⟩
  by_cases ha : a = p
  · subst ha
    rw [up_same] at q; cases q
    exact ⟨_, e2, .cons R.ref' (Rs.of_ints ms)⟩
  · rw [up_ne ha] at q
    by_cases hr : a = r
    · subst hr
      rw [up_same] at q; cases q
      exact ⟨_, e1, Rs.of_ints ns⟩
    · rw [up_ne hr] at q
      cases o with
      | ext I own =>
        obtain ⟨i1, i2, i3, i4⟩ := rep a _ q
        refine ⟨i1, i2, fun b hb => ?_, i4⟩
        have mb := i3 b hb
        have n1 : b ≠ p := by rintro rfl; rw [h1] at mb; cases mb
        have n2 : b ≠ r := by
          rintro rfl
          rw [h2] at mb
          cases mb
          exact ha rfl
        rw [up_ne n1, up_ne n2]
        exact mb
      | lst xs => exact rep a _ q
      | fz xs => exact rep a _ q
      | dK xs => exact rep a _ q
      | dKz xs => exact rep a _ q
      | dT xs => exact rep a _ q
      | own c => exact rep a _ q
theorem duo_close {G : List Int → List Int → Prop} {ns ms : List Int} (h1 : M p = some (.ext (PairI p r G) [r])) (h2 : M r = some (.own p)) (g : G ns ms) : Fgt K (up (up M r (.lst (ns.map D.int))) p (.lst (.ref r :: ms.map D.int))) M := by
  have ne : r ≠ p := by rintro rfl; rw [h1] at h2; cases h2
  refine ⟨fun H rep a o q => ?_, fun a e => ?_⟩
  · obtain ⟨vs, e1, rs1⟩ := rep p _ up_same
    obtain ⟨us, e2, rs2⟩ := rep r (.lst (ns.map D.int)) (by rw [up_ne ne, up_same])
    have := rs2.ints
    subst this
    obtain ⟨v, ws, rfl, rv, rs⟩ := rs1.ucons
    have := rs.ints
    subst this
    rw [rv.ref_] at e1
    by_cases ha : a = p
    · subst ha
      rw [h1] at q; cases q
      refine ⟨⟨ns, ms, g, e2, e1⟩, ⟨_, e1, trivial⟩, fun b hb => ?_, fun H2 _ hk => ⟨ns, ms, g, hk r _ (.inr (by simp)) e2, hk a _ (.inl rfl) e1⟩⟩
      have : b = r := by simpa using hb
      rw [this]; exact h2
    · by_cases hr : a = r
      · subst hr
        rw [h2] at q; cases q
        exact ⟨_, e2, trivial⟩
      · have q' : up (up M r (.lst (ns.map D.int))) p (.lst (.ref r :: ms.map D.int)) a = some o := by rw [up_ne ha, up_ne hr]; exact q
        refine (rep a o q').stay Tx.refl (fun _ _ _ z => z) fun b c hb => ?_
        by_cases n1 : b = p
        · subst n1; rw [up_same] at hb; cases hb
        · rw [up_ne n1] at hb
          by_cases n2 : b = r
          · subst n2; rw [up_same] at hb; cases hb
          · rw [up_ne n2] at hb; exact hb
  · by_cases ha : a = p
    · subst ha; rw [up_same] at e; cases e
    · rw [up_ne ha] at e
      by_cases hr : a = r
      · subst hr; rw [up_same] at e; cases e
      · rw [up_ne hr] at e; exact e
/-- a new one, hidden at once -/
theorem duo_new {G : List Int → List Int → Prop} {ns ms : List Int} (ne : r ≠ p) (g : G ns ms) : Fgt K (up (up M r (.lst (ns.map D.int))) p (.lst (.ref r :: ms.map D.int))) (up (up M r (.own p)) p (.ext (PairI p r G) [r])) := by
  have := duo_close (K := K) (M := up (up M r (.own p)) p (.ext (PairI p r G) [r])) (p := p) (r := r) (G := G) (ns := ns) (ms := ms) up_same (by rw [up_ne ne, up_same]) g
  rw [up_comm (M := up M r (.own p)) (fun z => ne z.symm), up_up] at this
  rwa [up_up] at this
end
end T3
namespace T3
open PySem PySem.Spec PyProof.Rows L2
section
variable {X : Cx} {B : Am} {e : Expr} {de : DE} {k : Nat} {p1 p2 p3 pos : Pos}
def dRevs (de : DE) : DE := fun δ M Q => de δ M fun x M1 => ∃ p, x = .ref p ∧ ∃ xs, LS M1 p xs ∧ ∀ q, M1 q = none → Q (.ref q) (up M1 q (.lst xs.reverse))
theorem e_revs (he : PE3 X B e de) : PE3 X B (.Subscript e (.Slice none none (some (.UnaryOp .USub (.Constant (.int 1) k p1) p2)) p3) pos) (dRevs de) := by
  obtain ⟨t, h1, h2⟩ := he.ex
  refine ⟨_, pe_revL h1, fun σ H δ M Q Qd sl rep bb h q => h2 σ H δ M _ _ sl rep bb h fun v H1 x M1 g rep1 r ⟨p, ex, xs, l, h⟩ => ?_⟩
  subst ex
  obtain ⟨vs, s, rs⟩ := rep1.ls l
  refine ⟨p, vs, r.ref_, s, fun a hp => ?_⟩
  obtain ⟨g', rep'⟩ := rep1.newL hp rs.rev
  exact q _ _ _ _ (g.trans g') rep' R.ref' (h a (rep1.free hp))
end
/-! ### what stands, behind new things -/
def Is (M : Hd) (a : Addr) : Prop := M a ≠ none
theorem Is.of {M : Hd} {a : Addr} {o : O} (h : M a = some o) : Is M a := by unfold Is; rw [h]; simp
section
variable {M : Hd} {a q : Addr} {o : O}
theorem is_up (h : Is M a) : Is (up M q o) a := by
  unfold Is up
  split
  · simp
  · exact h
theorem is_ne (h : Is M a) (hq : M q = none) : a ≠ q := by rintro rfl; exact h hq
theorem get_c (h : Is M a) (hq : M q = none) : up M q o a = M a := up_ne (is_ne h hq)
theorem dIxRc (h : Is M a) (hq : M q = none) {y : D} {Q : D → Prop} : dIxR a y (up M q o) Q ↔ dIxR a y M Q := dIxRn (is_ne h hq)
theorem exLSc (h : Is M a) (hq : M q = none) {R : List D → Prop} : (∃ xs, LS (up M q o) a xs ∧ R xs) ↔ ∃ xs, LS M a xs ∧ R xs := exLSn (is_ne h hq)
theorem exDKc (h : Is M a) (hq : M q = none) {R : List (Key × D) → Prop} : (∃ xs, DK_ (up M q o) a xs ∧ R xs) ↔ ∃ xs, DK_ M a xs ∧ R xs := exDKn (is_ne h hq)
theorem exLc (h : Is M a) (hq : M q = none) {R : List D → Prop} : (∃ xs, up M q o a = some (.lst xs) ∧ R xs) ↔ ∃ xs, M a = some (.lst xs) ∧ R xs := exLn (is_ne h hq)
theorem exSumC (h : Is M a) (hq : M q = none) {R : List Int → Prop} : (∃ ns : List Int, LS (up M q o) a (ns.map D.int) ∧ R ns) ↔ ∃ ns : List Int, LS M a (ns.map D.int) ∧ R ns := by
  constructor <;> rintro ⟨xs, x, y⟩
  · exact ⟨xs, (LS_ne (is_ne h hq)).mp x, y⟩
  · exact ⟨xs, (LS_ne (is_ne h hq)).mpr x, y⟩
end
end T3
/-! t[::-1] of a tuple -/
namespace HT
open PySem PyProof.Rows
section
open PySem.SeqAt
open PySem.AutoSeq1 (wpAny_loadPart')
open PySem.MeetsSeq PySem.MeetsSeq2 PySem.MeetsSeq3
variable {prog : Program} {w : World} {A : Around} {E : Value → Shared → Prop} {s : Shared}
theorem sliceApplied_rev {sl : Addr} {vs : Value} {n : Nat} {Q : Int × Int × Nat → Shared → Prop} (hs : s.heap.IsSliceOf sl .none .none vs) (ps : IsPart vs (some (-1)))
    (h : Q ((n : Int) - 1, -1, n) s) : wpAny (model prog w) A (Builtin.Slice.sliceApplied (.ref sl) (pure (n : Int))) Q E s := by
  obtain ⟨os, hos, hcs, hds⟩ := id hs
  unfold Builtin.Slice.sliceApplied Builtin.Slice.sliceFields
  refine wpAny_bind (wpAny_bind (wpAny_field hos hds (x := .none) rfl (wpAny_bind (wpAny_field hos hds (x := .none) rfl (wpAny_bind (wpAny_field hos hds (x := vs) rfl (wpAny_pure ?_)))))))
  refine wpAny_bind (slicePart_ ps ?_)
  show wpAny _ _ (if ((-1 : Int) == 0) = true then _ else _) _ _ s
  rw [if_neg (by decide)]
  refine wpAny_bind (slicePart_none (wpAny_bind (slicePart_none (wpAny_bind (wpAny_pure ?_)))))
  have e : Builtin.Slice.slicePlaces ((n : Int) - 1) (-1) (-1) = n := by
    unfold Builtin.Slice.slicePlaces
    have h1 : ¬ ((-1 : Int) > 0) := by omega
    simp only [h1, if_false, Int.neg_neg, Int.ediv_one]
    split <;> omega
  show wpAny _ _ (pure ((n : Int) - 1, (-1 : Int), Builtin.Slice.slicePlaces ((n : Int) - 1) (-1) (-1))) _ _ s
  rw [e]
  exact wpAny_pure h
theorem pick_rev (xs : Array Value) : ((List.range xs.size).filterMap fun (m : Nat) => xs[((xs.size : Int) - 1 + (m : Int) * (-1)).toNat]?).toArray = xs.toList.reverse.toArray := by
  have e : (fun (m : Nat) => xs[((xs.size : Int) - 1 + (m : Int) * (-1)).toNat]?) = (xs[·]?) ∘ fun m => xs.size - 1 - m := by
    funext m
    show _ = xs[xs.size - 1 - m]?
    have : ((xs.size : Int) - 1 + (m : Int) * (-1)).toNat = xs.size - 1 - m := by omega
    rw [this]
  rw [e, ← List.filterMap_map, PySem.W.krv_range, List.filterMap_reverse, PySem.W.krv_all]
theorem getItem_tuple_rev {t sl : Addr} {items : Array Value} {vs : Value} {Q : Value → Shared → Prop} (ht : IsTup s.heap t items) (hs : s.heap.IsSliceOf sl .none .none vs) (ps : IsPart vs (some (-1)))
    (h : Q (.ref s.heap.objs.size) { s with heap := s.heap.push { cls := .type "tuple", data := .seq items.toList.reverse.toArray } })
    (hsz : items.size ≤ sizeLine) : wpAny (model prog w) A (getItem (.ref t) (.ref sl)) Q E s := by
  have htake : sizeOk (.seq items.toList.reverse.toArray) := by
    show items.toList.reverse.toArray.size ≤ sizeLine
    rw [List.size_toArray, List.length_reverse, Array.length_toList]
    exact hsz
  obtain ⟨os, hos, hcs, hds⟩ := id hs
  have hTs : s.TypeIs (.ref sl) "slice" := ⟨os, hos, hcs⟩
  unfold getItem
  try with_reducible refine wpAny_holding ?_
  first | refine wpAny_bind (wpAny_pure ?_) | skip
  refine wpAny_bind (wpAny_sequenceKey ht.typeIs (by decide) ?_)
  refine wpAny_bind (wpAny_callSpecial?_slot (name := Str.ofString "__getitem__") ht.typeIs PyProof.Rows.slot_tuple_getitem
    (wpAny_call_entry PyProof.Rows.slot_tuple_getitem ht.typeIs entry_tuple_getitem ?_ (args_tuple_getitem _ _)))
  show wpAny _ _ (Builtin.Tuple.tupleItemsOf (.ref t) >>= _) _ _ s
  refine wpAny_bind (tupleItemsOf_ ht ?_)
  refine wpAny_bind (wpAny_typeOf hTs ?_)
  rw [if_pos (by decide)]
  refine wpAny_bind (sliceApplied_rev hs ps ?_)
  have hno : ¬ ((((items.size : Int) - 1 == 0) && (-1 : Int) == 1 && items.size == items.size) = true) := by
    intro q
    rw [Bool.and_eq_true, Bool.and_eq_true] at q
    exact absurd q.1.2 (by decide)
  show wpAny _ _ (if (((items.size : Int) - 1 == 0) && (-1 : Int) == 1 && items.size == items.size) = true then _ else _) _ _ s
  rw [if_neg hno, pick_rev]
  first
    | exact wpAny_bind (m := Builtin.Tuple.tupleExact _) (wpAny_newObj_type (wpAny_pure ⟨_, rfl, wpAny_pure h⟩) htake)
    | exact wpAny_bind (m := Builtin.Tuple.tupleExact _) (wpAny_newObj_type (wpAny_bind (wpAny_pure (wpAny_pure ⟨_, rfl, wpAny_pure h⟩))) htake)
    | exact wpAny_bind (wpAny_bind (m := Builtin.Tuple.tupleExact _) (wpAny_newObj_type (wpAny_pure (wpAny_pure ⟨_, rfl, wpAny_pure h⟩)) htake))
    | exact wpAny_bind (wpAny_bind (m := Builtin.Tuple.tupleExact _) (wpAny_newObj_type (wpAny_pure ⟨_, rfl, wpAny_pure h⟩) htake))
end
end HT
namespace L2
open PySem PySem.Spec PyProof.Rows
section
variable {X : Cx}
def tRevA (K : PySem.W.Frag) (te : TE) : TE := fun σ H Q => te σ H fun x H1 =>
  (∃ a xs, x = .ref a ∧ SqL K H1 a xs ∧ ∀ p, H1 p = none → Q (.ref p) (upd H1 p (.lst xs.reverse))) ∨
  (∃ a xs, x = .ref a ∧ SqT K H1 a xs ∧ ∀ p, H1 p = none → Q (.ref p) (upd H1 p (.tup xs.reverse)))
theorem pe_revA {e : Expr} {te : TE} {k : Nat} {p1 p2 p3 pos : Pos} (he : PE X e te) : PE X (.Subscript e (.Slice none none (some (.UnaryOp .USub (.Constant (.int 1) k p1) p2)) p3) pos) (tRevA X.K te) := by
  refine ⟨fun pins s σ H Q I h => ?_⟩
  refine Subscript_ (thn (he.run pins s σ H _ I h) fun v s1 ⟨x, H1, I1, r1, q1⟩ => ?_)
  have hst : PO X (some (.UnaryOp .USub (.Constant (.int 1) k p1) p2)) (tPart (tUn (rU fun i => .int (-i)) (tC (.int 1)))) := po_some (pe_un un_neg pe_int)
  refine wpAny_Slice (thn (po_none.run pins s1 σ H1 (fun o H2 => o = none ∧ H2 = H1) I1 ⟨rfl, rfl⟩) fun vl s2 ⟨l, H2, I2, pl, el, e2⟩ => ?_)
  subst el e2
  refine thn (po_none.run pins s2 σ H2 (fun o H3 => o = none ∧ H3 = H2) I2 ⟨rfl, rfl⟩) fun vu s3 ⟨u, H3, I3, pu, eu, e3⟩ => ?_
  subst eu e3
  refine thn (hst.run pins s3 σ H3 (fun o H4 => o = some (-1) ∧ H4 = H3) I3 ⟨1, rfl, -1, rfl, rfl, rfl⟩) fun vs s4 ⟨o, H4, I4, ps, eo, e4⟩ => ?_
  subst eo e4
  have I5 : Inv X pins σ H4 { s4 with heap := s4.heap.push { cls := .type "slice", data := .fields #[vl, vu, vs] } } := I4.kept (t' := s4.toks) fun b ob q => Heap.get?_push_of_some _ q
  rcases q1 with ⟨a, xs, ex, hx, q⟩ | ⟨a, xs, ex, hx, q⟩
  · subst ex
    cases r1
    obtain ⟨its, r, ht, hz⟩ := I5.list hx
    have hlen := r.length
    show wpAny (model X.prog X.w) X.A (subscriptTail e (.Slice none none (some (.UnaryOp .USub (.Constant (.int 1) k p1) p2)) p3) (.ref a) (.ref s4.heap.objs.size)) (EP X pins σ Q) X.xe { s4 with heap := s4.heap.push { cls := .type "slice", data := .fields #[vl, vu, vs] } }
    refine tail_any (ops := [.ref a, .ref s4.heap.objs.size]) ht.isList.typeIs (PySem.slot_list_getitem.lookup) ?_ (by with_unfolding_all rfl)
    refine wpAny_getItem_list_slice ht.isList (Heap.IsSliceOf.new _ vl vu vs) pl pu ps (by decide) ?_ (by rw [List.size_toArray]; omega)
    rw [PySem.W.krv_pick]
    refine ⟨.ref _, _, I5.laid (t' := s4.toks) (o := .lst xs.reverse) (fun b ob q => Heap.get?_push_of_some _ q) (Nat.le_refl _) ?_, rfl, q _ (I5.hok.fresh (Nat.le_refl _))⟩
    exact ⟨by rw [List.length_reverse]; exact hz, _, 0, r.reverse, Heap.get?_push_size _ rfl⟩
  · subst ex
    cases r1
    cases pl
    cases pu
    obtain ⟨its, r, ht, hz⟩ := I5.tuple hx
    have hlen := r.length
    show wpAny (model X.prog X.w) X.A (subscriptTail e (.Slice none none (some (.UnaryOp .USub (.Constant (.int 1) k p1) p2)) p3) (.ref a) (.ref s4.heap.objs.size)) (EP X pins σ Q) X.xe { s4 with heap := s4.heap.push { cls := .type "slice", data := .fields #[.none, .none, vs] } }
    refine tail_any (ops := [.ref a, .ref s4.heap.objs.size]) ht.typeIs (PyProof.Rows.slot_tuple_getitem.lookup) ?_ (by with_unfolding_all rfl)
    refine HT.getItem_tuple_rev ht (Heap.IsSliceOf.new _ .none .none vs) ps ?_ (by rw [List.size_toArray]; omega)
    refine ⟨.ref _, _, I5.laid (t' := s4.toks) (o := .tup xs.reverse) (fun b ob q => Heap.get?_push_of_some _ q) (Nat.le_refl _) ?_, rfl, q _ (I5.hok.fresh (Nat.le_refl _))⟩
    exact ⟨by rw [List.length_reverse]; exact hz, _, r.reverse, IsTup.new _ _⟩
end
end L2
namespace T3
open PySem PySem.Spec PyProof.Rows L2
section
variable {X : Cx} {B : Am} {e : Expr} {de : DE} {k : Nat} {p1 p2 p3 pos : Pos}
def dRevD : D → Hd → DK → Prop := fun x M Q => match x with
  | .tup xs => Q (.tup xs.reverse) M
  | .ref p => ∃ xs, LS M p xs ∧ ∀ q, M q = none → Q (.ref q) (up M q (.lst xs.reverse))
  | _ => False
def dRevA (de : DE) : DE := fun δ M Q => de δ M fun x M1 => dRevD x M1 Q
theorem e_revA (he : PE3 X B e de) : PE3 X B (.Subscript e (.Slice none none (some (.UnaryOp .USub (.Constant (.int 1) k p1) p2)) p3) pos) (dRevA de) := by
  obtain ⟨t, h1, h2⟩ := he.ex
  refine ⟨_, pe_revA h1, fun σ H δ M Q Qd sl rep bb h q => h2 σ H δ M _ _ sl rep bb h fun v H1 x M1 g rep1 r h => ?_⟩
  cases x with
  | tup xs =>
    obtain ⟨a, vs, rfl, s, rs⟩ := r.untup
    refine .inr ⟨a, vs, rfl, SqT.of s, fun p hp => ?_⟩
    obtain ⟨g', rep', r'⟩ := rep1.newT hp rs.rev
    exact q _ _ _ _ (g.trans g') rep' r' h
  | ref p =>
    obtain ⟨xs, l, h⟩ := h
    obtain ⟨vs, s, rs⟩ := rep1.ls l
    refine .inl ⟨p, vs, r.ref_, s, fun a hp => ?_⟩
    obtain ⟨g', rep'⟩ := rep1.newL hp rs.rev
    exact q _ _ _ _ (g.trans g') rep' R.ref' (h a (rep1.free hp))
  | _ => exact h.elim
end
end T3
namespace T3
open PySem PySem.Spec PyProof.Rows L2
section
variable {X : Cx}
/-- less, of ints and of tuples of ints -/
def dLtA : DR2 := fun x y M Q => match x, y with
  | .int i, .int j => Q (.bl (decide (i < j))) M
  | .tup xs, .tup ys => ∃ ns ms : List Int, xs = ns.map D.int ∧ ys = ms.map D.int ∧ Q (.bl (HT.lexLt ns ms)) M
  | _, _ => False
theorem od_ltA (hu : X.A.units + 1 < cLine) : OpD X (compareOp .Lt) dLtA := by
  refine ⟨_, op_lt.or (op_ltT (Nat.lt_of_succ_lt hu)), fun H M x y v u Q Qd rep r1 r2 h q => ?_⟩
  cases x with
  | int i =>
    cases y with
    | int j => exact .inl ⟨i, j, r1.int_, r2.int_, q _ _ _ M Go.refl rep R.bl' h⟩
    | _ => exact h.elim
  | tup xs =>
    cases y with
    | tup ys =>
      obtain ⟨ns, ms, e1, e2, hq⟩ := h
      obtain ⟨a, vs, rfl, s, rs⟩ := r1.untup
      obtain ⟨b, us, rfl, s', rs'⟩ := r2.untup
      rw [e1] at rs
      rw [e2] at rs'
      have ev := rs.ints
      have ew := rs'.ints
      subst ev
      subst ew
      exact .inr ⟨a, b, ns, ms, rfl, rfl, SqT.of s, SqT.of s', q _ _ _ M Go.refl rep R.bl' hq⟩
    | _ => exact h.elim
  | _ => exact h.elim
end
end T3
namespace T3
open PySem PySem.Spec PyProof.Rows L2
section
variable {X : Cx}
/-- is True, is False, of flags -/
def dIsB : DR2 := fun x y M Q => match x, y with
  | .bl a, .bl b => Q (.bl (a == b)) M
  | _, _ => False
theorem op_isB : OpR X (compareOp .Is) (fun x y H Q => ∃ a b, x = .bl a ∧ y = .bl b ∧ Q (.bl (a == b)) H) := by
  intro pins s σ H x y v u Q I rx ry h
  obtain ⟨a, b, rfl, rfl, q⟩ := h
  cases rx
  cases ry
  exact is_bool (fin_bl I q rfl)
theorem od_isB : OpD X (compareOp .Is) dIsB := by
  refine ⟨_, op_isB, fun H M x y v u Q Qd rep r1 r2 h q => ?_⟩
  cases x with
  | bl a =>
    cases y with
    | bl b => exact ⟨a, b, r1.bl_, r2.bl_, q _ _ _ M Go.refl rep R.bl' h⟩
    | _ => exact h.elim
  | _ => exact h.elim
end
end T3
namespace T3
open PySem PySem.Spec PyProof.Rows L2
/-! ### isinstance(x, (A, B)) -/
section
variable {X : Cx}
def isT2 (n m : String) : D → Hd → DK → Prop := fun x M Q => match x with
  | .non => Q (.bl false) M
  | .bl _ => Q (.bl (subT "bool" n || subT "bool" m)) M
  | .int _ => Q (.bl (subT "int" n || subT "int" m)) M
  | .str _ => Q (.bl (subT "str" n || subT "str" m)) M
  | .tup _ => Q (.bl (subT "tuple" n || subT "tuple" m)) M
  | .ref p => (∃ xs, M p = some (.lst xs) ∧ Q (.bl (subT "list" n || subT "list" m)) M) ∨ (∃ kvs, M p = some (.dK kvs) ∧ Q (.bl (subT "dict" n || subT "dict" m)) M)
  | _ => False
def dIsi2 : DRL := fun xs M Q => match xs with
  | [x, .tup [.ty n, .ty m]] => n ∈ ["int", "bool", "str", "tuple", "list", "dict"] ∧ m ∈ ["int", "bool", "str", "tuple", "list", "dict"] ∧ isT2 n m x M Q
  | _ => False
theorem cd_isi2 : CallD X (.builtin "isinstance") dIsi2 := by
  refine ⟨_, call_isiT, fun H M xs vs Q Qd rep rs h q => ?_⟩
  unfold dIsi2 at h
  split at h
  · rename_i x n m
    obtain ⟨v, u, rfl, r1, r2⟩ := rs.two_
    obtain ⟨hn, hm, h⟩ := h
    obtain ⟨tp, cs, rfl, hT, r3⟩ := r2.untup
    obtain ⟨c1, c2, rfl, q1, q2⟩ := r3.two_
    have e1 := q1.ty_
    have e2 := q2.ty_
    subst e1 e2
    have fin : ∀ t b, t ∈ ["int", "bool", "str", "tuple", "list", "dict", "NoneType"] → b = (subT t n || subT t m) → TyX X.K H v (.type t) → Qd (.bl b) M → rIsiT X.K [v, .ref tp] H Q := fun t b ht hb ty hq =>
      ⟨v, tp, _, .type t, [.type n, .type m], b, rfl, hT, .cons (.ty n) (.cons (.ty m) .nil), ty, kitAny_cons (b := subT t n) (kit_ty (kit_sub t ht n hn)) (fun z => by
        refine kitAny_cons (b := subT t m) (kit_ty (kit_sub t ht m hm)) (fun z2 => by rw [hb, z, z2]; exact kitAny_nil) fun z2 => by rw [hb, z2, Bool.or_true]) fun z => by rw [hb, z, Bool.true_or], q _ _ _ M Go.refl rep R.bl' hq⟩
    cases x with
    | non =>
      have : ∀ n ∈ ["int", "bool", "str", "tuple", "list", "dict"], subT "NoneType" n = false := by decide
      exact fin "NoneType" false (by decide) (by rw [this n hn, this m hm]; rfl) (by rw [r1.non_]; exact .base .non) h
    | bl b => exact fin "bool" _ (by decide) rfl (by rw [r1.bl_]; exact .base (.bl b)) h
    | int b => exact fin "int" _ (by decide) rfl (by rw [r1.int_]; exact .base (.int b)) h
    | str b => exact fin "str" _ (by decide) rfl (by rw [r1.str_]; exact .base (.str b)) h
    | tup xs =>
      obtain ⟨a, us, e, s, rs'⟩ := r1.untup
      exact fin "tuple" _ (by decide) rfl (by rw [e]; exact .base (.tup s)) h
    | ref p =>
      have e := r1.ref_
      rcases h with ⟨xs, l, h⟩ | ⟨kvs, d, h⟩
      · obtain ⟨us, s, rs'⟩ := rep.lst l
        exact fin "list" _ (by decide) rfl (by rw [e]; exact .base (.lst s)) h
      · obtain ⟨ws, s, rk⟩ := rep p _ d
        exact fin "dict" _ (by decide) rfl (by rw [e]; exact .base (.dK s)) h
    | ty n => exact h.elim
    | kl _ _ => exact h.elim
  · exact h.elim
end
end T3
/-! defs that are called where no repr is under way; repr of lists, tuples; the law's end for such a law -/
namespace T3
open PySem PySem.Spec PyProof.Rows L2
/-- as FnOk, where no repr is under way -/
structure FnG (P : Program) (w : World) (K : PySem.W.Frag) (mg : Str → Option Value) (base : Heap) (k : Nat) (f : Addr) (fd : FuncData) (ps : List Str) (sp : Sp) : Prop where
  ln : ∀ vs H Q E, sp vs H Q E → vs.length = ps.length
  go : ∀ (A : Around) (stk : List Env) (z : Shared) (H : Hp) (ar : Args) (us : List Value) (vs : List V) (Q : VK) (E : XK), Room k A → A.guards = some [] → Env0 P w K mg base A stk z H →
    BindsTo z fd ar (ps.zip us) → Vals vs us → sp vs H Q E → codeAny (model P w) A (.call (.ref f) ar) (CR CX0 stk P w H z Q E) z
theorem grd_deeper {A : Around} {e : Env} (h : A.guards = some []) : (A.deeper e).guards = some [] := by
  simp [Around.deeper, h]
section
variable {P : Program} {w : World} {K : PySem.W.Frag} {mg : Str → Option Value} {base : Heap}
theorem fnG_of {k : Nat} {f : Addr} {nm ql : Str} {pr : Arguments} {bd : List Stmt} {sc : Scope} {kV doc pm cdv ct oc : Value} {an od : Option Addr} {osl : Array (Option Value)} {N ps : List Str} {sp : Sp}
    (lk : K.lookup f = some ⟨oc, od, .func (PySem.W.fnOf nm ql pr bd sc .none kV doc pm an cdv ct), osl⟩) (hcd : PySem.W.codeIn K cdv ql = true) (Sc : FnScope N ps sc) (ln : ∀ vs H Q E, sp vs H Q E → vs.length = ps.length)
    (hb : ∀ (A : Around) (stk : List Env) (z : Shared) (H : Hp) (vs : List V) (Q : VK) (E : XK), Room k (A.deeper (envOfC ql sc z.heap.objs.size f cdv)) → (A.deeper (envOfC ql sc z.heap.objs.size f cdv)).guards = some [] → sp vs H Q E →
      ∃ t, PSs (cxOf CX0 P w K mg base N ql sc f cdv A stk z H E).nox bd t ∧ t { nx := fun _ H' => Q .non H', rt := Q } (start N vs) H) :
    FnG P w K mg base (k + 1) f (PySem.W.fnOf nm ql pr bd sc .none kV doc pm an cdv ct) ps sp := by
  refine ⟨ln, fun A stk z H ar us vs Q E room gd e0 bt rv hs => ?_⟩
  have inK : K.In z.heap := e0.mod.kin.keeps fun b o e => (e0.bs b o e).1
  have noL : z.heap.NoLimit := e0.mod.nolimit.keeps fun b o e => (e0.bs b o e).1
  have kinds : ∀ y ∈ ps.zip us, sc.names.lookup y.1 = some .local ∨ (sc.names.lookup y.1 = some .cell ∧ ((cellsFrom (z.heap.objs.size + 1) sc.names []).lookup y.1).isSome = true) := by
    rintro ⟨n, v⟩ hy
    exact (Sc.par n (List.of_mem_zip hy).1).imp id fun q => ⟨q, PySem.W.cellsFrom_some _ _ _ (.inl q)⟩
  apply codeAny_call_function room.depth (inK _ _ lk) rfl Sc.co Sc.gen rfl (PySem.W.codeRec_of inK hcd)
  apply bt
  refine wpAny_newFunctionEnv_cells Sc.kind kinds fun env he z1 x => ?_
  subst he
  refine ⟨noL.keeps x.toInCall.keep, codeAny_func ?_⟩
  obtain ⟨t, ht, hq⟩ := hb A stk z H vs Q E (room.deeper _) (grd_deeper gd) hs
  have I := inv_start (CX := CX0) (E := E) Sc room.hd e0 (ln _ _ _ _ hs) rv x
  refine wpAny_mono (ht.nox.run [] z1 (start N vs) H _ I hq) (fun fl z2 h2 => ?_) fun _ _ h2 => h2
  cases fl with
  | ret u =>
    obtain ⟨v, σ2, H2, J, r2, q2⟩ := h2
    exact ⟨v, H2, J.os, J.bare, J.base, J.hok, r2, q2⟩
  | next =>
    obtain ⟨σ2, H2, J, q2⟩ := h2
    exact ⟨V.non, H2, J.os, J.bare, J.base, J.hok, rfl, q2⟩
  | brk =>
    obtain ⟨_, _, _, q2⟩ := h2
    exact q2.elim
  | cont =>
    obtain ⟨_, _, _, q2⟩ := h2
    exact q2.elim
/-- THE RULE for such a def -/
theorem funG3 {x qual : Str} {st : Stmt} {f : Addr} {fd : FuncData} {N ps : List Str} {k : Nat} {S : DSp} {d : DSt} (F : Fun K x qual st f fd) (Sc : FnScope N ps (defScope st)) (hn : ∀ ds M Q E, S ds M Q E → ds.length = ps.length)
    (hb : ∀ (cdv : Value) (A : Around) (outer : List Env) (s : Shared) (H : Hp) (E : XK), Room k (A.deeper (envOfC qual (defScope st) s.heap.objs.size f cdv)) → (A.deeper (envOfC qual (defScope st) s.heap.objs.size f cdv)).guards = some [] →
      PB3 (cxOf CX0 P w K mg base N qual (defScope st) f cdv A outer s H E).nox Am.no (defBody st) d)
    (hd : ∀ ds M Q E, S ds M Q E → ∀ H, Rep K H M → ∃ M1, Rep K H M1 ∧ (∀ a, M a = none → M1 a = none) ∧
      d { nx := fun _ M' => ∃ M2, Fgt K M' M2 ∧ Q .non M2, rt := fun v M' => ∃ M2, Fgt K M' M2 ∧ Q v M2 } (startD N.length ds) M1) : FnG P w K mg base (k + 1) f fd ps (lift K S) := by
  obtain ⟨oc, od, kV, doc, pm, an, cdv, ct, osl, rfl, lk, hcd⟩ := F.ex
  refine fnG_of lk hcd Sc (fun vs H Q E h => ?_) fun A outer s H vs Q E hr hg h => ?_
  · obtain ⟨ds, M, Qd, Ed, rs, _, hs, _⟩ := h
    rw [rs.len]
    exact hn _ _ _ _ hs
  · obtain ⟨ds, M, Qd, Ed, rs, rep, hs, q, _⟩ := h
    obtain ⟨M1, rep1, dom, hd⟩ := hd ds M Qd Ed hs H rep
    obtain ⟨t, h1, h2⟩ := (hb cdv A outer s H E hr hg).ex
    have g01 : Go H M H M1 := fun a u ha na => ⟨ha, dom a na⟩
    refine ⟨t, h1, h2 _ H _ M1 _ _ (Sl.start rs) rep1 trivial hd ⟨fun σ' H' δ' M' g _ rep' ⟨M2, fg, q'⟩ => ?_, fun v H' x M' g rep' r ⟨M2, fg, q'⟩ => ?_, fun _ _ _ _ _ _ _ z => z.elim, fun _ _ _ _ _ _ _ z => z.elim⟩⟩
    · exact q _ _ _ M2 ((g01.trans g).trans fg.go) (fg.1 _ rep') R.non' q'
    · exact q _ _ _ M2 ((g01.trans g).trans fg.go) (fg.1 _ rep') r q'
end
structure PrG (P : Program) (w : World) (K : PySem.W.Frag) (mg : Str → Option Value) (base : Heap) (x : Str) (k : Nat) (ps : List Str) (S : DSp) : Prop where
  ex : ∃ f fd, mg x = some (.ref f) ∧ PySem.W.keepIn K (.ref f) = true ∧ Binds K fd ps [] ∧ FnG P w K mg base k f fd ps (lift K S) ∧ (∃ oc od osl, K.lookup f = some ⟨oc, od, .func fd, osl⟩) ∧ ∀ us : List Value, us.length = ps.length → bindArgs fd ⟨us, []⟩ = pure (ps.zip us)
section
variable {P : Program} {w : World} {K : PySem.W.Frag} {mg : Str → Option Value} {base : Heap}
theorem prG3 {x : Str} {st : Stmt} {N ps : List Str} {k : Nat} {S : DSp} {d : DSt} (D : Df K mg x st) (bi : Bi K x st ps) (Sc : FnScope N ps (defScope st)) (hn : ∀ ds M Q E, S ds M Q E → ds.length = ps.length)
    (hb : ∀ (f : Addr) (cdv : Value) (A : Around) (outer : List Env) (s : Shared) (H : Hp) (E : XK), Room k (A.deeper (envOfC x (defScope st) s.heap.objs.size f cdv)) → (A.deeper (envOfC x (defScope st) s.heap.objs.size f cdv)).guards = some [] →
      PB3 (cxOf CX0 P w K mg base N x (defScope st) f cdv A outer s H E).nox Am.no (defBody st) d)
    (hd : ∀ ds M Q E, S ds M Q E → ∀ H, Rep K H M → ∃ M1, Rep K H M1 ∧ (∀ a, M a = none → M1 a = none) ∧
      d { nx := fun _ M' => ∃ M2, Fgt K M' M2 ∧ Q .non M2, rt := fun v M' => ∃ M2, Fgt K M' M2 ∧ Q v M2 } (startD N.length ds) M1) : PrG P w K mg base x (k + 1) ps S := by
  obtain ⟨f, fd, F, hm⟩ := D.ex
  refine ⟨f, fd, hm, F.kp, F.binds bi, funG3 F Sc hn (hb f) hd, ?_⟩
  obtain ⟨oc, od, kV, doc, pm, an, cdv, ct, osl, rfl, lk, hcd⟩ := F.ex
  exact ⟨⟨oc, od, osl, lk⟩, bi kV doc pm an cdv ct⟩
end
/-! ### calls of such a def -/
section
variable {X : Cx} {B : Am} {k : Nat} {ps : List Str} {S : DSp} {x : Str} {p pos : Pos} {e : Expr} {es : List Expr} {dr : DA}
theorem runG {f : Addr} {fd : FuncData} {sp : Sp} {pins : List (Addr × Obj)} {σ : L2.St} {H : Hp} {s : Shared} {Q : VK} {us : List Value} {vs : List V} (F : FnG X.prog X.w X.K X.mg X.base k f fd ps sp) (hr : Room k X.A) (hgd : X.A.guards = some []) (hb : Binds X.K fd ps [])
    (I : Inv X pins σ H s) (r : Vals vs us) (h : sp vs H Q E0) : wpAny (model X.prog X.w) X.A (call (.ref f) us) (EP X pins σ Q) X.xe s := by
  have hl : us.length = ps.length := by
    rw [← r.length]
    exact F.ln _ _ _ _ h
  have b := hb s us I.kIn (by rw [List.append_nil]; exact hl)
  rw [List.append_nil] at b
  refine wpAny_call (codeAny_mono (F.go X.A X.stack s H ⟨us, []⟩ us vs Q E0 hr hgd I.env0 b r h) fun fr z hz => ?_)
  match fr, hz with
  | .ok (.ret u), hz => exact I.after hz
  | .ok .next, hz => exact hz.elim
  | .ok .brk, hz => exact hz.elim
  | .ok .cont, hz => exact hz.elim
  | .error er, hz => exact pass0 pins σ H s er z I hz
theorem e_callG (F : PrG X.prog X.w X.K X.mg X.base x k ps S) (hr : Room k X.A) (hgd : X.A.guards = some []) (hg : Gl X x) (ha : PA3 X B (e :: es) dr)
    (hdb : (x == ("__debug__" : Str)) = false := by decide) (he : starEach (e :: es) X.env = (false, eval e X.env) :: starEach es X.env := by rfl) (hpl : (backTo pos (starEach es X.env)).any (·.1) = false := by rfl) :
    PE3 X B (.Call (.Name x p) (e :: es) [] pos) (dCall S dr) := by
  obtain ⟨f, fd, hm, hk, hb, F, _⟩ := F.ex
  obtain ⟨t, a1, a2⟩ := ha.ex
  have pe : PE X (.Call (.Name x p) (e :: es) [] pos) (tCall (lift X.K S) [] E0 t) := by
    refine ⟨fun pins s σ H Q I h => wpAny_Call_Name_kw (ld_glob I hg hm ?_ hdb)⟩
    refine PySem.W.callWith_K (h₀ := X.base) I.ok.mod.kin hk (thn (a1.run pos pins s σ H _ I h) fun us s1 ⟨vs, H1, I1, r, q⟩ => ⟨I1.kIn, ?_⟩) he hpl
    have q : lift X.K S (vs ++ []) H1 Q E0 := q
    rw [List.append_nil] at q
    exact runG F hr hgd hb I1 r q
  exact ⟨_, pe, snd_call a2⟩
/-! ### repr of a list, a tuple -/
def dRepr : D → Hd → DK → Prop := fun x M Q => ∃ d, Pd M x d ∧ d.showable = true ∧ d.hasDict = false ∧ d.depth ≤ 60 ∧ d.shown.length ≤ sizeLine ∧ Q (.str d.shown) M
def isRf : D → Prop
  | .ref _ => True
  | .tup _ => True
  | _ => False
theorem call_reprG (hu : X.A.units + 64 < cLine) (hgd : X.A.guards = some []) : CallR X (.builtin "repr") (fun xs H Q => ∃ a d, xs = [V.ref a] ∧ Dp X.K H (.ref a) d ∧ d.showable = true ∧ d.hasDict = false ∧ d.depth ≤ 60 ∧ d.shown.length ≤ sizeLine ∧ Q (.str d.shown) H) := by
  intro pins s σ H xs us Q I r h
  obtain ⟨a, d, rfl, hd, h1, h2, h3, h4, q⟩ := h
  rw [Vals.ref1 r]
  obtain ⟨as, rd⟩ := Dp.reads I d _ _ hd (show RelV (.ref a) (.ref a) from rfl)
  exact repr_of_reads' rd h1 (fun z => by rw [h2] at z; cases z) hgd (by omega) (fun _ _ e => e) (fun h' u tk hk => ⟨.str d.shown, H, I.kept (t' := tk) hk, ⟨u, rfl⟩, q⟩) h4
theorem cd_reprG (hu : X.A.units + 64 < cLine) (hgd : X.A.guards = some []) : CallD X (.builtin "repr") (d1 fun x M Q => isRf x ∧ dRepr x M Q) := by
  refine ⟨_, call_reprG hu hgd, fun H M xs vs Q Qd rep rs h q => ?_⟩
  obtain ⟨x, rfl, hi, d, pd, h1, h2, h3, h4, h5⟩ := d1_inv h
  obtain ⟨v, rfl, r⟩ := rs.one_
  have dp := Pd.dp rep _ _ _ pd r
  obtain ⟨a, rfl⟩ : ∃ a, v = .ref a := by
    cases x with
    | ref a => exact ⟨a, r.ref_⟩
    | tup ds => obtain ⟨a, _, e, _⟩ := r.untup; exact ⟨a, e⟩
    | _ => exact hi.elim
  exact ⟨a, d, rfl, dp, h1, h2, h3, h4, q _ _ _ M Go.refl rep R.str' h5⟩
end
/-! ### the law's end -/
theorem lawG {P : Program} {w : World} {K : PySem.W.Frag} {mg mb : Str → Option Value} {k : Nat} {fa a : Addr} {fd : FuncData} {x : Str} {z1 : Shared} {vs : List Value} {ns : List Int}
    (inK : K.In z1.heap) (gm : z1.heap.Ns mainGlobals mg) (gb : z1.heap.Ns builtinsNs mb) (gbb : ∀ x : Str, x ≠ "__name__" → mb x = bootBuiltins x) (noL : z1.heap.NoLimit) (gens : z1.gens = #[])
    (ho : z1.heap.get? a = some { cls := .type "list", data := .seq vs.toArray }) (hi : IntsAre vs ns) (hl : ns.length ≤ 63) (room : Room k callerA)
    (F : ∀ b : Heap, FnG P w K mg b k fa fd [x] (lift K SLaw)) (bt : ∀ (z : Shared) (u : Value), BindsTo z fd ⟨[u], []⟩ [(x, u)]) :
    codeAny (model P w) callerA (.call (.ref fa) ⟨[.ref a], []⟩) (fun r z => r = .ok (.ret (.bool true)) ∧ OldK z1.heap z.heap ∧ z.os = z1.os ∧ AllBare z.gens) z1 := by
  have rv := vals_ints hi
  have hsz : ns.length ≤ sizeLine := Nat.le_trans hl (by decide)
  have main : ∀ H : Hp, (∀ b, H b ≠ none → b = a ∧ K.lookup a = none) → Only H → SqL K H a (ns.map V.int) → HOk P w H z1.heap →
      codeAny (model P w) callerA (.call (.ref fa) ⟨[.ref a], []⟩) (fun r z => r = .ok (.ret (.bool true)) ∧ OldK z1.heap z.heap ∧ z.os = z1.os ∧ AllBare z.gens) z1 := by
    intro H track only seq ok
    have dicts : ∀ {b : Addr} {m : Str → Option Value}, z1.heap.Ns b m → (hidT z1.heap H).Ns b m := by
      rintro b m ⟨o, es, ep, e, d, r⟩
      refine ⟨o, es, ep, hidT_get e ?_, d, r⟩
      apply Classical.byContradiction
      intro ne
      obtain ⟨rfl, _⟩ := track b ne
      rw [ho] at e
      cases e
      exact nomatch d
    have inH : K.In (hidT z1.heap H) := fun b o e => hidT_get (inK b o e) (Classical.byContradiction fun ne => by
      obtain ⟨rfl, n⟩ := track b ne
      rw [n] at e
      cases e)
    obtain ⟨mc, l1, l2⟩ := noL
    have e0 : Env0 P w K mg (hidT z1.heap H) callerA [] z1 H :=
      ⟨rfl, ⟨inH, dicts gm, ⟨mb, dicts gb, gbb⟩, ⟨mc, dicts l1, l2⟩⟩, fun b o e => of_hidT e, Nat.le_of_eq (hidT_size _ _), trivial, fun b hb => (nomatch hb), ok, .of_eq gens⟩
    refine codeAny_mono ((F _).go callerA [] z1 H ⟨[.ref a], []⟩ [.ref a] [.ref a] (fun v _ => v = .bl true) (fun _ _ _ => False) room rfl e0 (bt z1 (.ref a)) (.cons rfl .nil) (law_sp hl only seq)) ?_
    intro r z hz
    match r, hz with
    | .error er, hz => exact ((show CX0 [] H z1 (fun _ _ _ => False) er z from hz)).elim
    | .ok .next, hz => exact hz.elim
    | .ok .brk, hz => exact hz.elim
    | .ok .cont, hz => exact hz.elim
    | .ok (.ret u), hz =>
      obtain ⟨v, H2, os, bare, un, ok2, r2, q2⟩ := hz
      have q2 : v = .bl true := q2
      subst q2
      obtain rfl : u = Value.bool true := r2
      refine ⟨rfl, OldK.of_keep fun b o e => ?_, os, bare⟩
      cases t : H b with
      | none => exact un.keep b o e t (by intro y; exact nomatch y) (by simp)
      | some y =>
        rcases only b with n | ⟨ob, xs, n⟩
        · rw [t] at n; cases n
        · obtain ⟨e1, _⟩ := ok b _ n
          obtain ⟨e2, _⟩ := ok2 b _ (un.frzs b ob _ n)
          rw [e] at e1
          cases e1
          exact e2
  have lv := hi.length
  cases hk : K.lookup a with
  | some o =>
    have e := inK a o hk
    rw [ho] at e
    cases e
    exact main (fun _ => none) (fun b n => absurd rfl n) (fun _ => .inl rfl) (.inr ⟨_, vs.toArray, _, hk, rfl, rfl, rfl, by rw [List.size_toArray, lv]; exact hsz, by simpa using rv⟩) (fun b u n => nomatch n)
  | none =>
    have at1 : ∀ b, (if b = a then some (HO.frz { cls := .type "list", data := .seq vs.toArray } (.lst (ns.map V.int))) else none) ≠ none → b = a := fun b n => Classical.byContradiction fun ne => n (if_neg ne)
    refine main (fun b => if b = a then some (.frz { cls := .type "list", data := .seq vs.toArray } (.lst (ns.map V.int))) else none) (fun b n => ⟨at1 b n, hk⟩) (fun b => ?_) (.inl (.inr ⟨_, if_pos rfl⟩)) fun b u n => ?_
    · by_cases e : b = a
      · exact .inr ⟨_, _, if_pos e⟩
      · exact .inl (if_neg e)
    · have e : b = a := at1 b (by rw [show (if b = a then some (HO.frz { cls := .type "list", data := .seq vs.toArray } (.lst (ns.map V.int))) else none) = some u from n]; simp)
      subst e
      have n : (if b = b then some (HO.frz { cls := .type "list", data := .seq vs.toArray } (.lst (ns.map V.int))) else none) = some u := n
      rw [if_pos rfl] at n
      cases n
      exact ⟨ho, by rw [List.length_map]; exact hsz, vs, _, rv, ho⟩
theorem walk3G {l : PySem.W.OpenLaw} {k : Nat} {q : Program} {loose : List Str} {XP : (Str → Option Value) → Heap → Prop} {YP : World → Heap → Prop} {d : DefRec} {K : Params → PySem.W.Frag} {x : Str}
    (hn : l.most = some 63) (hdf : d.params.defaults = []) (hr : Room k callerA)
    (hY : ∀ (w : World) (h : Heap), YP w h → (K w.params).In h)
    (F : ∀ (w : World) (mg : Str → Option Value) (h : Heap), (K w.params).In h → h.Ns mainGlobals mg → ∀ base : Heap, PrG l.prog w (K w.params) mg base d.name k [x] SLaw) :
    PySem.W.WalkO q loose XP YP l.row.toRowW d [] (fun f vs => PySem.call f vs) := by
  refine Att.attach_call hn hdf fun w s₀ z1 mg mb fa o pm cd doc a vs ns G Y ho hd hcd hmg hobj hints hlen hg => ?_
  have inK := hY w _ Y
  obtain ⟨f, fd, e, _, _, _, ⟨oc, od, osl, lk⟩, hb⟩ := (F w mg _ inK G.T.g default).ex
  rw [hmg] at e
  cases e
  refine lawG inK G.T.g G.T.b G.T.builtins G.T.nolimit hg hobj hints hlen hr (fun base => ?_) fun z u => .of_eq (hb [u] rfl)
  obtain ⟨f2, fd2, e2, _, _, F2, ⟨oc2, od2, osl2, lk2⟩, _⟩ := (F w mg _ inK G.T.g base).ex
  rw [hmg] at e2
  cases e2
  rw [lk] at lk2
  cases lk2
  exact F2
end T3
namespace T3
open PySem PySem.Spec PyProof.Rows L2
theorem dReprR {p : Addr} {M : Hd} {Q : DK} : d1 (fun x M Q => isRf x ∧ dRepr x M Q) [.ref p] M Q ↔ dRepr (.ref p) M Q := ⟨fun h => h.2, fun h => ⟨trivial, h⟩⟩
theorem dReprT {ds : List D} {M : Hd} {Q : DK} : d1 (fun x M Q => isRf x ∧ dRepr x M Q) [.tup ds] M Q ↔ dRepr (.tup ds) M Q := ⟨fun h => h.2, fun h => ⟨trivial, h⟩⟩
/-! ### lists or tuples -/
/-- what is walked, indexed: a tuple, or a list -/
def SqO (M : Hd) (x : D) (ds : List D) : Prop := x = .tup ds ∨ ∃ f, x = .ref f ∧ M f = some (.lst ds)
theorem SqO.sub {M M' : Hd} {x : D} {ds : List D} (h : SqO M x ds) (s : Sub M' M) : SqO M' x ds := h.imp id fun ⟨f, e, z⟩ => ⟨f, e, s.1 _ _ z⟩
theorem seqI_of {de : DE} {δ : DS} {M : Hd} {x : D} {ds : List D} {Q : DW → Hd → Prop} (h : SqO M x ds) (q : ∀ g : Hd → Prop, (∀ M', Sub M' M → g M') → Q ⟨ds, g⟩ M) : dSeqI (fun _ M Q => Q x M) δ M Q := by
  rcases h with rfl | ⟨f, rfl, hf⟩
  · exact q (fun _ => True) fun _ _ => trivial
  · exact ⟨ds, .inl hf, q _ fun M' s => .inl (s.1 _ _ hf)⟩
theorem enumI_of {δ : DS} {M : Hd} {x : D} {ds : List D} {Q : DW → Hd → Prop} (h : SqO M x ds) (q : ∀ g : Hd → Prop, (∀ M', Sub M' M → g M') → Q ⟨enumD ds, g⟩ M) : dEnumI (fun _ M Q => Q [x] M) δ M Q := by
  rcases h with rfl | ⟨f, rfl, hf⟩
  · exact q (fun _ => True) fun _ _ => trivial
  · exact ⟨ds, .inl hf, q _ fun M' s => .inl (s.1 _ _ hf)⟩
theorem listOf_of {M : Hd} {x : D} {ds : List D} {Q : DK} (h : SqO M x ds) (q : ∀ p, M p = none → Q (.ref p) (up M p (.lst ds))) : dListOf x M Q := by
  rcases h with rfl | ⟨f, rfl, hf⟩
  · exact q
  · exact .inl ⟨ds, .inl hf, q⟩
theorem lenOf_of {M : Hd} {x : D} {ds : List D} {Q : DK} (h : SqO M x ds) (q : Q (.int ds.length) M) : dLen x M Q := by
  rcases h with rfl | ⟨f, rfl, hf⟩
  · exact q
  · exact .inl ⟨ds, .inl hf, q⟩
theorem ixOf_of {M : Hd} {x : D} {ds : List D} {i : Nat} {d : D} {Q : DK} (h : SqO M x ds) (e : ds[i]? = some d) (q : Q d M) : dIx x (.int (i : Int)) M Q := by
  rcases h with rfl | ⟨f, rfl, hf⟩
  · exact ⟨d, atI_nat e, q⟩
  · exact .inl ⟨ds, i, d, rfl, .inl hf, atI_nat e, q⟩
end T3
/-! d.get(k, x) -/
namespace T3
open PySem PySem.Spec PyProof.Rows L2
section
variable {X : Cx} {B : Am} {o e f : Expr} {do_ dk dx : DE} {apos cpos : Pos}
def IsDD (M : Hd) (p : Addr) : Prop := (∃ kvs, DK_ M p kvs) ∨ ∃ kvs, M p = some (.dT kvs)
def dGet2R (p : Addr) (y z : D) (M : Hd) (Q : D → Prop) : Prop :=
  (∃ (kvs : List (Key × D)) (k : Key), y = kD k ∧ DK_ M p kvs ∧ Q ((valD kvs k).getD z)) ∨
  (∃ (kvs : List (List Key × D)) (ks : List Key), y = .tup (ks.map kD) ∧ M p = some (.dT kvs) ∧ Q ((valD kvs ks).getD z))
def dDGet2 (do_ dk dx : DE) : DE := fun δ M Q => do_ δ M fun x M1 => ∃ p, x = .ref p ∧ IsDD M1 p ∧ dk δ M1 fun y M2 => dx δ M2 fun z M3 => dGet2R p y z M3 fun v => Q v M3
theorem e_dget2 (hu : X.A.units + 1 < cLine) (ho : PE3 X B o do_) (he : PE3 X B e dk) (hf : PE3 X B f dx) (h1 : attributeBase o "get" X.env (eval o X.env) = eval o X.env := by rfl)
    (h2 : ((backTo cpos (starEach [e, f] X.env)).all (fun x => !x.1) && (backToKw cpos (keywordEach [] X.env)).all (fun x => x.1.isSome)
      && decide (([e, f] : List Expr).length + ([] : List Keyword).length + (if ([] : List Keyword).isEmpty then 0 else 1) < 30)) = true := by rfl)
    (h3 : (apos.endLine == cpos.line) = true := by rfl) (h4 : backTo cpos (starEach [e, f] X.env) = [(false, eval e X.env), (false, eval f X.env)] := by rfl) : PE3 X B (.Call (.Attribute o "get" apos) [e, f] [] cpos) (dDGet2 do_ dk dx) := by
  obtain ⟨to, o1, o2⟩ := ho.ex
  obtain ⟨tk, k1, k2⟩ := he.ex
  obtain ⟨tx, x1, x2⟩ := hf.ex
  refine ⟨_, pe_dget2 hu o1 k1 x1 ⟨h1, h2, h3, h4⟩, fun σ H δ M Q Qd sl rep bb q k => ?_⟩
  refine o2 σ H δ M _ _ sl rep bb q fun v H1 x M1 g1 rep1 r1 ⟨p, ex, isd, q1⟩ => ?_
  subst ex
  have sl1 := sl.mono (rep.tx g1)
  have bb1 := B.pres _ _ _ _ g1 bb
  refine ⟨p, r1.ref_, ?_, ?_⟩
  · rcases isd with ⟨kvs, d⟩ | ⟨kvs, d⟩
    · obtain ⟨ws, hd, _⟩ := rep1.dk d
      exact .inl ⟨ws, hd⟩
    · obtain ⟨ws, hd, _⟩ := rep1 p _ d
      exact .inr ⟨ws, .inl hd⟩
  refine k2 σ H1 δ M1 _ _ sl1 rep1 bb1 q1 fun y' H2 y M2 g2 rep2 ry q2 => ?_
  refine x2 σ H2 δ M2 _ _ (sl1.mono (rep1.tx g2)) rep2 (B.pres _ _ _ _ g2 bb1) q2 fun z' H3 z M3 g3 rep3 rz q3 => ?_
  have ry := ry.mono (rep2.tx g3)
  have gg := (g1.trans g2).trans g3
  rcases q3 with ⟨kvs, kk, rfl, d, q3⟩ | ⟨kvs, ks, rfl, d, q3⟩
  · obtain ⟨ws, hd, rk⟩ := rep3.dk d
    refine ⟨valV ws kk, .inl ⟨ws, kk, hd, ry.kD, rfl⟩, ?_⟩
    obtain ⟨a, b⟩ := RK.val kk rk
    cases ev : valD kvs kk with
    | none =>
      rw [b ev]
      rw [ev] at q3
      exact k _ _ _ _ gg rep3 rz q3
    | some d =>
      obtain ⟨w, ew, rw_⟩ := a d ev
      rw [ew]
      rw [ev] at q3
      exact k _ _ _ _ gg rep3 rw_ q3
  · obtain ⟨ws, hd, rk⟩ := rep3 p _ d
    obtain ⟨a, us, rfl, st, rs⟩ := ry.untup
    have ee := R.tupK rs
    subst ee
    refine ⟨valV ws ks, .inr ⟨ws, ks, a, .inl hd, rfl, st, rfl⟩, ?_⟩
    obtain ⟨a, b⟩ := RK.val ks rk
    cases ev : valD kvs ks with
    | none =>
      rw [b ev]
      rw [ev] at q3
      exact k _ _ _ _ gg rep3 rz q3
    | some d =>
      obtain ⟨w, ew, rw_⟩ := a d ev
      rw [ew]
      rw [ev] at q3
      exact k _ _ _ _ gg rep3 rw_ q3
end
end T3
namespace T3
open PySem PySem.Spec PyProof.Rows L2
/-- a set as it begins -/
abbrev oS (w : World) : Obj := ⟨.type "set", none, .set #[] 0 (.fresh 0 0 (!w.params.followText "set-order")), #[]⟩
section
variable {P : Program} {w : World} {A : Around} {E : Value → Shared → Prop} {s : Shared}
/-- set(l), l a list of ints -/
theorem set_of_list {l : Addr} {xs : Array Value} (ns : List Int) {Q : Value → Shared → Prop} (hA : A.handled = none) (isl : s.heap.IsList l xs) (hin : IntsAre xs.toList ns) (few : ns.length + 1 < scanBound)
    (q : ∀ (g : Heap) (k c : Nat), SetR w g s.heap.objs.size (fun j => decide (j ∈ ns)) c → c ≤ ns.length → (∀ b u, s.heap.get? b = some u → g.get? b = some u) → Q (.ref s.heap.objs.size) { s with heap := g, toks := k }) :
    wpAny (model P w) A (call (.type "set") [.ref l]) Q E s := by
  have size : xs.size = ns.length := by
    have z := hin.length
    simpa using z
  obtain ⟨c0, t0, mro⟩ := F.called_set.mro
  have y1 := F.called_set.made
  have y2 := F.called_set.sub
  refine wpAny_call (codeAny_of_tree (?_ : wpAny _ _ (callAny (.type "set") _) _ _ _))
  refine wpAny_pure ⟨Code.quiet_builtin _ (by decide +kernel), codeAny_builtin F.entry_type_call ?_⟩
  rw [Around.under_plain (weight_type_call_type "set" [(Value.ref l)] []) rfl]
  have y3 := F.called_set.notType
  have y4 := F.called_set.canCreate
  have y5 := F.typeCall_set_1 (Value.ref l)
  repeat any_goals first | assumption | wp_step
  have at0 : (s.heap.push (oS w)).get? s.heap.objs.size = some (oS w) := Heap.get?_push_size _ rfl
  refine codeAny_mono (code_set_led1 (Value.ref l) (E := E) (Q₁ := fun ob s1 => ob = Value.ref s.heap.objs.size ∧ s1 = { s with heap := s.heap.push (oS w) }) ⟨rfl, rfl⟩) fun r s1 hr => ?_
  cases r with
  | error e => exact hr
  | ok fl =>
    cases fl with
    | ret ob =>
      obtain ⟨rfl, rfl⟩ := hr
      have ty : Shared.TypeIs { s with heap := s.heap.push (oS w) } (Value.ref s.heap.objs.size) "set" := ⟨_, at0, rfl⟩
      have y6 := F.called_set.init.lookup
      have y7 := F.called_set.init.bind (Value.ref s.heap.objs.size)
      repeat any_goals first | assumption | wp_step
      refine codeAny_mono (codeAny_call_builtin (R := wants (fun r s2 => r = Value.none ∧ ∃ g k c, s2 = { s with heap := g, toks := k } ∧ SetR w g s.heap.objs.size (fun j => decide (j ∈ ns)) c ∧ c ≤ ns.length ∧
        ∀ b u, s.heap.get? b = some u → g.get? b = some u) E) F.called_set.init.plain F.entry_set_init (check_set_init_1 ty ?_)) fun r2 s2 hr2 => ?_
      · obtain ⟨⟨ocls, odict, odata, oslots⟩, ol, ocl, m, od⟩ := isl
        have lt := Heap.lt_size ol
        simp only at ocl od
        subst ocl od
        have ol2 : (s.heap.push (oS w)).get? l = some ⟨.type "list", odict, .seq xs m, oslots⟩ := Heap.get?_push_of_some _ ol
        have isl2 : (s.heap.push (oS w)).IsList l xs := ⟨_, ol2, rfl, m, rfl⟩
        have y8 := F.sub_list_set
        have y9 := F.sub_list_frozenset
        have nd : (Value.type "list" == Value.type "dict") = false := by decide
        unfold Builtin.«set.__init__» noKeywords Builtin.Frozenset.updateFrom
        generalize gen : pyIter = it
        wp_walk
        subst gen
        refine wpAny_pyIter_list isl2 (wpAny_bind (wpAny_runValue ?_))
        have hA3 : A.in1.in1.in1.handled = none := by simp [hA]
        have sz1 : (s.heap.push (oS w)).objs.size = s.heap.objs.size + 1 := Heap.size_push ..
        have val : ∀ (i : Nat) (v : Value), xs[i]? = some v → ∃ k t, ns[i]? = some k ∧ v = .int k t := fun i v e => by
          obtain ⟨t, z⟩ := PyProof.Rows.IntsAre.int_at hin i v (by rw [Array.getElem?_toList]; exact e)
          have li : i < ns.length := by rw [← size]; exact (Array.getElem?_eq_some_iff.mp e).1
          refine ⟨ns[i], t, List.getElem?_eq_getElem li, ?_⟩
          rw [z, List.getD_eq_getElem?_getD, List.getElem?_eq_getElem li]; rfl
        refine set_update_ints ((Walks.list hA3 (s.heap.push (oS w)).objs.size l (by rw [sz1]; exact Nat.ne_of_lt (Nat.lt_succ_of_lt lt)) xs).toS) s.heap.objs.size (by rw [sz1]; simp only [List.mem_cons, List.not_mem_nil, or_false, not_or]; exact ⟨Nat.ne_of_lt (Nat.lt_succ_self _), Nat.ne_of_gt lt⟩) ns size few val xs.size 0 _ rfl (Nat.zero_le _) ⟨⟨_, Heap.get?_push_size _ rfl, rfl, rfl⟩, isl2.push _⟩ ⟨0, Nat.le_refl 0, setR_new_at (Heap.get?_push_of_some _ at0)⟩ ?_
        rintro ⟨g, gs, d, k, os⟩ c mv hc hS
        have e1 : gs = s.gens := mv.gens
        have e2 : d = s.drawn := mv.drawn
        have e3 : os = s.os := mv.os
        subst e1 e2 e3
        show wpAny _ _ _ _ _ _
        refine wpAny_pure (?_ : wpAny _ _ (ret Value.none) _ _ _)
        rw [size] at hc
        refine wpAny_pure ⟨rfl, g, k, c, rfl, hS, hc, fun b u e => ?_⟩
        have b0 := Heap.lt_size e
        exact mv.heap b u (by rw [sz1]; simp only [List.mem_cons, List.not_mem_nil, or_false, not_or]; exact ⟨Nat.ne_of_lt b0, Nat.ne_of_lt (Nat.lt_succ_of_lt b0)⟩) (Heap.get?_push_of_some _ (Heap.get?_push_of_some _ e))
      · cases r2 with
        | error e => exact hr2
        | ok fl2 =>
          cases fl2 with
          | ret v =>
            obtain ⟨rfl, g, k, c, rfl, a, b, d⟩ := hr2
            repeat any_goals first | assumption | wp_step
            exact q _ _ _ a b d
          | _ => exact hr2.elim
    | _ => exact hr.elim
theorem few_of {g : Heap} {a : Addr} {S : Int → Bool} {c m : Nat} (r : SetR w g a S c) (h : ∀ k, S k = true → 0 ≤ k ∧ k < m) : c ≤ m := by
  obtain ⟨o, es, ep, t, _, _, _, _, nd, mem, _, _, hn, _⟩ := r
  have : (es.toList.map keyOf).length ≤ m := by
    have h2 : ∀ k ∈ es.toList.map keyOf, 0 ≤ k ∧ k < (m : Int) := fun k hk => h k ((mem k).mpr hk)
    have sub : ∀ (m : Nat) (l : List Int), l.Nodup → (∀ k ∈ l, 0 ≤ k ∧ k < (m : Int)) → l.length ≤ m := by
      intro m
      induction m with
      | zero =>
        intro l _ h
        cases l with
        | nil => exact Nat.le_refl _
        | cons a l => have := h a (by simp); omega
      | succ m ih =>
        intro l nd h
        have := ih (l.erase (m : Int)) (nd.erase _) fun k hk => by
          have a := h k (List.mem_of_mem_erase hk)
          have b : k ≠ (m : Int) := fun z => by
            subst z
            exact List.Nodup.not_mem_erase nd hk
          omega
        have e := List.length_erase (a := (m : Int)) (l := l)
        split at e <;> omega
    exact sub m _ nd h2
  rw [List.length_map, Array.length_toList] at this
  omega
end
end T3
namespace T3
open PySem PySem.Spec PyProof.Rows L2
/-- set(xs), xs a list of ints -/
def rSet1 (K : PySem.W.Frag) (w : World) : List V → Hp → VK → Prop := fun xs H Q => ∃ (l : Addr) (ns : List Int), xs = [.ref l] ∧ SqL K H l (ns.map V.int) ∧ ns.length ≤ 4000 ∧ ∀ a c, H a = none → (∀ m : Nat, (∀ k ∈ ns, 0 ≤ k ∧ k < (m : Int)) → c ≤ m) → Q (.ref a) (upd H a (SetO w a (fun j => decide (j ∈ ns)) c))
section
variable {X : Cx} {B : Am} {e : Expr} {de : DE} {p1 p2 pos1 pos : Pos}
theorem cr_set1 (hc : X.calm = true) : CallR X (.type "set") (rSet1 X.K X.w) := by
  intro pins s σ H xs us Q I r h
  obtain ⟨l, ns, rfl, hs, hl, q⟩ := h
  rw [Vals.ref1 r]
  obtain ⟨its, rv, pl, hz⟩ := I.list hs
  refine set_of_list ns (I.ok.hd hc) pl.isList (ints_of_vals rv) (by unfold scanBound; omega) fun g k c R hc2 kp => ?_
  refine ⟨.ref _, _, I.laid (t' := k) kp (Nat.le_refl _) (setO_new R), rfl, q _ c (I.hok.fresh (Nat.le_refl _)) fun m hm => few_of R fun k hk => hm k (of_decide_eq_true hk)⟩
def dSrtSet (de : DE) : DE := fun δ M Q => de δ M fun x M1 => ∃ p, x = .ref p ∧ ∃ ns : List Int, LS M1 p (ns.map D.int) ∧ ns.length ≤ 4000 ∧ (∀ k ∈ ns, 0 ≤ k ∧ k < 60) ∧ ∀ ms : List Int, ms.Pairwise (· < ·) → (∀ k, k ∈ ms ↔ k ∈ ns) → ∀ q, M1 q = none → Q (.ref q) (up M1 q (.lst (ms.map D.int)))
theorem e_srtSet (hc : X.calm = true) (hg : Gl X "sorted") (hm : X.mg "sorted" = none) (hg2 : Gl X "set") (hm2 : X.mg "set" = none) (he : PE3 X B e de)
    (s1 : starEach [e] X.env = (false, eval e X.env) :: starEach [] X.env := by rfl) (s2 : starEach [Expr.Call (.Name "set" p2) [e] [] pos1] X.env = (false, eval (.Call (.Name "set" p2) [e] [] pos1) X.env) :: starEach [] X.env := by rfl)
    (l1 : (backTo pos1 (starEach [] X.env)).any (·.1) = false := by rfl) (l2 : (backTo pos (starEach [] X.env)).any (·.1) = false := by rfl) :
    PE3 X B (.Call (.Name "sorted" p1) [.Call (.Name "set" p2) [e] [] pos1] [] pos) (dSrtSet de) := by
  obtain ⟨t, h1, h2⟩ := he.ex
  refine ⟨_, pe_callB (cr_sortedSet hc) hg hm rfl (pa_cons (pe_callTy (cr_set1 hc) hg2 hm2 rfl (pa_cons h1 pa_nil s1) (by decide) (by decide) s1 l1) pa_nil s2) (by decide) (by decide) s2 l2, ?_⟩
  intro σ H δ M Q Qd sl rep bb h q
  refine h2 σ H δ M _ _ sl rep bb h fun v H1 x M1 g1 rep1 r1 h => ?_
  obtain ⟨p, rfl, ns, l, hl, hk, h⟩ := h
  obtain ⟨us, s, rs⟩ := rep1.ls l
  have := rs.ints
  subst this
  rw [r1.ref_]
  refine ⟨p, ns, rfl, s, hl, fun a c ha hc' => ?_⟩
  have c60 : c ≤ 60 := hc' 60 fun k hk2 => hk k hk2
  refine ⟨a, _, c, rfl, upd_same, by omega, fun ms b pw mem _ hb => ?_⟩
  have rep2 : Rep X.K (upd H1 a (SetO X.w a (fun j => decide (j ∈ ns)) c)) M1 := rep1.tup ha
  have g2 : Go H1 M1 (upd H1 a (SetO X.w a (fun j => decide (j ∈ ns)) c)) M1 := go_tup ha
  obtain ⟨g3, rep3⟩ := rep2.newL hb (Rs.of_ints ms)
  exact q _ _ _ _ ((g1.trans g2).trans g3) rep3 R.ref' (h ms pw (fun k => by rw [mem, decide_eq_true_eq]) b (rep2.free hb))
end
end T3
/-! readings that stay closed where the thing is not known: in place of dIx, dSeqI, dEnumI, dListOf, dLen, dTupOf in the simp set -/
namespace T3
open PySem PySem.Spec PyProof.Rows L2
section
variable {M : Hd} {Q : DK} {i : Int} {xs : List D} {p : Addr} {z : Str} {y : D}
theorem dIx_tup : dIx (.tup xs) (.int i) M Q ↔ ∃ v, atI xs i = some v ∧ Q v M := Iff.rfl
theorem dIx_str : dIx (.str z) (.int i) M Q ↔ ∃ c, z.length ≤ sizeLine ∧ atI z.cps.toList i = some c ∧ Q (.str ⟨#[c]⟩) M := Iff.rfl
theorem dIx_ref : dIx (.ref p) y M Q ↔ dIxR p y M fun v => Q v M := Iff.rfl
theorem dIx_kl {ns : List Int} : dIx (.kl p ns) (.int i) M Q ↔ ∃ v, atI (ns.map D.int) i = some v ∧ Q v M := Iff.rfl
theorem dListOf_tup : dListOf (.tup xs) M Q ↔ ∀ q, M q = none → Q (.ref q) (up M q (.lst xs)) := Iff.rfl
theorem dListOf_kl {ns : List Int} : dListOf (.kl p ns) M Q ↔ ∀ q, M q = none → Q (.ref q) (up M q (.lst (ns.map D.int))) := Iff.rfl
theorem dListOf_ref : dListOf (.ref p) M Q ↔ (∃ xs, LS M p xs ∧ ∀ q, M q = none → Q (.ref q) (up M q (.lst xs))) ∨ (∃ kvs, DK_ M p kvs ∧ ∀ q, M q = none → Q (.ref q) (up M q (.lst (kvs.map fun kv => kD kv.1)))) := Iff.rfl
theorem dLen_tup : dLen (.tup xs) M Q ↔ Q (.int xs.length) M := Iff.rfl
theorem dLen_str : dLen (.str z) M Q ↔ z.length ≤ sizeLine ∧ Q (.int z.length) M := Iff.rfl
theorem dLen_kl {ns : List Int} : dLen (.kl p ns) M Q ↔ Q (.int ns.length) M := Iff.rfl
theorem dLen_ref : dLen (.ref p) M Q ↔ (∃ xs, LS M p xs ∧ Q (.int xs.length) M) ∨ (∃ kvs, DK_ M p kvs ∧ Q (.int kvs.length) M) := Iff.rfl
theorem dTupOf_tup : dTupOf (.tup xs) M Q ↔ Q (.tup xs) M := Iff.rfl
theorem dTupOf_ref : dTupOf (.ref p) M Q ↔ ∃ xs, LS M p xs ∧ Q (.tup xs) M := Iff.rfl
def sqX (x : D) (M : Hd) (Q : DW → Hd → Prop) : Prop := match x with
  | .tup xs => Q ⟨xs, fun _ => True⟩ M
  | .ref p => ∃ xs, LS M p xs ∧ Q ⟨xs, fun M => LS M p xs⟩ M
  | .str z => Q ⟨z.cps.toList.map fun c => .str ⟨#[c]⟩, fun _ => True⟩ M
  | _ => False
variable {W : DW → Hd → Prop} {de : DE} {δ : DS}
theorem dSeqI_x : dSeqI de δ M W ↔ de δ M fun x M1 => sqX x M1 W := Iff.rfl
theorem sqX_tup : sqX (.tup xs) M W ↔ W ⟨xs, fun _ => True⟩ M := Iff.rfl
theorem sqX_ref : sqX (.ref p) M W ↔ ∃ xs, LS M p xs ∧ W ⟨xs, fun M => LS M p xs⟩ M := Iff.rfl
theorem sqX_str : sqX (.str z) M W ↔ W ⟨z.cps.toList.map fun c => .str ⟨#[c]⟩, fun _ => True⟩ M := Iff.rfl
def enX (x : D) (M : Hd) (Q : DW → Hd → Prop) : Prop := match x with
  | .tup ys => Q ⟨enumD ys, fun _ => True⟩ M
  | .ref p => ∃ ys, LS M p ys ∧ Q ⟨enumD ys, fun M => LS M p ys⟩ M
  | _ => False
theorem dEnumI_x : dEnumI (dCons de dNil) δ M W ↔ de δ M fun x M1 => enX x M1 W := by
  have e : (fun (x : D) (M1 : Hd) => enX x M1 W) = fun x M1 => (match ([x] : List D) with
    | [.tup ys] => W ⟨enumD ys, fun _ => True⟩ M1
    | [.ref p] => ∃ ys, LS M1 p ys ∧ W ⟨enumD ys, fun M => LS M p ys⟩ M1
    | _ => False) := by
    funext x M1
    cases x <;> rfl
  rw [e]
  exact Iff.rfl
theorem enX_tup : enX (.tup xs) M W ↔ W ⟨enumD xs, fun _ => True⟩ M := Iff.rfl
theorem enX_ref : enX (.ref p) M W ↔ ∃ ys, LS M p ys ∧ W ⟨enumD ys, fun M => LS M p ys⟩ M := Iff.rfl
theorem sqX_of {M0 : Hd} {x : D} {ds : List D} (h : SqO M0 x ds) (s : Sub M M0) (q : ∀ g : Hd → Prop, (∀ M', Sub M' M0 → g M') → W ⟨ds, g⟩ M) : sqX x M W := by
  rcases h with rfl | ⟨f, rfl, hf⟩
  · exact q (fun _ => True) fun _ _ => trivial
  · exact ⟨ds, .inl (s.1 _ _ hf), q _ fun M' s => .inl (s.1 _ _ hf)⟩
theorem enX_of {M0 : Hd} {x : D} {ds : List D} (h : SqO M0 x ds) (s : Sub M M0) (q : ∀ g : Hd → Prop, (∀ M', Sub M' M0 → g M') → W ⟨enumD ds, g⟩ M) : enX x M W := by
  rcases h with rfl | ⟨f, rfl, hf⟩
  · exact q (fun _ => True) fun _ _ => trivial
  · exact ⟨ds, .inl (s.1 _ _ hf), q _ fun M' s => .inl (s.1 _ _ hf)⟩
end
end T3
/-! what may be shown by repr -/
namespace T3
open PySem PySem.Spec PyProof.Rows L2
structure Shw (w k : Nat) (d : PyData) : Prop where
  s : d.showable = true
  n : d.hasDict = false
  l : d.leavesShort 13 = true
  w : d.weight ≤ w
  k : d.depth ≤ k
theorem Shw.nat {n : Nat} (h : n < 1000000) : Shw 20 0 (.int (n : Int)) := by
  have h2 : n.log2 < 20 := by
    by_cases e : n = 0
    · subst e; decide
    · exact (Nat.log2_lt e).mpr (by omega)
  refine ⟨?_, by rw [PyData.hasDict], ?_, ?_, by rw [PyData.depth]; exact Nat.le_refl _⟩
  · rw [PyData.showable, Int.natAbs_natCast]; exact decide_eq_true (by omega)
  · rw [PyData.leavesShort]
    exact decide_eq_true (PyData.shown_int_le (by rw [Int.natAbs_natCast]; omega))
  · rw [PyData.weight, Int.natAbs_natCast]
    split <;> omega
theorem Shw.all {w k : Nat} : ∀ {ds : List PyData}, (∀ d ∈ ds, Shw w k d) → PyData.showableAll ds = true ∧ PyData.hasDictAll ds = false ∧ PyData.leavesShortAll 13 ds = true ∧ PyData.weightAll ds ≤ ds.length * (w + 1) ∧ PyData.depthAll ds ≤ k
  | [], _ => by simp [PyData.showableAll, PyData.hasDictAll, PyData.leavesShortAll, PyData.weightAll, PyData.depthAll]
  | d :: ds, h => by
    obtain ⟨a, b, c, e, f⟩ := Shw.all (ds := ds) fun x hx => h x (by simp [hx])
    have g := h d (by simp)
    refine ⟨by rw [PyData.showableAll, g.s, a]; rfl, by rw [PyData.hasDictAll, g.n, b]; rfl, by rw [PyData.leavesShortAll, g.l, c]; rfl, ?_, ?_⟩
    · rw [PyData.weightAll, List.length_cons, Nat.add_mul, Nat.one_mul]
      have := g.w
      omega
    · rw [PyData.depthAll]
      have := g.k
      omega
theorem Shw.list {w k : Nat} {ds : List PyData} (h : ∀ d ∈ ds, Shw w k d) : Shw (ds.length * (w + 1)) (k + 1) (.list ds) := by
  obtain ⟨a, b, c, e, f⟩ := Shw.all h
  exact ⟨by rw [PyData.showable]; exact a, by rw [PyData.hasDict]; exact b, by rw [PyData.leavesShort]; exact c, by rw [PyData.weight]; exact e, by rw [PyData.depth]; omega⟩
theorem Shw.tuple {w k : Nat} {ds : List PyData} (h : ∀ d ∈ ds, Shw w k d) : Shw (ds.length * (w + 1)) (k + 1) (.tuple ds) := by
  obtain ⟨a, b, c, e, f⟩ := Shw.all h
  exact ⟨by rw [PyData.showable]; exact a, by rw [PyData.hasDict]; exact b, by rw [PyData.leavesShort]; exact c, by rw [PyData.weight]; exact e, by rw [PyData.depth]; omega⟩
theorem Shw.mono {w k w' k' : Nat} {d : PyData} (h : Shw w k d) (hw : w ≤ w') (hk : k ≤ k') : Shw w' k' d := ⟨h.s, h.n, h.l, Nat.le_trans h.w hw, Nat.le_trans h.k hk⟩
theorem Shw.repr {w k : Nat} {d : PyData} (h : Shw w k d) (hw : w ≤ 2 ^ 20) (hk : k ≤ 60) {x : D} {M : Hd} {Q : DK} (pd : Pd M x d) (q : Q (.str d.shown) M) : dRepr x M Q :=
  ⟨d, pd, h.s, h.n, Nat.le_trans h.k hk, PyData.shown_fits (B := 13) (by decide) (by decide) h.l (Nat.le_trans h.w hw), q⟩
/-- things one by one -/
theorem pdAll_of {M : Hd} {w k : Nat} : ∀ {xs : List D}, (∀ x ∈ xs, ∃ d, Pd M x d ∧ Shw w k d) → ∃ ds, PdAll M xs ds ∧ (∀ d ∈ ds, Shw w k d) ∧ ds.length = xs.length
  | [], _ => ⟨[], .nil, by simp, rfl⟩
  | x :: xs, h => by
    obtain ⟨d, p, s⟩ := h x (by simp)
    obtain ⟨ds, ps, ss, l⟩ := pdAll_of (xs := xs) fun y hy => h y (by simp [hy])
    refine ⟨d :: ds, .cons p ps, fun e he => ?_, by rw [List.length_cons, List.length_cons, l]⟩
    rcases List.mem_cons.mp he with rfl | he
    · exact s
    · exact ss e he
/-- a list or a tuple of such things -/
theorem sqO_pd {M : Hd} {x : D} {xs : List D} {w k : Nat} (h : SqO M x xs) (hx : ∀ y ∈ xs, ∃ d, Pd M y d ∧ Shw w k d) : ∃ d, Pd M x d ∧ Shw (xs.length * (w + 1)) (k + 1) d := by
  obtain ⟨ds, p, s, l⟩ := pdAll_of hx
  rcases h with rfl | ⟨f, rfl, hf⟩
  · exact ⟨_, .tup p, by rw [← l]; exact Shw.tuple s⟩
  · exact ⟨_, .lst (.inl hf) p, by rw [← l]; exact Shw.list s⟩
end T3
namespace T3
open PySem PySem.Spec PyProof.Rows L2
/-! ### == of tuples of like things -/
structure Like {α : Type} [DecidableEq α] (f : α → D) (g : α → PyData) (k : Nat) : Prop where
  eqv : ∀ a b, PyData.eqv (g a) (g b) = decide (a = b)
  lay : ∀ a, (g a).canLay0 = true
  dep : ∀ a, (g a).depth ≤ k
  pd : ∀ M a, Pd M (f a) (g a)
theorem beq_dec (a b : Int) : (a == b) = decide (a = b) := by
  by_cases h : a = b
  · subst h; simp
  · simp [h]
theorem like_int : Like D.int PyData.int 0 := ⟨fun a b => by rw [PyData.eqv]; exact beq_dec a b, fun a => by simp [PyData.canLay0], fun a => by simp [PyData.depth], fun M a => .int a⟩
theorem like_n : Like nD (fun n : Nat => PyData.int n) 0 := ⟨fun a b => by rw [PyData.eqv]; exact (beq_dec a b).trans (decide_eq_decide.mpr Int.ofNat_inj), fun a => by simp [PyData.canLay0], fun a => by simp [PyData.depth], fun M a => .int a⟩
theorem Like.all {α : Type} [DecidableEq α] {f : α → D} {g : α → PyData} {k : Nat} (h : Like f g k) : ∀ l m : List α, PyData.eqvAll (l.map g) (m.map g) = decide (l = m)
  | [], [] => by simp [PyData.eqvAll]
  | [], _ :: _ => by simp [PyData.eqvAll]
  | _ :: _, [] => by simp [PyData.eqvAll]
  | a :: l, b :: m => by
    rw [List.map_cons, List.map_cons, PyData.eqvAll, h.eqv, h.all l m, ← Bool.decide_and]
    exact decide_eq_decide.mpr (by simp)
theorem Like.tup {α : Type} [DecidableEq α] {f : α → D} {g : α → PyData} {k : Nat} (h : Like f g k) : Like (fun l : List α => D.tup (l.map f)) (fun l => PyData.tuple (l.map g)) (k + 1) := by
  refine ⟨fun l m => ?_, fun l => ?_, fun l => ?_, fun M l => .tup ?_⟩
  · rw [PyData.eqv, h.all]
  · rw [PyData.canLay0]
    induction l with
    | nil => rfl
    | cons a l ih => rw [List.map_cons, PyData.canLayAll0, h.lay, ih]; rfl
  · rw [PyData.depth]
    have : PyData.depthAll (l.map g) ≤ k := by
      induction l with
      | nil => exact Nat.zero_le _
      | cons a l ih => rw [List.map_cons, PyData.depthAll]; have := h.dep a; omega
    omega
  · induction l with
    | nil => exact .nil
    | cons a l ih => exact .cons (h.pd M a) ih
theorem Like.dEq {α : Type} [DecidableEq α] {f : α → D} {g : α → PyData} {k : Nat} (h : Like f g k) (hk : k ≤ 64) {M : Hd} {a b : α} {Q : Bool → Prop} (q : Q (decide (a = b))) : dEqD (f a) (f b) M Q := by
  have sh : ∀ a, SeqAt.shaped (g a) = true := fun a => by
    unfold SeqAt.shaped
    rw [h.lay a, decide_eq_true (Nat.le_trans (h.dep a) hk)]; rfl
  exact ⟨g a, g b, h.pd M a, h.pd M b, sh a, sh b, by rw [h.eqv]; exact q⟩
theorem like_row : Like rwD (fun l : List Nat => PyData.tuple (l.map fun n : Nat => PyData.int n)) 1 := like_n.tup
theorem like_plan : Like plD (fun l : List (List Nat) => PyData.tuple (l.map fun r => PyData.tuple (r.map fun n : Nat => PyData.int n))) 2 := like_row.tup
theorem dEq_tup {xs ys : List D} {M : Hd} {Q : DK} : dEq (.tup xs) (.tup ys) M Q ↔ dEqD (.tup xs) (.tup ys) M fun b => Q (.bl b) M := Iff.rfl
theorem dNe_tup {xs ys : List D} {M : Hd} {Q : DK} : dNe (.tup xs) (.tup ys) M Q ↔ dEqD (.tup xs) (.tup ys) M fun b => Q (.bl (!b)) M := Iff.rfl
theorem dEq_ref {p q : Addr} {M : Hd} {Q : DK} : dEq (.ref p) (.ref q) M Q ↔ dEqD (.ref p) (.ref q) M fun b => Q (.bl b) M := Iff.rfl
theorem dNe_ref {p q : Addr} {M : Hd} {Q : DK} : dNe (.ref p) (.ref q) M Q ↔ dEqD (.ref p) (.ref q) M fun b => Q (.bl (!b)) M := Iff.rfl
/-- lists of like things -/
theorem Like.dEqL {α : Type} [DecidableEq α] {f : α → D} {g : α → PyData} {k : Nat} (h : Like f g k) (hk : k + 1 ≤ 64) {M : Hd} {p q : Addr} {l m : List α} {Q : Bool → Prop} (hp : LS M p (l.map f)) (hq : LS M q (m.map f)) (z : Q (decide (l = m))) : dEqD (.ref p) (.ref q) M Q := by
  have all : ∀ l : List α, PdAll M (l.map f) (l.map g) := fun l => by
    induction l with
    | nil => exact .nil
    | cons a l ih => exact .cons (h.pd M a) ih
  have lay : ∀ l : List α, PyData.canLayAll0 (l.map g) = true := fun l => by
    induction l with
    | nil => rfl
    | cons a l ih => rw [List.map_cons, PyData.canLayAll0, h.lay, ih]; rfl
  have dep : ∀ l : List α, PyData.depthAll (l.map g) ≤ k := fun l => by
    induction l with
    | nil => exact Nat.zero_le _
    | cons a l ih => rw [List.map_cons, PyData.depthAll]; have := h.dep a; omega
  have sh : ∀ l : List α, SeqAt.shaped (.list (l.map g)) = true := fun l => by
    unfold SeqAt.shaped
    rw [PyData.canLay0, lay, PyData.depth, decide_eq_true (by have := dep l; omega)]; rfl
  exact ⟨_, _, .lst hp (all l), .lst hq (all m), sh l, sh m, by rw [PyData.eqv, h.all]; exact z⟩
end T3
/-! [elt for a in x if .. for b in y if ..] -/
namespace T3
open PySem PySem.Spec PyProof.Rows L2
def tOfI (K : PySem.W.Frag) (B : Am) (d : DI) : TI := fun σ H Q => ∃ (δ : DS) (M : Hd) (Qd : DW → Hd → Prop), Sl K H σ δ ∧ Rep K H M ∧ B.B H M ∧ d δ M Qd ∧ ∀ J H' W M', Go H M H' M' → Rep K H' M' → ItOk K H' J W → Qd W M' → Q J H'
def dLc2 (di : DI) (g : Tg) (dt : DT) (di1 : DI) (g1 : Tg) (dt1 : DT) (de : DE) (vs vs1 : List Nat) : DE := fun δ M Q => di δ M fun W M1 => ∃ P : List D → List D → Hd → Prop, P [] [] M1 ∧
  (∀ pre x post acc M', W.xs = pre ++ x :: post → P pre acc M' → W.G M' ∧ dTg g x (wipeD δ vs) fun δ2 => dt δ2 M' fun b M2 =>
    (b = true → di1 δ2 M2 fun W1 M3 => ∃ P1 : List D → List D → Hd → Prop, P1 [] acc M3 ∧
      (∀ pre1 x1 post1 acc1 M4, W1.xs = pre1 ++ x1 :: post1 → P1 pre1 acc1 M4 → W1.G M4 ∧ dTg g1 x1 (wipeD δ2 vs1) fun δ3 => dt1 δ3 M4 fun b M5 =>
        (b = true → acc1.length < sizeLine ∧ de δ3 M5 fun y M6 => ∃ M7, Sub M6 M7 ∧ P1 (pre1 ++ [x1]) (acc1 ++ [y]) M7) ∧ (b = false → ∃ M7, Sub M5 M7 ∧ P1 (pre1 ++ [x1]) acc1 M7)) ∧
      (∀ acc1 M4, P1 W1.xs acc1 M4 → W1.G M4 ∧ ∃ M5, Sub M4 M5 ∧ P (pre ++ [x]) acc1 M5)) ∧
    (b = false → ∃ M4, Sub M2 M4 ∧ P (pre ++ [x]) acc M4)) ∧
  ∀ acc M', P W.xs acc M' → W.G M' ∧ ∀ p, M' p = none → Q (.ref p) (up M' p (.lst acc))
section
variable {X : Cx} {B : Am} {tg iter tg1 iter1 : Expr} {pos : Pos} {di di1 : DI} {g g1 : Tg}
theorem PI3.can {tg e : Expr} {d : DI} (h : PI3 X B tg e d) : PI X tg e (tOfI X.K B d) := by
  obtain ⟨t, h1, h2⟩ := h.ex
  exact ⟨fun pins s σ H Q I ⟨δ, M, Qd, sl, rep, bb, hd, q⟩ => h1.run pins s σ H Q I (h2 σ H δ M Q Qd sl rep bb hd q)⟩
theorem snd_tOfI {K : PySem.W.Frag} {d : DI} : SndI K B (tOfI K B d) d := fun σ H δ M Q Qd sl rep bb h q => ⟨δ, M, Qd, sl, rep, bb, h, q⟩
theorem snd_lc2 {K : PySem.W.Frag} {wi wi1 : TI} {tt tt1 : TT} {te : TE} {dt dt1 : DT} {de : DE} {vs vs1 : List Nat} (hi : SndI K B wi di) (ht : SndT K B tt dt) (hi1 : SndI K B wi1 di1) (ht1 : SndT K B tt1 dt1) (he : SndE K B te de) (hv : ∀ i ∈ g.ix, i ∈ vs) (hv1 : ∀ i ∈ g1.ix, i ∈ vs1) :
    SndE K B (tLc2 wi (g.L K) tt wi1 (g1.L K) tt1 te vs vs1) (dLc2 di g dt di1 g1 dt1 de vs vs1) := by
  intro σ H δ M Q Qd sl rep bb q k
  refine hi σ H δ M _ _ sl rep bb q fun J H1 W M1 g1' rep1 ok ⟨P, p0, turn, fin⟩ Da hDa => ?_
  have sl1 := sl.mono (rep.tx g1')
  have bb1 := B.pres _ _ _ _ g1' bb
  have nD : M1 Da = none := rep1.free hDa
  refine ⟨fun i m H' => ∃ pre post acc M', W.xs = pre ++ post ∧ pre.length = i ∧ m = post.length ∧ (∃ us, Rep K H' M' ∧ M' Da = none ∧ H' Da = some (.lst us) ∧ Rs K H' acc us ∧ Go H1 M1 H' M') ∧ P pre acc M',
    ⟨_, [], W.xs, [], M1, rfl, rfl, rfl, ⟨[], rep1.tup hDa, nD, upd_same, .nil, go_tup hDa⟩, p0⟩, ?_⟩
  rintro i m H' ⟨pre, post, acc, M', ex, rfl, rfl, ⟨us, rep', nD', hD', rs', g'⟩, p⟩
  cases post with
  | nil =>
    rw [List.append_nil] at ex
    subst ex
    obtain ⟨gg, nx⟩ := fin acc M' p
    refine .inl ⟨(ok _ H' M' (rep1.tx g') rep' gg).2 rfl, ?_⟩
    refine k (.ref Da) H' _ (up M' Da (.lst acc)) ?_ (rep'.shw nD' hD' rs') R.ref' (nx Da nD')
    intro a u ha na
    obtain ⟨ha1, na1⟩ := g1' a u ha na
    obtain ⟨ha2, na2⟩ := g' a u ha1 na1
    have : a ≠ Da := ne_of_none ha1 hDa
    exact ⟨ha2, by rw [up_ne this]; exact na2⟩
  | cons x post =>
    obtain ⟨gg, h⟩ := turn pre x post acc M' ex p
    have at_ : W.xs[pre.length]? = some x := by rw [ex]; simp
    obtain ⟨go, yld⟩ := (ok _ H' M' (rep1.tx g') rep' gg).1 x at_
    refine .inr ⟨go, fun H2 => ∃ acc2 M2, (∃ us, Rep K H2 M2 ∧ M2 Da = none ∧ H2 Da = some (.lst us) ∧ Rs K H2 acc2 us ∧ Go H1 M1 H2 M2) ∧ P (pre ++ [x]) acc2 M2,
      fun H2 ⟨acc2, M2, st, pp⟩ => ⟨post.length, Nat.lt_succ_self _, pre ++ [x], post, acc2, M2, by rw [ex]; simp, by simp, rfl, st, pp⟩, fun v H2 y => ?_⟩
    obtain ⟨g2, rep2, rv⟩ := yld v H2 y
    have g12 := g'.trans g2
    obtain ⟨hD2, _⟩ := g2 Da _ hD' nD'
    have rs2 := rs'.mono (rep'.tx g2)
    have slw := (sl1.mono (rep1.tx g12)).wipe vs
    refine tg_run g (M := M') slw rv h fun σ3 δ3 sl3 h3 hw => ⟨(hw vs hv).trans (wipe_wipe σ vs), ?_⟩
    refine ht σ3 H2 δ3 M' _ _ sl3 rep2 (B.pres _ _ _ _ g12 bb1) h3 fun b H3 M3 g3 rep3 ⟨q1, q2⟩ => ?_
    have g13 := g12.trans g3
    obtain ⟨hD3, nD3⟩ := g3 Da _ hD2 nD'
    have rs3 := rs2.mono (rep2.tx g3)
    cases b with
    | false =>
      obtain ⟨M4, sb, p4⟩ := q2 rfl
      exact iteF ⟨acc, M4, ⟨us, (sb.fgt (K := K)).1 _ rep3, sb.free nD3, hD3, rs3, g13.trans (sb.fgt (K := K)).go⟩, p4⟩
    | true =>
      refine iteT (hi1 σ3 H3 δ3 M3 _ _ (sl3.mono (rep2.tx g3)) rep3 (B.pres _ _ _ _ g13 bb1) (q1 rfl) fun J1 H4 W1 M4 g4 rep4 ok1 ⟨P1, p10, turn1, fin1⟩ => ?_)
      have g14 := g13.trans g4
      have sl4 := (sl3.mono (rep2.tx g3)).mono (rep3.tx g4)
      obtain ⟨hD4, nD4⟩ := g4 Da _ hD3 nD3
      have rs4 := rs3.mono (rep3.tx g4)
      refine ⟨fun j k H' => ∃ pre1 post1 acc1 M', W1.xs = pre1 ++ post1 ∧ pre1.length = j ∧ k = post1.length ∧ Tx K H4 H' ∧ (∃ us, Rep K H' M' ∧ M' Da = none ∧ H' Da = some (.lst us) ∧ Rs K H' acc1 us ∧ Go H1 M1 H' M') ∧ P1 pre1 acc1 M',
        ⟨_, [], W1.xs, acc, M4, rfl, rfl, rfl, Tx.refl, ⟨us, rep4, nD4, hD4, rs4, g14⟩, p10⟩, ?_⟩
      rintro j k1 H5 ⟨pre1, post1, acc1, M5, ex1, rfl, rfl, tx5, ⟨us5, rep5, nD5, hD5, rs5, g15⟩, p1⟩
      cases post1 with
      | nil =>
        rw [List.append_nil] at ex1
        subst ex1
        obtain ⟨gg1, M6, sb, pp⟩ := fin1 acc1 M5 p1
        exact .inl ⟨(ok1 _ H5 M5 tx5 rep5 gg1).2 rfl, acc1, M6, ⟨us5, (sb.fgt (K := K)).1 _ rep5, sb.free nD5, hD5, rs5, g15.trans (sb.fgt (K := K)).go⟩, pp⟩
      | cons x1 post1 =>
        obtain ⟨gg1, h1⟩ := turn1 pre1 x1 post1 acc1 M5 ex1 p1
        have at1 : W1.xs[pre1.length]? = some x1 := by rw [ex1]; simp
        obtain ⟨go1, yld1⟩ := (ok1 _ H5 M5 tx5 rep5 gg1).1 x1 at1
        refine .inr ⟨go1, fun H6 => ∃ acc2 M2, Tx K H4 H6 ∧ (∃ us, Rep K H6 M2 ∧ M2 Da = none ∧ H6 Da = some (.lst us) ∧ Rs K H6 acc2 us ∧ Go H1 M1 H6 M2) ∧ P1 (pre1 ++ [x1]) acc2 M2,
          fun H6 ⟨acc2, M2, tx, st, pp⟩ => ⟨post1.length, Nat.lt_succ_self _, pre1 ++ [x1], post1, acc2, M2, by rw [ex1]; simp, by simp, rfl, tx, st, pp⟩, fun v1 H6 y1 => ?_⟩
        obtain ⟨g6, rep6, rv1⟩ := yld1 v1 H6 y1
        have g16 := g15.trans g6
        have tx6 := tx5.trans (rep5.tx g6)
        obtain ⟨hD6, _⟩ := g6 Da _ hD5 nD5
        have rs6 := rs5.mono (rep5.tx g6)
        have slw1 := (sl4.mono tx6).wipe vs1
        refine tg_run g1 (M := M5) slw1 rv1 h1 fun σ7 δ7 sl7 h7 hw1 => ⟨(hw1 vs1 hv1).trans (wipe_wipe σ3 vs1), ?_⟩
        refine ht1 σ7 H6 δ7 M5 _ _ sl7 rep6 (B.pres _ _ _ _ g16 bb1) h7 fun b H7 M7 g7 rep7 ⟨r1, r2⟩ => ?_
        have g17 := g16.trans g7
        have tx7 := tx6.trans (rep6.tx g7)
        obtain ⟨hD7, nD7⟩ := g7 Da _ hD6 nD5
        have rs7 := rs6.mono (rep6.tx g7)
        cases b with
        | false =>
          obtain ⟨M8, sb, p8⟩ := r2 rfl
          exact iteF ⟨acc1, M8, tx7, ⟨us5, (sb.fgt (K := K)).1 _ rep7, sb.free nD7, hD7, rs7, g17.trans (sb.fgt (K := K)).go⟩, p8⟩
        | true =>
          obtain ⟨lt, r1⟩ := r1 rfl
          refine iteT (he σ7 H7 δ7 M7 _ _ (sl7.mono (rep6.tx g7)) rep7 (B.pres _ _ _ _ g17 bb1) r1 fun v8 H8 x8 M8 g8 rep8 rr8 ⟨M9, sb, p9⟩ => ?_)
          obtain ⟨hD8, nD8⟩ := g8 Da _ hD7 nD7
          have rs8 := rs7.mono (rep7.tx g8)
          have t9 : Tx K H8 (upd H8 Da (.lst (us5 ++ [v8]))) := tx_put hD8 trivial
          refine ⟨us5, hD8, by rw [rs8.len]; exact lt, acc1 ++ [x8], M9, (tx7.trans (rep7.tx g8)).trans t9, ⟨us5 ++ [v8], (sb.fgt (K := K)).1 _ (rep8.hid nD8 hD8 trivial), sb.free nD8, upd_same, (rs8.mono t9).app (.one (rr8.mono t9)), ?_⟩, p9⟩
          intro a u ha na
          obtain ⟨h1, n1⟩ := (g17.trans g8) a u ha na
          have : a ≠ Da := ne_of_none ha hDa
          exact ⟨by rw [upd_ne this]; exact h1, sb.free n1⟩
theorem e_lc2 {elt : Expr} {ifs ifs1 : List Expr} {scope : Scope} {own : List (Str × Nat)} {dt dt1 : DT} {de : DE} (vs1 : List Nat) (hc : X.calm = true) (hN : X.N.Nodup) (hi : PI3 X B tg iter di) (ok : BlkOk X.N X.env.scope scope own)
    (hg : ∀ (s : Shared) (H : Hp) (C : Addr) (cl : List (Str × Addr)) (fp : List Addr), PG3 (X.blk s H scope (compEnvC scope cl C X.env) fp) tg g) (ht : ∀ (s : Shared) (H : Hp) (C : Addr) (cl : List (Str × Addr)) (fp : List Addr), PTs3 (X.blk s H scope (compEnvC scope cl C X.env) fp) B ifs dt)
    (hi1 : ∀ (s : Shared) (H : Hp) (C : Addr) (cl : List (Str × Addr)) (fp : List Addr), PI3 (X.blk s H scope (compEnvC scope cl C X.env) fp) B tg1 iter1 di1)
    (hg1 : ∀ (s : Shared) (H : Hp) (C : Addr) (cl : List (Str × Addr)) (fp : List Addr), PG3 (X.blk s H scope (compEnvC scope cl C X.env) fp) tg1 g1) (ht1 : ∀ (s : Shared) (H : Hp) (C : Addr) (cl : List (Str × Addr)) (fp : List Addr), PTs3 (X.blk s H scope (compEnvC scope cl C X.env) fp) B ifs1 dt1)
    (he : ∀ (s : Shared) (H : Hp) (C : Addr) (cl : List (Str × Addr)) (fp : List Addr), PE3 (X.blk s H scope (compEnvC scope cl C X.env) fp) B elt de) (hv : ∀ i ∈ g.ix, i ∈ own.map (·.2) := by decide) (hv1 : ∀ i ∈ g1.ix, i ∈ vs1 := by decide) (hvv : ∀ i ∈ vs1, i ∈ own.map (·.2) := by decide)
    (hs : ∀ x, foldedSetIterable iter X.env x = pure x := by intro _; rfl) (hs1 : ∀ env x, foldedSetIterable iter1 env x = pure x := by intro _ _; rfl) :
    PE3 X B (.ListComp elt [⟨tg, iter, ifs, 0⟩, ⟨tg1, iter1, ifs1, 0⟩] scope pos) (dLc2 di g dt di1 g1 dt1 de (own.map (·.2)) vs1) := by
  obtain ⟨ti, i1, i2⟩ := hi.ex
  exact ⟨_, pe_lc2 (g := g.L X.K) (tt := tOfT X.K B dt) (wi1 := tOfI X.K B di1) (g1 := g1.L X.K) (tt1 := tOfT X.K B dt1) (te := tOf X.K B de) hc hN i1 ok hvv (fun s H C cl fp => (hg s H C cl fp).ex) (fun s H C cl fp => (ht s H C cl fp).can) (fun s H C cl fp => (hi1 s H C cl fp).can) (fun s H C cl fp => (hg1 s H C cl fp).ex) (fun s H C cl fp => (ht1 s H C cl fp).can) (fun s H C cl fp => (he s H C cl fp).can) hs hs1,
    snd_lc2 i2 snd_tOfT snd_tOfI snd_tOfT snd_tOf hv hv1⟩
theorem s_setLc2 (i : Nat) {y : Str} {py : Pos} {elt : Expr} {ifs ifs1 : List Expr} {scope : Scope} {own : List (Str × Nat)} {spos : Pos} {dt dt1 : DT} {de : DE} (vs1 : List Nat) (hc : X.calm = true) (hN : X.N.Nodup)
    (hsw : swapsWith (.ListComp elt [⟨tg, iter, ifs, 0⟩, ⟨tg1, iter1, ifs1, 0⟩] scope pos) (some (.Name y py)) spos.line X.env = pure true) (hi : PI3 X B tg iter di) (ok : BlkOk X.N X.env.scope scope own)
    (hg : ∀ (s : Shared) (H : Hp) (C : Addr) (cl : List (Str × Addr)) (fp : List Addr), PG3 (X.blk s H scope (compEnvC scope cl C X.env) fp) tg g) (ht : ∀ (s : Shared) (H : Hp) (C : Addr) (cl : List (Str × Addr)) (fp : List Addr), PTs3 (X.blk s H scope (compEnvC scope cl C X.env) fp) B ifs dt)
    (hi1 : ∀ (s : Shared) (H : Hp) (C : Addr) (cl : List (Str × Addr)) (fp : List Addr), PI3 (X.blk s H scope (compEnvC scope cl C X.env) fp) B tg1 iter1 di1)
    (hg1 : ∀ (s : Shared) (H : Hp) (C : Addr) (cl : List (Str × Addr)) (fp : List Addr), PG3 (X.blk s H scope (compEnvC scope cl C X.env) fp) tg1 g1) (ht1 : ∀ (s : Shared) (H : Hp) (C : Addr) (cl : List (Str × Addr)) (fp : List Addr), PTs3 (X.blk s H scope (compEnvC scope cl C X.env) fp) B ifs1 dt1)
    (he : ∀ (s : Shared) (H : Hp) (C : Addr) (cl : List (Str × Addr)) (fp : List Addr), PE3 (X.blk s H scope (compEnvC scope cl C X.env) fp) B elt de) (hy : X.N[i]? = some y := by rfl) (hyl : X.env.scope.names.lookup y = some .local := by rfl) (hv : ∀ i ∈ g.ix, i ∈ own.map (·.2) := by decide) (hv1 : ∀ i ∈ g1.ix, i ∈ vs1 := by decide) (hvv : ∀ i ∈ vs1, i ∈ own.map (·.2) := by decide)
    (hs : ∀ x, foldedSetIterable iter X.env x = pure x := by intro _; rfl) (hs1 : ∀ env x, foldedSetIterable iter1 env x = pure x := by intro _ _; rfl) :
    PS3 X B (.Assign [.Name y py] (.ListComp elt [⟨tg, iter, ifs, 0⟩, ⟨tg1, iter1, ifs1, 0⟩] scope pos) spos) (dSet i (dLc2 di g dt di1 g1 dt1 de (own.map (·.2)) vs1)) := by
  obtain ⟨ti, i1, i2⟩ := hi.ex
  refine ⟨_, ps_setLc2 (g := g.L X.K) (tt := tOfT X.K B dt) (wi1 := tOfI X.K B di1) (g1 := g1.L X.K) (tt1 := tOfT X.K B dt1) (te := tOf X.K B de) hc hN hy hyl hsw i1 ok hvv (fun s H C cl fp => (hg s H C cl fp).ex) (fun s H C cl fp => (ht s H C cl fp).can) (fun s H C cl fp => (hi1 s H C cl fp).can) (fun s H C cl fp => (hg1 s H C cl fp).ex) (fun s H C cl fp => (ht1 s H C cl fp).can) (fun s H C cl fp => (he s H C cl fp).can) hs hs1, fun σ H δ M D Dd sl rep bb q eo => ?_⟩
  exact snd_lc2 i2 snd_tOfT snd_tOfI snd_tOfT snd_tOf hv hv1 σ H δ M _ _ sl rep bb q fun v H' x M' g rep' r q' => eo.nx _ _ _ _ g ((sl.mono (rep.tx g)).set i r) rep' q'
theorem dLc2_g {dt dt1 : DT} {de : DE} {vs vs1 : List Nat} {δ : DS} {M : Hd} {Q : DK} (h : ∀ (F : DK) (T : DT) (I1 : DI) (T1 : DT) (U : DE), (∀ x M, F x M ↔ Q x M) → T = dt → I1 = di1 → T1 = dt1 → U = de → dLc2 di g T I1 g1 T1 U vs vs1 δ M F) : dLc2 di g dt di1 g1 dt1 de vs vs1 δ M Q := h Q dt di1 dt1 de (fun _ _ => Iff.rfl) rfl rfl rfl rfl
end
end T3
/-! sorted of a list of alike data (ints, texts, tuples of these, nested), of any length -/
namespace L2
open PySem PySem.Spec PyProof.Rows
/-- Python's order of things by data that are alike -/
def leA {β : Type} (d : β → PyData) (b c : β) : Bool := !PySem.W.dataLt (d c) (d b)
def rSortA (K : PySem.W.Frag) : List V → Hp → VK → Prop := fun vs H Q => ∃ (β : Type) (a : Addr) (bs : List β) (v : β → V) (d : β → PyData), vs = [V.ref a] ∧ SqL K H a (bs.map v) ∧ (∀ b ∈ bs, Dp K H (v b) (d b)) ∧ PySem.W.AllAlike (bs.map d) ∧ PySem.W.Sortable (bs.map d) ∧ (∀ b ∈ bs, (d b).depth ≤ 40) ∧
  ∀ p, H p = none → Q (.ref p) (upd H p (.lst ((bs.mergeSort (leA d)).map v)))
theorem each_vals {β : Type} {v : β → V} {P : β → Value → Prop} : ∀ {bs : List β} {us : List Value}, Vals (bs.map v) us → (∀ b ∈ bs, ∀ u, RelV (v b) u → P b u) → PySem.W.EachIs (fun u b => RelV (v b) u ∧ P b u) us bs
  | [], us, r, _ => by
    cases r
    exact .nil
  | b :: bs, us, r, h => by
    cases r with
    | cons r1 r2 => exact .cons ⟨r1, h b (by simp) _ r1⟩ (each_vals r2 fun c hc => h c (by simp [hc]))
theorem vals_each {β : Type} {v : β → V} {P : β → Value → Prop} {bs : List β} {us : List Value} (h : PySem.W.EachIs (fun u b => RelV (v b) u ∧ P b u) us bs) : Vals (bs.map v) us := by
  induction h with
  | nil => exact .nil
  | cons h1 _ ih => exact .cons h1.1 ih
theorem each_map {α β γ : Type} {R : α → γ → Prop} (f : β → γ) : ∀ {as : List α} {bs : List β}, PySem.W.EachIs (fun a b => R a (f b)) as bs → PySem.W.EachIs R as (bs.map f)
  | _, _, .nil => .nil
  | _, _, .cons h t => .cons h (each_map f t)
theorem each_and {α β : Type} {R S : α → β → Prop} : ∀ {as : List α} {bs : List β}, PySem.W.EachIs (fun a b => R a b ∧ S a b) as bs → PySem.W.EachIs S as bs
  | _, _, .nil => .nil
  | _, _, .cons h t => .cons h.2 (each_and t)
section
variable {X : Cx}
theorem cr_sortA (hu : X.A.units + 64 < cLine) : CallR X (.builtin "sorted") (rSortA X.K) := by
  intro pins s σ H vs us Q I r h
  obtain ⟨β, a, bs, v, d, rfl, hs, hd, hal, hso, hdep, q⟩ := h
  obtain ⟨its, rv, hl, hz⟩ := I.list hs
  rw [Vals.ref1 r]
  have I1 : Inv X pins σ H { s with heap := PySem.W.sortingHeap (PySem.W.copyHeap s.heap its) (s.heap.objs.size + 1) its } := I.kept fun b o e => PySem.W.sorting_copy_old e
  have e1 : PySem.W.EachIs (fun u b => RelV (v b) u ∧ ∃ as, Reads (PySem.W.sortingHeap (PySem.W.copyHeap s.heap its) (s.heap.objs.size + 1) its) u (d b) as) its bs :=
    each_vals (P := fun b u => ∃ as, Reads (PySem.W.sortingHeap (PySem.W.copyHeap s.heap its) (s.heap.objs.size + 1) its) u (d b) as) rv fun b hb u ru => Dp.reads I1 (d b) (v b) u (hd b hb) ru
  have e2 : PySem.W.EachIs (fun u c => ∃ as, Reads (PySem.W.sortingHeap (PySem.W.copyHeap s.heap its) (s.heap.objs.size + 1) its) u c as) its (bs.map d) := each_map d (each_and e1)
  have hlen : its.length ≤ sizeLine := by rw [← rv.length]; exact hz
  refine PySem.W.sorted_vals (κ := PySem.W.dataKind (PySem.W.sortingHeap (PySem.W.copyHeap s.heap its) (s.heap.objs.size + 1) its) (bs.map d)) hl.isList (PySem.W.SortsAt.data e2 hal hso fun c hc => ?_) hlen ?_
  · obtain ⟨b, hb, rfl⟩ := List.mem_map.mp hc
    have := hdep b hb
    first | (simp only [in1_units]; omega) | (simp; omega) | (show _ < cLine; simp; omega)
  · have e3 := PySem.W.sortVals_each (κ := PySem.W.dataKind (PySem.W.sortingHeap (PySem.W.copyHeap s.heap its) (s.heap.objs.size + 1) its) (bs.map d)) (rev := false) (ks := its) (fun b => PySem.W.keyToks (d b)) e1 ?_
    · have rv2 := vals_each e3
      obtain ⟨ep, he'⟩ := PyProof.Rows.sortedAll_at s.heap its (PySem.W.sortVals (PySem.W.dataKind (PySem.W.sortingHeap (PySem.W.copyHeap s.heap its) (s.heap.objs.size + 1) its) (bs.map d)) false its its).toArray
      refine ⟨.ref _, upd H (s.heap.objs.size + 1) (.lst ((bs.mergeSort (leA d)).map v)), I.laid (t' := s.toks) (fun _ _ => PyProof.Rows.sortedAll_old) (Nat.le_succ _) ⟨?_, _, ep, rv2, by rw [he']⟩, rfl, q _ (I.hok.fresh (Nat.le_succ _))⟩
      rw [List.length_map, List.length_mergeSort]
      have := rv.length
      rw [List.length_map] at this
      omega
    · have go : ∀ {us : List Value} {cs : List β}, PySem.W.EachIs (fun u b => RelV (v b) u ∧ ∃ as, Reads (PySem.W.sortingHeap (PySem.W.copyHeap s.heap its) (s.heap.objs.size + 1) its) u (d b) as) us cs → (∀ c ∈ cs, d c ∈ bs.map d) → PySem.W.EachIs (fun u b => (PySem.W.dataKind (PySem.W.sortingHeap (PySem.W.copyHeap s.heap its) (s.heap.objs.size + 1) its) (bs.map d)).keyOf u = some (PySem.W.keyToks (d b))) us cs := by
        intro us cs h
        induction h with
        | nil => exact fun _ => .nil
        | cons h1 _ ih =>
          intro hm
          obtain ⟨_, as, r⟩ := h1
          exact .cons (PySem.W.dataKind_some hal (hm _ (by simp)) r) (ih fun c hc => hm c (by simp [hc]))
      exact go e1 fun c hc => List.mem_map.mpr ⟨c, hc, rfl⟩
end
end L2
namespace T3
open PySem PySem.Spec PyProof.Rows L2
section
variable {X : Cx}
theorem rs_zip {K : PySem.W.Frag} {H : Hp} {α : Type} {f : α → D} : ∀ {L : List α} {us : List V}, Rs K H (L.map f) us → ∀ p ∈ L.zip us, R K H (f p.1) p.2 ∧ p.1 ∈ L
  | [], us, h => fun p hp => by simp at hp
  | l :: L, us, h => fun p hp => by
    obtain ⟨v, us', e, r, rs⟩ := Rs.ucons (show Rs K H (f l :: L.map f) _ from h)
    subst e
    rw [List.zip_cons_cons] at hp
    rcases List.mem_cons.mp hp with rfl | hp
    · exact ⟨r, by simp⟩
    · obtain ⟨a, b⟩ := rs_zip rs p hp
      exact ⟨a, by simp [b]⟩
theorem rs_of {K : PySem.W.Frag} {H : Hp} {α : Type} {f : α → D} : ∀ {zs : List (α × V)}, (∀ p ∈ zs, R K H (f p.1) p.2) → Rs K H ((zs.map Prod.fst).map f) (zs.map Prod.snd)
  | [], _ => .nil
  | z :: zs, h => .cons (h z (by simp)) (rs_of fun p hp => h p (by simp [hp]))
end
/-! ### the order of tuples -/
/-- what the order of the data g a is -/
structure LikeLt {α : Type} [DecidableEq α] (f : α → D) (g : α → PyData) (k : Nat) (lt : α → α → Bool) : Prop extends Like f g k where
  al : ∀ a b, PySem.W.alike (g a) (g b) = true
  lt : ∀ a b, PySem.W.dataLt (g a) (g b) = lt a b
/-- lists, sign by sign -/
def lexB {α : Type} [DecidableEq α] (lt : α → α → Bool) : List α → List α → Bool
  | _, [] => false
  | [], _ :: _ => true
  | a :: l, b :: m => if a = b then lexB lt l m else lt a b
theorem toks_nil (ys : List PyData) : PyProof.Rows.lexLt PyProof.Rows.itemOrd (PySem.W.keyToksAll []) (PySem.W.keyToksAll ys) = !ys.isEmpty := by
  cases ys with
  | nil => exact PyProof.Rows.lex_irrefl (O := PyProof.Rows.itemOrd) _
  | cons y ys =>
    rw [PySem.W.toks_all_cons]
    unfold PySem.W.keyToksAll
    rfl
theorem toks_nil2 (x : PyData) (xs : List PyData) : PyProof.Rows.lexLt PyProof.Rows.itemOrd (PySem.W.keyToksAll (x :: xs)) (PySem.W.keyToksAll []) = false := by
  rw [PySem.W.toks_all_cons]
  unfold PySem.W.keyToksAll
  rfl
theorem LikeLt.all {α : Type} [DecidableEq α] {f : α → D} {g : α → PyData} {k : Nat} {lt : α → α → Bool} (h : LikeLt f g k lt) : ∀ l m : List α, PyProof.Rows.lexLt PyProof.Rows.itemOrd (PySem.W.keyToksAll (l.map g)) (PySem.W.keyToksAll (m.map g)) = lexB lt l m
  | [], [] => toks_nil []
  | [], b :: m => toks_nil _
  | a :: l, [] => toks_nil2 _ _
  | a :: l, b :: m => by
    have ih := LikeLt.all h l m
    rw [List.map_cons, List.map_cons]
    show _ = if a = b then lexB lt l m else lt a b
    by_cases e : a = b
    · rw [if_pos e, PySem.W.dataLt_all_yes (h.al a b) (by rw [h.eqv, decide_eq_true e]), ih]
    · rw [if_neg e, PySem.W.dataLt_all_no (h.al a b) (by rw [h.eqv, decide_eq_false e]), h.lt]
theorem LikeLt.tup {α : Type} [DecidableEq α] {f : α → D} {g : α → PyData} {k : Nat} {lt : α → α → Bool} (h : LikeLt f g k lt) : LikeLt (fun l : List α => D.tup (l.map f)) (fun l => PyData.tuple (l.map g)) (k + 1) (lexB lt) := by
  refine ⟨h.toLike.tup, fun l m => ?_, fun l m => ?_⟩
  · show PySem.W.alikeAll (l.map g) (m.map g) = true
    induction l generalizing m with
    | nil => cases m <;> rfl
    | cons a l ih =>
      cases m with
      | nil => rfl
      | cons b m =>
        show (PySem.W.alike (g a) (g b) && PySem.W.alikeAll (l.map g) (m.map g)) = true
        rw [h.al, ih]; rfl
  · rw [PySem.W.dataLt_tuple, h.all]
theorem ltl_int : LikeLt D.int PyData.int 0 (fun a b => decide (a < b)) := ⟨like_int, fun _ _ => rfl, fun a b => PySem.W.dataLt_int a b⟩
theorem ltl_n : LikeLt nD (fun n : Nat => PyData.int n) 0 (fun a b => decide (a < b)) := ⟨like_n, fun _ _ => rfl, fun a b => by rw [PySem.W.dataLt_int]; exact decide_eq_decide.mpr Int.ofNat_lt⟩
theorem ltl_row : LikeLt rwD (fun l : List Nat => PyData.tuple (l.map fun n : Nat => PyData.int n)) 1 (lexB fun a b => decide (a < b)) := ltl_n.tup
theorem ltl_plan : LikeLt plD (fun l : List (List Nat) => PyData.tuple (l.map fun r => PyData.tuple (r.map fun n : Nat => PyData.int n))) 2 (lexB (lexB fun a b => decide (a < b))) := ltl_row.tup
/-- sorted of a list of like things (none an empty tuple, or none a tuple) -/
def dSortA : D → Hd → DK → Prop := fun x M Q => match x with
  | .ref p => ∃ (α : Type) (de : DecidableEq α) (f : α → D) (g : α → PyData) (k : Nat) (lt : α → α → Bool) (L : List α), LikeLt f g k lt ∧ k ≤ 40 ∧ LS M p (L.map f) ∧ PySem.W.Sortable (L.map g) ∧ ∀ L' : List α, L'.Perm L → L'.Pairwise (fun a b => lt b a = false) → ∀ q, M q = none → Q (.ref q) (up M q (.lst (L'.map f)))
  | _ => False
section
variable {X : Cx}
theorem le_total {α : Type} (g : α → PyData) : PySem.W.TotalLe (leA g) := PySem.W.sortLe_total (PyProof.Rows.listOrd PyProof.Rows.itemOrd) false fun a => PySem.W.keyToks (g a)
theorem cd_sortA (hu : X.A.units + 64 < cLine) : CallD X (.builtin "sorted") (d1 dSortA) := by
  refine ⟨_, cr_sortA hu, fun H M xs vs Q Qd rep rs h q => ?_⟩
  obtain ⟨x, rfl, h⟩ := d1_inv h
  obtain ⟨v, rfl, r⟩ := rs.one_
  cases x with
  | ref p =>
    rw [r.ref_]
    obtain ⟨α, de, f, g, k, lt, L, hL, hk, l, hso, h⟩ := h
    obtain ⟨us, s, rs'⟩ := rep.ls l
    have e := rs'.len
    rw [List.length_map] at e
    have ez : (L.zip us).map Prod.snd = us := List.map_snd_zip (by omega)
    have ey : (L.zip us).map Prod.fst = L := List.map_fst_zip (by omega)
    have eg : (L.zip us).map (fun p => g p.1) = L.map g := by
      conv => rhs; rw [← ey, List.map_map]
      rfl
    refine ⟨α × V, p, L.zip us, Prod.snd, fun p => g p.1, rfl, by rw [ez]; exact s, fun b hb => ?_, ?_, by rw [eg]; exact hso, fun b hb => ?_, fun a ha => ?_⟩
    · obtain ⟨h1, h2⟩ := rs_zip rs' b hb
      exact Pd.dp rep _ _ _ (hL.pd M b.1) h1
    · rw [eg]
      intro d hd d' hd'
      obtain ⟨a, _, rfl⟩ := List.mem_map.mp hd
      obtain ⟨b, _, rfl⟩ := List.mem_map.mp hd'
      exact hL.al a b
    · exact Nat.le_trans (hL.dep _) hk
    · have em : ((L.zip us).mergeSort (leA fun p : α × V => g p.1)).map Prod.fst = L.mergeSort (leA g) := by
        rw [PySem.W.sort_maps (r := leA fun p : α × V => g p.1) (s := leA g) Prod.fst (fun _ _ _ _ => rfl), ey]
      have rs2 : Rs X.K H ((L.mergeSort (leA g)).map f) (((L.zip us).mergeSort (leA fun p : α × V => g p.1)).map Prod.snd) := by
        rw [← em]
        exact rs_of fun b hb => (rs_zip rs' b ((List.mergeSort_perm _ _).mem_iff.mp hb)).1
      obtain ⟨g', rep'⟩ := rep.newL ha rs2
      refine q _ _ _ _ g' rep' R.ref' (h _ (List.mergeSort_perm _ _) ((PySem.W.sort_pairwise (le_total g) L).imp fun {a b} hab => ?_) a (rep.free ha))
      unfold leA at hab
      rw [hL.lt, Bool.not_eq_true'] at hab
      exact hab
  | _ => exact h.elim
end
end T3
namespace Lw
open PySem PySem.Spec PyProof.Rows L2 T3
def topS (i : Nat) : Stmt := PySem.Challenge.pw_putbetween_k15_whole_meets_left_out.main.body.getD i (.Pass ⟨0, 0, 0, 0⟩)
abbrev st_is_integer : Stmt := topS 7
theorem sc_is_integer : FnScope ["thing"] ["thing"] (defScope st_is_integer) := ⟨rfl, rfl, rfl, by decide +kernel, rfl, by decide +kernel, by decide +kernel⟩
theorem bi_is_integer {K : PySem.W.Frag} : Bi K "is_integer" st_is_integer ["thing"] := fun _ _ _ _ _ _ us hl => match us, hl with | [_], _ => rfl
abbrev st_is_within : Stmt := topS 8
theorem sc_is_within : FnScope ["thing", "least", "most"] ["thing", "least", "most"] (defScope st_is_within) := ⟨rfl, rfl, rfl, by decide +kernel, rfl, by decide +kernel, by decide +kernel⟩
theorem bi_is_within {K : PySem.W.Frag} : Bi K "is_within" st_is_within ["thing", "least", "most"] := fun _ _ _ _ _ _ us hl => match us, hl with | [_, _, _], _ => rfl
abbrev st_is_listed : Stmt := topS 9
theorem sc_is_listed : FnScope ["thing"] ["thing"] (defScope st_is_listed) := ⟨rfl, rfl, rfl, by decide +kernel, rfl, by decide +kernel, by decide +kernel⟩
theorem bi_is_listed {K : PySem.W.Frag} : Bi K "is_listed" st_is_listed ["thing"] := fun _ _ _ _ _ _ us hl => match us, hl with | [_], _ => rfl
abbrev st_check_most : Stmt := topS 10
theorem sc_check_most : FnScope ["many", "most"] ["many", "most"] (defScope st_check_most) := ⟨rfl, rfl, rfl, by decide +kernel, rfl, by decide +kernel, by decide +kernel⟩
theorem bi_check_most {K : PySem.W.Frag} : Bi K "check_most" st_check_most ["many", "most"] := fun _ _ _ _ _ _ us hl => match us, hl with | [_, _], _ => rfl
abbrev st_ending_of : Stmt := topS 12
theorem sc_ending_of : FnScope ["plan", "found", "seen", "item"] ["plan"] (defScope st_ending_of) := ⟨rfl, rfl, rfl, by decide +kernel, rfl, by decide +kernel, by decide +kernel⟩
theorem bi_ending_of {K : PySem.W.Frag} : Bi K "ending_of" st_ending_of ["plan"] := fun _ _ _ _ _ _ us hl => match us, hl with | [_], _ => rfl
abbrev st_many_chains : Stmt := topS 13
theorem sc_many_chains : FnScope ["plan"] ["plan"] (defScope st_many_chains) := ⟨rfl, rfl, rfl, by decide +kernel, rfl, by decide +kernel, by decide +kernel⟩
theorem bi_many_chains {K : PySem.W.Frag} : Bi K "many_chains" st_many_chains ["plan"] := fun _ _ _ _ _ _ us hl => match us, hl with | [_], _ => rfl
abbrev st_is_hand : Stmt := topS 18
theorem sc_is_hand : FnScope ["thing"] ["thing"] (defScope st_is_hand) := ⟨rfl, rfl, rfl, by decide +kernel, rfl, by decide +kernel, by decide +kernel⟩
theorem bi_is_hand {K : PySem.W.Frag} : Bi K "is_hand" st_is_hand ["thing"] := fun _ _ _ _ _ _ us hl => match us, hl with | [_], _ => rfl
abbrev st_is_event : Stmt := topS 19
theorem sc_is_event : FnScope ["thing"] ["thing"] (defScope st_is_event) := ⟨rfl, rfl, rfl, by decide +kernel, rfl, by decide +kernel, by decide +kernel⟩
theorem bi_is_event {K : PySem.W.Frag} : Bi K "is_event" st_is_event ["thing"] := fun _ _ _ _ _ _ us hl => match us, hl with | [_], _ => rfl
abbrev st_check_day : Stmt := topS 20
theorem sc_check_day : FnScope ["day", "index", "event"] ["day"] (defScope st_check_day) := ⟨rfl, rfl, rfl, by decide +kernel, rfl, by decide +kernel, by decide +kernel⟩
theorem bi_check_day {K : PySem.W.Frag} : Bi K "check_day" st_check_day ["day"] := fun _ _ _ _ _ _ us hl => match us, hl with | [_], _ => rfl
abbrev st_is_put : Stmt := topS 21
theorem sc_is_put : FnScope ["thing"] ["thing"] (defScope st_is_put) := ⟨rfl, rfl, rfl, by decide +kernel, rfl, by decide +kernel, by decide +kernel⟩
theorem bi_is_put {K : PySem.W.Frag} : Bi K "is_put" st_is_put ["thing"] := fun _ _ _ _ _ _ us hl => match us, hl with | [_], _ => rfl
abbrev st_plan_of_day : Stmt := topS 22
theorem sc_plan_of_day : FnScope ["day", "known", "found", "event", "seen", "both", "item"] ["day"] (defScope st_plan_of_day) := ⟨rfl, rfl, rfl, by decide +kernel, rfl, by decide +kernel, by decide +kernel⟩
theorem bi_plan_of_day {K : PySem.W.Frag} : Bi K "plan_of_day" st_plan_of_day ["day"] := fun _ _ _ _ _ _ us hl => match us, hl with | [_], _ => rfl
abbrev st_choices : Stmt := topS 23
theorem sc_choices : FnScope ["items", "size", "found", "turn", "row", "item"] ["items", "size"] (defScope st_choices) := ⟨rfl, rfl, rfl, by decide +kernel, rfl, by decide +kernel, by decide +kernel⟩
theorem bi_choices {K : PySem.W.Frag} : Bi K "choices" st_choices ["items", "size"] := fun _ _ _ _ _ _ us hl => match us, hl with | [_, _], _ => rfl
abbrev st_without : Stmt := topS 24
theorem sc_without : FnScope ["events", "left", "index", "event"] ["events", "left"] (defScope st_without) := ⟨rfl, rfl, rfl, by decide +kernel, rfl, by decide +kernel, by decide +kernel⟩
theorem bi_without {K : PySem.W.Frag} : Bi K "without" st_without ["events", "left"] := fun _ _ _ _ _ _ us hl => match us, hl with | [_, _], _ => rfl
abbrev st_left_out : Stmt := topS 25
theorem sc_left_out : FnScope ["day", "most", "meets", "size", "left", "index", "event"] ["day", "most"] (defScope st_left_out) := ⟨rfl, rfl, rfl, by decide +kernel, rfl, by decide +kernel, by decide +kernel⟩
theorem bi_left_out {K : PySem.W.Frag} : Bi K "left_out" st_left_out ["day", "most"] := fun _ _ _ _ _ _ us hl => match us, hl with | [_, _], _ => rfl
abbrev st__law_pool : Stmt := topS 27
theorem sc__law_pool : FnScope ["_law_script", "_law_rest"] ["_law_script"] (defScope st__law_pool) := ⟨rfl, rfl, rfl, by decide +kernel, rfl, by decide +kernel, by decide +kernel⟩
theorem bi__law_pool {K : PySem.W.Frag} : Bi K "_law_pool" st__law_pool ["_law_script"] := fun _ _ _ _ _ _ us hl => match us, hl with | [_], _ => rfl
abbrev st__law_draw : Stmt := topS 28
theorem sc__law_draw : FnScope ["_law_pool_here", "_law_many", "_law_rest", "_law_turn", "_law_at", "_law_value"] ["_law_pool_here", "_law_many"] (defScope st__law_draw) := ⟨rfl, rfl, rfl, by decide +kernel, rfl, by decide +kernel, by decide +kernel⟩
theorem bi__law_draw {K : PySem.W.Frag} : Bi K "_law_draw" st__law_draw ["_law_pool_here", "_law_many"] := fun _ _ _ _ _ _ us hl => match us, hl with | [_, _], _ => rfl
abbrev st__law_day : Stmt := topS 29
theorem sc__law_day : FnScope ["_law_pool_here", "_law_hands", "_law_low", "_law_most", "_law_meets", "_law_events", "_law_turn", "_law_hand", "_law_other"] ["_law_pool_here"] (defScope st__law_day) := ⟨rfl, rfl, rfl, by decide +kernel, rfl, by decide +kernel, by decide +kernel⟩
theorem bi__law_day {K : PySem.W.Frag} : Bi K "_law_day" st__law_day ["_law_pool_here"] := fun _ _ _ _ _ _ us hl => match us, hl with | [_], _ => rfl
abbrev st__law_chains : Stmt := topS 30
theorem sc__law_chains : FnScope ["_law_events", "_law_known", "_law_ends", "_law_event", "_law_hand", "_law_both", "_law_item"] ["_law_events"] (defScope st__law_chains) := ⟨rfl, rfl, rfl, by decide +kernel, rfl, by decide +kernel, by decide +kernel⟩
theorem bi__law_chains {K : PySem.W.Frag} : Bi K "_law_chains" st__law_chains ["_law_events"] := fun _ _ _ _ _ _ us hl => match us, hl with | [_], _ => rfl
abbrev st__law_without : Stmt := topS 31
theorem sc__law_without : FnScope ["_law_events", "_law_left", "_law_k"] ["_law_events", "_law_left"] (defScope st__law_without) := ⟨rfl, rfl, rfl, by decide +kernel, rfl, by decide +kernel, by decide +kernel⟩
theorem bi__law_without {K : PySem.W.Frag} : Bi K "_law_without" st__law_without ["_law_events", "_law_left"] := fun _ _ _ _ _ _ us hl => match us, hl with | [_, _], _ => rfl
abbrev st__law_choices : Stmt := topS 32
theorem sc__law_choices : FnScope ["_law_events", "_law_found", "_law_k", "_law_row"] ["_law_events"] (defScope st__law_choices) := ⟨rfl, rfl, rfl, by decide +kernel, rfl, by decide +kernel, by decide +kernel⟩
theorem bi__law_choices {K : PySem.W.Frag} : Bi K "_law_choices" st__law_choices ["_law_events"] := fun _ _ _ _ _ _ us hl => match us, hl with | [_], _ => rfl
abbrev st__law_is_row : Stmt := topS 33
theorem sc__law_is_row : FnScope ["_law_actual", "_law_due", "_law_k"] ["_law_actual", "_law_due"] (defScope st__law_is_row) := ⟨rfl, rfl, rfl, by decide +kernel, rfl, by decide +kernel, by decide +kernel⟩
theorem bi__law_is_row {K : PySem.W.Frag} : Bi K "_law_is_row" st__law_is_row ["_law_actual", "_law_due"] := fun _ _ _ _ _ _ us hl => match us, hl with | [_, _], _ => rfl
abbrev st_law : Stmt := topS 34
theorem sc_law : FnScope ["_law_script", "_law_pool_here", "_law_pick", "_law_kind", "_law_events", "_law_ways", "_law_numbers", "_law_most", "_law_day_here", "_law_kept", "_law_found", "_law_good", "_law_left", "_law_k"] ["_law_script"] (defScope st_law) := ⟨rfl, rfl, rfl, by decide +kernel, rfl, by decide +kernel, by decide +kernel⟩
theorem bi_law {K : PySem.W.Frag} : Bi K "law" st_law ["_law_script"] := fun _ _ _ _ _ _ us hl => match us, hl with | [_], _ => rfl
structure Gv (K : PySem.W.Frag) (mg : Str → Option Value) : Prop where
  d_is_integer : Df K mg "is_integer" st_is_integer
  d_is_within : Df K mg "is_within" st_is_within
  d_is_listed : Df K mg "is_listed" st_is_listed
  d_check_most : Df K mg "check_most" st_check_most
  d_ending_of : Df K mg "ending_of" st_ending_of
  d_many_chains : Df K mg "many_chains" st_many_chains
  d_is_hand : Df K mg "is_hand" st_is_hand
  d_is_event : Df K mg "is_event" st_is_event
  d_check_day : Df K mg "check_day" st_check_day
  d_is_put : Df K mg "is_put" st_is_put
  d_plan_of_day : Df K mg "plan_of_day" st_plan_of_day
  d_choices : Df K mg "choices" st_choices
  d_without : Df K mg "without" st_without
  d_left_out : Df K mg "left_out" st_left_out
  d__law_pool : Df K mg "_law_pool" st__law_pool
  d__law_draw : Df K mg "_law_draw" st__law_draw
  d__law_day : Df K mg "_law_day" st__law_day
  d__law_chains : Df K mg "_law_chains" st__law_chains
  d__law_without : Df K mg "_law_without" st__law_without
  d__law_choices : Df K mg "_law_choices" st__law_choices
  d__law_is_row : Df K mg "_law_is_row" st__law_is_row
  d_law : Df K mg "law" st_law
  b_bool : mg "bool" = none
  b_enumerate : mg "enumerate" = none
  b_int : mg "int" = none
  b_isinstance : mg "isinstance" = none
  b_len : mg "len" = none
  b_list : mg "list" = none
  b_range : mg "range" = none
  b_repr : mg "repr" = none
  b_set : mg "set" = none
  b_sorted : mg "sorted" = none
  b_str : mg "str" = none
  b_sum : mg "sum" = none
  b_tuple : mg "tuple" = none
  c_MOST_EVENTS : GI mg "MOST_EVENTS" 60
  c_MOST_HAND : GI mg "MOST_HAND" 15
  c_MOST_ITEMS : GI mg "MOST_ITEMS" 40
  c_MOST_MEETS : GI mg "MOST_MEETS" 10

/-! ### what is asked of what is passed: nothing amiss -/
structure Snd (p : List (List Nat)) : Prop where
  len : p.length ≤ 40
  asc : ∀ r ∈ p, r.Pairwise (· < ·)
  lt : ∀ (i : Nat) (r : List Nat), p[i]? = some r → ∀ x ∈ r, x < i
  tr : ∀ (i : Nat) (r : List Nat), p[i]? = some r → ∀ x ∈ r, ∀ s, p[x]? = some s → ∀ y ∈ s, y ∈ r
section
variable {P : Program} {w : World} {K : PySem.W.Frag} {mg : Str → Option Value} {base : Heap}
theorem pr_is_integer (G : Gv K mg) : Pr P w K mg base "is_integer" 1 ["thing"] (S1 fun x M Q => ∃ i, x = .int i ∧ Q (.bl true) M) := by
  refine (pr3 (k := 0) G.d_is_integer bi_is_integer sc_is_integer S1n (fun f cdv A outer s H E hr => (b_one (s_ret (e_and (e_callB cd_isi (by rfl) G.b_isinstance rfl (a_cons (e_var 0) (a_cons (e_ty (by rfl) G.b_int rfl) a_nil))) (e_one (e_not (e_callB cd_isi (by rfl) G.b_isinstance rfl (a_cons (e_var 0) (a_cons (e_ty (by rfl) G.b_bool rfl) a_nil)))))))))) ?_
  rintro _ M Q E ⟨_, rfl, i, rfl, h⟩ H rep
  refine ⟨M, rep, fun _ h => h, ?_⟩
  simp only [startD, List.map_cons, List.map_nil, List.length_cons, List.length_nil, Nat.reduceAdd, Nat.reduceSub, Nat.zero_add, List.replicate, List.cons_append, List.nil_append]; simp (config := {failIfUnchanged := false}) only [dC, dOp, dTest, dChain, dAnd, dOr, dNot, dAndV, dOrV, dNotV, dIf, dNil, dCons, dTup, dLst, dCB, d1, dNoPart, dPart, dSl, dCut, dNeg, dSorted, dSum, dAll, dAny, dInt, dAbs, dMax, dMin, dIsi, isT, dNext, dSeq, dBrk, dCont, dNever, dExpr, dRet, dRetN, dIfS, dAsg, dPutI, dI0, dI, dIsN, dNotN, dRng1, dRng2, dRngDn, dZipI, dYes, dCall, dLM, dAppend, dExtend, dReverse, dInsert, dAugI, dRg1, dRg2, dTupRg, dLstRg, dNewK, dNewT, ↓S0_, ↓S1_, ↓S2_, ↓S3_, ↓S4_, ↓S5_, ↓S6_, List.map_cons, List.map_nil, List.length_cons, List.length_nil, List.replicate, List.cons_append, List.nil_append, Nat.reduceAdd, Nat.reduceSub, Nat.zero_add, List.getElem?_cons_zero, List.getElem?_cons_succ, Option.some.injEq, exists_eq_left, exists_eq_left', List.set_cons_zero, List.set_cons_succ, wipeD, D.int.injEq, D.bl.injEq, D.str.injEq, D.ref.injEq, D.tup.injEq, D.ty.injEq, true_and, and_true, forall_const, forall_eq', forall_eq, mt_int, mt_bool, mt_str, mt_tuple, mt_list, mt_dict, st_int_int, st_int_bool, st_int_str, st_int_tuple, st_int_list, st_int_dict, st_bool_int, st_bool_bool, st_bool_str, st_bool_tuple, st_bool_list, st_bool_dict, st_str_int, st_str_bool, st_str_str, st_str_tuple, st_str_list, st_str_dict, st_tuple_int, st_tuple_bool, st_tuple_str, st_tuple_tuple, st_tuple_list, st_tuple_dict, st_list_int, st_list_bool, st_list_str, st_list_tuple, st_list_list, st_list_dict, st_dict_int, st_dict_bool, st_dict_str, st_dict_tuple, st_dict_list, st_dict_dict, eq_self, Bool.true_eq_false, Bool.false_eq_true, false_implies, true_implies, implies_true, decide_eq_true_eq, decide_eq_false_iff_not, Bool.not_true, Bool.not_false, Bool.not_eq_true, Bool.not_eq_false, Bool.not_eq_true', Bool.not_eq_false', not_true_eq_false, not_false_eq_true, false_and, and_false, or_false, false_or, reduceCtorEq, ↓exLSu, ↓exDKu, ↓exDKd, ↓exLSd, ↓exLu, ↓dIxRu, ↓dPutu, ↓dGetAu, ↓dEq_int, ↓dNe_int, ↓dEq_bl, ↓dNe_bl, ↓dEq_str, ↓dNe_str, ↓dAdd_int, ↓exAt10, ↓exIx10, ↓exAt20, ↓exIx20, ↓exAt21, ↓exIx21, ↓exAt30, ↓exIx30, ↓exAt31, ↓exIx31, ↓exAt32, ↓exIx32, ↓exAt40, ↓exIx40, ↓exAt41, ↓exIx41, ↓exAt42, ↓exIx42, ↓exAt43, ↓exIx43, ↓exAt50, ↓exIx50, ↓exAt51, ↓exIx51, ↓exAt52, ↓exIx52, ↓exAt53, ↓exIx53, ↓exAt54, ↓exIx54, ↓exAt60, ↓exIx60, ↓exAt61, ↓exIx61, ↓exAt62, ↓exIx62, ↓exAt63, ↓exIx63, ↓exAt64, ↓exIx64, ↓exAt65, ↓exIx65, up_up, false_or, or_false, ↓exAtM, ↓dFlag_bl, ↓exBl, ↓exInt, ↓exRef, ↓dVar0, ↓dAug0, ↓dSet0, ↓dTgN0, ↓dTgW0, ↓dVar1, ↓dAug1, ↓dSet1, ↓dTgN1, ↓dTgW1, ↓dVar2, ↓dAug2, ↓dSet2, ↓dTgN2, ↓dTgW2, ↓dVar3, ↓dAug3, ↓dSet3, ↓dTgN3, ↓dTgW3, ↓dVar4, ↓dAug4, ↓dSet4, ↓dTgN4, ↓dTgW4, ↓dVar5, ↓dAug5, ↓dSet5, ↓dTgN5, ↓dTgW5, ↓dVar6, ↓dAug6, ↓dSet6, ↓dTgN6, ↓dTgW6, ↓dVar7, ↓dAug7, ↓dSet7, ↓dTgN7, ↓dTgW7, ↓dVar8, ↓dAug8, ↓dSet8, ↓dTgN8, ↓dTgW8, ↓dVar9, ↓dAug9, ↓dSet9, ↓dTgN9, ↓dTgW9, ↓dVar10, ↓dAug10, ↓dSet10, ↓dTgN10, ↓dTgW10, ↓dVar11, ↓dAug11, ↓dSet11, ↓dTgN11, ↓dTgW11, ↓dVar12, ↓dAug12, ↓dSet12, ↓dTgN12, ↓dTgW12, ↓dVar13, ↓dAug13, ↓dSet13, ↓dTgN13, ↓dTgW13, ↓dVar14, ↓dAug14, ↓dSet14, ↓dTgN14, ↓dTgW14, ↓dVar15, ↓dAug15, ↓dSet15, ↓dTgN15, ↓dTgW15, ↓dVar16, ↓dAug16, ↓dSet16, ↓dTgN16, ↓dTgW16, ↓dVar17, ↓dAug17, ↓dSet17, ↓dTgN17, ↓dTgW17, ↓dVar18, ↓dAug18, ↓dSet18, ↓dTgN18, ↓dTgW18, ↓dVar19, ↓dAug19, ↓dSet19, ↓dTgN19, ↓dTgW19, ↓dTg_t2, ↓dTg_t3, ↓exGetM, ↓exSumU, nD, plD, rwD, ↓dAdd_tup, ↓dAdd_ref, dIx_tup, dIx_str, dIx_ref, dIx_kl, dListOf_tup, dListOf_kl, dListOf_ref, dLen_tup, dLen_str, dLen_kl, dLen_ref, dTupOf_tup, dTupOf_ref, dSeqI_x, sqX_tup, sqX_ref, sqX_str, dEnumI_x, enX_tup, enX_ref, dSrtSet, dSortA, dIsi2, isT2, Bool.or_true, Bool.true_or, Bool.or_false, Bool.or_self, dReprR, dReprT, dDGet2]
  exact dn0 h
theorem pr_is_within (G : Gv K mg) : Pr P w K mg base "is_within" 2 ["thing", "least", "most"] (S3 fun x a b M Q => ∃ i j k, x = .int i ∧ a = .int j ∧ b = .int k ∧ Q (.bl (decide (j ≤ i) && decide (i ≤ k))) M) := by
  refine (pr3 (k := 1) G.d_is_within bi_is_within sc_is_within S3n (fun f cdv A outer s H E hr => (b_one (s_ret (e_and (e_callP (pr_is_integer G) (hr.mono (by decide)) (by rfl) pass0 (a_cons (e_var 0) a_nil)) (e_one (e_chain od_le od_le (e_var 1) (e_var 0) (e_var 2)))))))) ?_
  rintro _ M Q E ⟨_, _, _, rfl, i, j, k, rfl, rfl, rfl, h⟩ H rep
  refine ⟨M, rep, fun _ h => h, ?_⟩
  simp only [startD, List.map_cons, List.map_nil, List.length_cons, List.length_nil, Nat.reduceAdd, Nat.reduceSub, Nat.zero_add, List.replicate, List.cons_append, List.nil_append]; simp (config := {failIfUnchanged := false}) only [dC, dOp, dTest, dChain, dAnd, dOr, dNot, dAndV, dOrV, dNotV, dIf, dNil, dCons, dTup, dLst, dCB, d1, dNoPart, dPart, dSl, dCut, dNeg, dSorted, dSum, dAll, dAny, dInt, dAbs, dMax, dMin, dIsi, isT, dNext, dSeq, dBrk, dCont, dNever, dExpr, dRet, dRetN, dIfS, dAsg, dPutI, dI0, dI, dIsN, dNotN, dRng1, dRng2, dRngDn, dZipI, dYes, dCall, dLM, dAppend, dExtend, dReverse, dInsert, dAugI, dRg1, dRg2, dTupRg, dLstRg, dNewK, dNewT, ↓S0_, ↓S1_, ↓S2_, ↓S3_, ↓S4_, ↓S5_, ↓S6_, List.map_cons, List.map_nil, List.length_cons, List.length_nil, List.replicate, List.cons_append, List.nil_append, Nat.reduceAdd, Nat.reduceSub, Nat.zero_add, List.getElem?_cons_zero, List.getElem?_cons_succ, Option.some.injEq, exists_eq_left, exists_eq_left', List.set_cons_zero, List.set_cons_succ, wipeD, D.int.injEq, D.bl.injEq, D.str.injEq, D.ref.injEq, D.tup.injEq, D.ty.injEq, true_and, and_true, forall_const, forall_eq', forall_eq, mt_int, mt_bool, mt_str, mt_tuple, mt_list, mt_dict, st_int_int, st_int_bool, st_int_str, st_int_tuple, st_int_list, st_int_dict, st_bool_int, st_bool_bool, st_bool_str, st_bool_tuple, st_bool_list, st_bool_dict, st_str_int, st_str_bool, st_str_str, st_str_tuple, st_str_list, st_str_dict, st_tuple_int, st_tuple_bool, st_tuple_str, st_tuple_tuple, st_tuple_list, st_tuple_dict, st_list_int, st_list_bool, st_list_str, st_list_tuple, st_list_list, st_list_dict, st_dict_int, st_dict_bool, st_dict_str, st_dict_tuple, st_dict_list, st_dict_dict, eq_self, Bool.true_eq_false, Bool.false_eq_true, false_implies, true_implies, implies_true, decide_eq_true_eq, decide_eq_false_iff_not, Bool.not_true, Bool.not_false, Bool.not_eq_true, Bool.not_eq_false, Bool.not_eq_true', Bool.not_eq_false', not_true_eq_false, not_false_eq_true, false_and, and_false, or_false, false_or, reduceCtorEq, ↓exLSu, ↓exDKu, ↓exDKd, ↓exLSd, ↓exLu, ↓dIxRu, ↓dPutu, ↓dGetAu, ↓dEq_int, ↓dNe_int, ↓dEq_bl, ↓dNe_bl, ↓dEq_str, ↓dNe_str, ↓dAdd_int, ↓exAt10, ↓exIx10, ↓exAt20, ↓exIx20, ↓exAt21, ↓exIx21, ↓exAt30, ↓exIx30, ↓exAt31, ↓exIx31, ↓exAt32, ↓exIx32, ↓exAt40, ↓exIx40, ↓exAt41, ↓exIx41, ↓exAt42, ↓exIx42, ↓exAt43, ↓exIx43, ↓exAt50, ↓exIx50, ↓exAt51, ↓exIx51, ↓exAt52, ↓exIx52, ↓exAt53, ↓exIx53, ↓exAt54, ↓exIx54, ↓exAt60, ↓exIx60, ↓exAt61, ↓exIx61, ↓exAt62, ↓exIx62, ↓exAt63, ↓exIx63, ↓exAt64, ↓exIx64, ↓exAt65, ↓exIx65, up_up, false_or, or_false, ↓exAtM, ↓dFlag_bl, ↓exBl, ↓exInt, ↓exRef, ↓dVar0, ↓dAug0, ↓dSet0, ↓dTgN0, ↓dTgW0, ↓dVar1, ↓dAug1, ↓dSet1, ↓dTgN1, ↓dTgW1, ↓dVar2, ↓dAug2, ↓dSet2, ↓dTgN2, ↓dTgW2, ↓dVar3, ↓dAug3, ↓dSet3, ↓dTgN3, ↓dTgW3, ↓dVar4, ↓dAug4, ↓dSet4, ↓dTgN4, ↓dTgW4, ↓dVar5, ↓dAug5, ↓dSet5, ↓dTgN5, ↓dTgW5, ↓dVar6, ↓dAug6, ↓dSet6, ↓dTgN6, ↓dTgW6, ↓dVar7, ↓dAug7, ↓dSet7, ↓dTgN7, ↓dTgW7, ↓dVar8, ↓dAug8, ↓dSet8, ↓dTgN8, ↓dTgW8, ↓dVar9, ↓dAug9, ↓dSet9, ↓dTgN9, ↓dTgW9, ↓dVar10, ↓dAug10, ↓dSet10, ↓dTgN10, ↓dTgW10, ↓dVar11, ↓dAug11, ↓dSet11, ↓dTgN11, ↓dTgW11, ↓dVar12, ↓dAug12, ↓dSet12, ↓dTgN12, ↓dTgW12, ↓dVar13, ↓dAug13, ↓dSet13, ↓dTgN13, ↓dTgW13, ↓dVar14, ↓dAug14, ↓dSet14, ↓dTgN14, ↓dTgW14, ↓dVar15, ↓dAug15, ↓dSet15, ↓dTgN15, ↓dTgW15, ↓dVar16, ↓dAug16, ↓dSet16, ↓dTgN16, ↓dTgW16, ↓dVar17, ↓dAug17, ↓dSet17, ↓dTgN17, ↓dTgW17, ↓dVar18, ↓dAug18, ↓dSet18, ↓dTgN18, ↓dTgW18, ↓dVar19, ↓dAug19, ↓dSet19, ↓dTgN19, ↓dTgW19, ↓dTg_t2, ↓dTg_t3, ↓exGetM, ↓exSumU, nD, plD, rwD, ↓dAdd_tup, ↓dAdd_ref, dIx_tup, dIx_str, dIx_ref, dIx_kl, dListOf_tup, dListOf_kl, dListOf_ref, dLen_tup, dLen_str, dLen_kl, dLen_ref, dTupOf_tup, dTupOf_ref, dSeqI_x, sqX_tup, sqX_ref, sqX_str, dEnumI_x, enX_tup, enX_ref, dSrtSet, dSortA, dIsi2, isT2, Bool.or_true, Bool.true_or, Bool.or_false, Bool.or_self, dReprR, dReprT, dDGet2]
  refine ⟨fun h1 => dn0 ?_, fun h1 => dn0 ?_⟩
  · rw [decide_eq_true h1] at h; exact h
  · rw [decide_eq_false h1] at h; exact h
theorem len_nodup : ∀ (n : Nat) (r : List Nat), r.Nodup → (∀ x ∈ r, x < n) → r.length ≤ n
  | 0, r, _, h => by
    cases r with
    | nil => exact Nat.le_refl _
    | cons a r => exact absurd (h a (by simp)) (by omega)
  | n + 1, r, nd, h => by
    have h1 := len_nodup n (r.erase n) (nd.erase n) fun x hx => by
      have h2 := h x (List.mem_of_mem_erase hx)
      have h3 : x ≠ n := fun e => by
        subst e
        exact (List.Nodup.not_mem_erase nd) hx
      omega
    have := List.length_erase (a := n) (l := r)
    split at this <;> omega
theorem len_rows {p : List (List Nat)} (S : Snd p) {r : List Nat} (h : r ∈ p) : r.length ≤ 40 := by
  obtain ⟨i, hi⟩ := List.getElem?_of_mem h
  have h1 := S.asc r h
  have h2 : ∀ x ∈ r, x < 40 := fun x hx => by
    have a := S.lt i r hi x hx
    have b := (List.getElem?_eq_some_iff.mp hi).1
    have := S.len
    omega
  have : r ⊆ List.range 40 := fun x hx => List.mem_range.mpr (h2 x hx)
  have nd : r.Nodup := h1.imp fun h => Nat.ne_of_lt h
  exact len_nodup 40 r nd h2
theorem fold_in (r : List Nat) (m : Nat) (h : m ∈ r) : (valD (r.foldl (fun acc (n : Nat) => putKD acc (.inl (n : Int) : Key) (D.bl true)) []) (.inl (m : Int))).isSome = true := by
  exact (valD_fold (fun n : Nat => (.inl (n : Int) : Key)) (fun _ => D.bl true) r [] (.inl (m : Int))).mpr (.inl ⟨m, h, rfl⟩)
end
/-! ### the pool -/
def G1 (ns ms : List Int) : Prop := ns ≠ [] ∧ ns.length ≤ 64 ∧ ∃ t, ms = [t] ∧ 0 ≤ t
def Pool (M : Hd) (x : D) : Prop := ∃ p, x = .ref p ∧ Duo G1 M p
section
variable {P : Program} {w : World} {K : PySem.W.Frag} {mg : Str → Option Value} {base : Heap}
theorem pr__law_pool (G : Gv K mg) : Pr P w K mg base "_law_pool" 1 ["_law_script"] (S1 fun x M Q => ∃ ns : List Int, ns.length ≤ 63 ∧ Scr x M ns ∧ ∀ y M', Pool M' y → Q y M') := by
  refine (pr3 (k := 0) G.d__law_pool bi__law_pool sc__law_pool S1n (fun f cdv A outer s H E hr => (b_cons (s_set 1 sc__law_pool.nd (e_callTy (cd_list rfl) (by rfl) G.b_list rfl (a_cons (e_var 0) a_nil)))
      (b_cons (s_if (t_cmp (od_eq (hu3 hr)) (e_callB cd_len (by rfl) G.b_len rfl (a_cons (e_var 1) a_nil)) e_int) (b_one (s_set 1 sc__law_pool.nd (e_lst (a_cons e_int a_nil)))) b_nil)
      (b_one (s_ret (e_lst (a_cons (e_var 1) (a_cons e_int a_nil))))))))) ?_
  rintro _ M Q E ⟨x, rfl, ns, hl, hs, h⟩ H rep
  refine ⟨M, rep, fun _ h => h, ?_⟩
  have key : ∀ q, M q = none → (((ns.map D.int).length : Int) = 0 → ∀ p, up M q (.lst (ns.map D.int)) p = none → ∀ p1, up (up M q (.lst (ns.map D.int))) p (.lst [.int 5]) p1 = none →
      ∃ M2, Fgt K (up (up (up M q (.lst (ns.map D.int))) p (.lst [.int 5])) p1 (.lst [.ref p, .int 0])) M2 ∧ Q (.ref p1) M2) ∧ (¬ ((ns.map D.int).length : Int) = 0 → ∀ p, up M q (.lst (ns.map D.int)) p = none → ∃ M2, Fgt K (up (up M q (.lst (ns.map D.int))) p (.lst [.ref q, .int 0])) M2 ∧ Q (.ref p) M2) := by
    refine fun q hq => ⟨fun _ p hp p1 hp1 => ?_, fun e p hp => ?_⟩
    · have ne : p ≠ p1 := by rintro rfl; rw [up_same] at hp1; cases hp1
      exact ⟨_, duo_new (G := G1) (ns := [5]) (ms := [0]) ne ⟨by simp, by simp, 0, rfl, by omega⟩, h _ _ ⟨p1, rfl, p, up_same, by rw [up_ne ne, up_same]⟩⟩
    · have ne : q ≠ p := by rintro rfl; rw [up_same] at hp; cases hp
      refine ⟨_, duo_new (G := G1) (ns := ns) (ms := [0]) ne ⟨fun z => e (by rw [z]; rfl), by omega, 0, rfl, by omega⟩, h _ _ ⟨p, rfl, q, up_same, by rw [up_ne ne, up_same]⟩⟩
  rcases hs with ⟨p, rfl, hp, _⟩ | ⟨p, rfl, _⟩
  · simp only [startD, List.map_cons, List.map_nil, List.length_cons, List.length_nil, Nat.reduceAdd, Nat.reduceSub, Nat.zero_add, List.replicate, List.cons_append, List.nil_append]; simp (config := {failIfUnchanged := false}) only [dC, dOp, dTest, dChain, dAnd, dOr, dNot, dAndV, dOrV, dNotV, dIf, dNil, dCons, dTup, dLst, dCB, d1, dNoPart, dPart, dSl, dCut, dNeg, dSorted, dSum, dAll, dAny, dInt, dAbs, dMax, dMin, dIsi, isT, dNext, dSeq, dBrk, dCont, dNever, dExpr, dRet, dRetN, dIfS, dAsg, dPutI, dI0, dI, dIsN, dNotN, dRng1, dRng2, dRngDn, dZipI, dYes, dCall, dLM, dAppend, dExtend, dReverse, dInsert, dAugI, dRg1, dRg2, dTupRg, dLstRg, dNewK, dNewT, ↓S0_, ↓S1_, ↓S2_, ↓S3_, ↓S4_, ↓S5_, ↓S6_, List.map_cons, List.map_nil, List.length_cons, List.length_nil, List.replicate, List.cons_append, List.nil_append, Nat.reduceAdd, Nat.reduceSub, Nat.zero_add, List.getElem?_cons_zero, List.getElem?_cons_succ, Option.some.injEq, exists_eq_left, exists_eq_left', List.set_cons_zero, List.set_cons_succ, wipeD, D.int.injEq, D.bl.injEq, D.str.injEq, D.ref.injEq, D.tup.injEq, D.ty.injEq, true_and, and_true, forall_const, forall_eq', forall_eq, mt_int, mt_bool, mt_str, mt_tuple, mt_list, mt_dict, st_int_int, st_int_bool, st_int_str, st_int_tuple, st_int_list, st_int_dict, st_bool_int, st_bool_bool, st_bool_str, st_bool_tuple, st_bool_list, st_bool_dict, st_str_int, st_str_bool, st_str_str, st_str_tuple, st_str_list, st_str_dict, st_tuple_int, st_tuple_bool, st_tuple_str, st_tuple_tuple, st_tuple_list, st_tuple_dict, st_list_int, st_list_bool, st_list_str, st_list_tuple, st_list_list, st_list_dict, st_dict_int, st_dict_bool, st_dict_str, st_dict_tuple, st_dict_list, st_dict_dict, eq_self, Bool.true_eq_false, Bool.false_eq_true, false_implies, true_implies, implies_true, decide_eq_true_eq, decide_eq_false_iff_not, Bool.not_true, Bool.not_false, Bool.not_eq_true, Bool.not_eq_false, Bool.not_eq_true', Bool.not_eq_false', not_true_eq_false, not_false_eq_true, false_and, and_false, or_false, false_or, reduceCtorEq, ↓exLSu, ↓exDKu, ↓exDKd, ↓exLSd, ↓exLu, ↓dIxRu, ↓dPutu, ↓dGetAu, ↓dEq_int, ↓dNe_int, ↓dEq_bl, ↓dNe_bl, ↓dEq_str, ↓dNe_str, ↓dAdd_int, ↓exAt10, ↓exIx10, ↓exAt20, ↓exIx20, ↓exAt21, ↓exIx21, ↓exAt30, ↓exIx30, ↓exAt31, ↓exIx31, ↓exAt32, ↓exIx32, ↓exAt40, ↓exIx40, ↓exAt41, ↓exIx41, ↓exAt42, ↓exIx42, ↓exAt43, ↓exIx43, ↓exAt50, ↓exIx50, ↓exAt51, ↓exIx51, ↓exAt52, ↓exIx52, ↓exAt53, ↓exIx53, ↓exAt54, ↓exIx54, ↓exAt60, ↓exIx60, ↓exAt61, ↓exIx61, ↓exAt62, ↓exIx62, ↓exAt63, ↓exIx63, ↓exAt64, ↓exIx64, ↓exAt65, ↓exIx65, up_up, false_or, or_false, ↓exAtM, ↓dFlag_bl, ↓exBl, ↓exInt, ↓exRef, ↓dVar0, ↓dAug0, ↓dSet0, ↓dTgN0, ↓dTgW0, ↓dVar1, ↓dAug1, ↓dSet1, ↓dTgN1, ↓dTgW1, ↓dVar2, ↓dAug2, ↓dSet2, ↓dTgN2, ↓dTgW2, ↓dVar3, ↓dAug3, ↓dSet3, ↓dTgN3, ↓dTgW3, ↓dVar4, ↓dAug4, ↓dSet4, ↓dTgN4, ↓dTgW4, ↓dVar5, ↓dAug5, ↓dSet5, ↓dTgN5, ↓dTgW5, ↓dVar6, ↓dAug6, ↓dSet6, ↓dTgN6, ↓dTgW6, ↓dVar7, ↓dAug7, ↓dSet7, ↓dTgN7, ↓dTgW7, ↓dVar8, ↓dAug8, ↓dSet8, ↓dTgN8, ↓dTgW8, ↓dVar9, ↓dAug9, ↓dSet9, ↓dTgN9, ↓dTgW9, ↓dVar10, ↓dAug10, ↓dSet10, ↓dTgN10, ↓dTgW10, ↓dVar11, ↓dAug11, ↓dSet11, ↓dTgN11, ↓dTgW11, ↓dVar12, ↓dAug12, ↓dSet12, ↓dTgN12, ↓dTgW12, ↓dVar13, ↓dAug13, ↓dSet13, ↓dTgN13, ↓dTgW13, ↓dVar14, ↓dAug14, ↓dSet14, ↓dTgN14, ↓dTgW14, ↓dVar15, ↓dAug15, ↓dSet15, ↓dTgN15, ↓dTgW15, ↓dVar16, ↓dAug16, ↓dSet16, ↓dTgN16, ↓dTgW16, ↓dVar17, ↓dAug17, ↓dSet17, ↓dTgN17, ↓dTgW17, ↓dVar18, ↓dAug18, ↓dSet18, ↓dTgN18, ↓dTgW18, ↓dVar19, ↓dAug19, ↓dSet19, ↓dTgN19, ↓dTgW19, ↓dTg_t2, ↓dTg_t3, ↓exGetM, ↓exSumU, nD, plD, rwD, ↓dAdd_tup, ↓dAdd_ref, dIx_tup, dIx_str, dIx_ref, dIx_kl, dListOf_tup, dListOf_kl, dListOf_ref, dLen_tup, dLen_str, dLen_kl, dLen_ref, dTupOf_tup, dTupOf_ref, dSeqI_x, sqX_tup, sqX_ref, sqX_str, dEnumI_x, enX_tup, enX_ref, dSrtSet, dSortA, dIsi2, isT2, Bool.or_true, Bool.true_or, Bool.or_false, Bool.or_self, dReprR, dReprT, dDGet2, ↓exLSz hp, ↓exDKz hp]
    exact key
  · simp only [startD, List.map_cons, List.map_nil, List.length_cons, List.length_nil, Nat.reduceAdd, Nat.reduceSub, Nat.zero_add, List.replicate, List.cons_append, List.nil_append]; simp (config := {failIfUnchanged := false}) only [dC, dOp, dTest, dChain, dAnd, dOr, dNot, dAndV, dOrV, dNotV, dIf, dNil, dCons, dTup, dLst, dCB, d1, dNoPart, dPart, dSl, dCut, dNeg, dSorted, dSum, dAll, dAny, dInt, dAbs, dMax, dMin, dIsi, isT, dNext, dSeq, dBrk, dCont, dNever, dExpr, dRet, dRetN, dIfS, dAsg, dPutI, dI0, dI, dIsN, dNotN, dRng1, dRng2, dRngDn, dZipI, dYes, dCall, dLM, dAppend, dExtend, dReverse, dInsert, dAugI, dRg1, dRg2, dTupRg, dLstRg, dNewK, dNewT, ↓S0_, ↓S1_, ↓S2_, ↓S3_, ↓S4_, ↓S5_, ↓S6_, List.map_cons, List.map_nil, List.length_cons, List.length_nil, List.replicate, List.cons_append, List.nil_append, Nat.reduceAdd, Nat.reduceSub, Nat.zero_add, List.getElem?_cons_zero, List.getElem?_cons_succ, Option.some.injEq, exists_eq_left, exists_eq_left', List.set_cons_zero, List.set_cons_succ, wipeD, D.int.injEq, D.bl.injEq, D.str.injEq, D.ref.injEq, D.tup.injEq, D.ty.injEq, true_and, and_true, forall_const, forall_eq', forall_eq, mt_int, mt_bool, mt_str, mt_tuple, mt_list, mt_dict, st_int_int, st_int_bool, st_int_str, st_int_tuple, st_int_list, st_int_dict, st_bool_int, st_bool_bool, st_bool_str, st_bool_tuple, st_bool_list, st_bool_dict, st_str_int, st_str_bool, st_str_str, st_str_tuple, st_str_list, st_str_dict, st_tuple_int, st_tuple_bool, st_tuple_str, st_tuple_tuple, st_tuple_list, st_tuple_dict, st_list_int, st_list_bool, st_list_str, st_list_tuple, st_list_list, st_list_dict, st_dict_int, st_dict_bool, st_dict_str, st_dict_tuple, st_dict_list, st_dict_dict, eq_self, Bool.true_eq_false, Bool.false_eq_true, false_implies, true_implies, implies_true, decide_eq_true_eq, decide_eq_false_iff_not, Bool.not_true, Bool.not_false, Bool.not_eq_true, Bool.not_eq_false, Bool.not_eq_true', Bool.not_eq_false', not_true_eq_false, not_false_eq_true, false_and, and_false, or_false, false_or, reduceCtorEq, ↓exLSu, ↓exDKu, ↓exDKd, ↓exLSd, ↓exLu, ↓dIxRu, ↓dPutu, ↓dGetAu, ↓dEq_int, ↓dNe_int, ↓dEq_bl, ↓dNe_bl, ↓dEq_str, ↓dNe_str, ↓dAdd_int, ↓exAt10, ↓exIx10, ↓exAt20, ↓exIx20, ↓exAt21, ↓exIx21, ↓exAt30, ↓exIx30, ↓exAt31, ↓exIx31, ↓exAt32, ↓exIx32, ↓exAt40, ↓exIx40, ↓exAt41, ↓exIx41, ↓exAt42, ↓exIx42, ↓exAt43, ↓exIx43, ↓exAt50, ↓exIx50, ↓exAt51, ↓exIx51, ↓exAt52, ↓exIx52, ↓exAt53, ↓exIx53, ↓exAt54, ↓exIx54, ↓exAt60, ↓exIx60, ↓exAt61, ↓exIx61, ↓exAt62, ↓exIx62, ↓exAt63, ↓exIx63, ↓exAt64, ↓exIx64, ↓exAt65, ↓exIx65, up_up, false_or, or_false, ↓exAtM, ↓dFlag_bl, ↓exBl, ↓exInt, ↓exRef, ↓dVar0, ↓dAug0, ↓dSet0, ↓dTgN0, ↓dTgW0, ↓dVar1, ↓dAug1, ↓dSet1, ↓dTgN1, ↓dTgW1, ↓dVar2, ↓dAug2, ↓dSet2, ↓dTgN2, ↓dTgW2, ↓dVar3, ↓dAug3, ↓dSet3, ↓dTgN3, ↓dTgW3, ↓dVar4, ↓dAug4, ↓dSet4, ↓dTgN4, ↓dTgW4, ↓dVar5, ↓dAug5, ↓dSet5, ↓dTgN5, ↓dTgW5, ↓dVar6, ↓dAug6, ↓dSet6, ↓dTgN6, ↓dTgW6, ↓dVar7, ↓dAug7, ↓dSet7, ↓dTgN7, ↓dTgW7, ↓dVar8, ↓dAug8, ↓dSet8, ↓dTgN8, ↓dTgW8, ↓dVar9, ↓dAug9, ↓dSet9, ↓dTgN9, ↓dTgW9, ↓dVar10, ↓dAug10, ↓dSet10, ↓dTgN10, ↓dTgW10, ↓dVar11, ↓dAug11, ↓dSet11, ↓dTgN11, ↓dTgW11, ↓dVar12, ↓dAug12, ↓dSet12, ↓dTgN12, ↓dTgW12, ↓dVar13, ↓dAug13, ↓dSet13, ↓dTgN13, ↓dTgW13, ↓dVar14, ↓dAug14, ↓dSet14, ↓dTgN14, ↓dTgW14, ↓dVar15, ↓dAug15, ↓dSet15, ↓dTgN15, ↓dTgW15, ↓dVar16, ↓dAug16, ↓dSet16, ↓dTgN16, ↓dTgW16, ↓dVar17, ↓dAug17, ↓dSet17, ↓dTgN17, ↓dTgW17, ↓dVar18, ↓dAug18, ↓dSet18, ↓dTgN18, ↓dTgW18, ↓dVar19, ↓dAug19, ↓dSet19, ↓dTgN19, ↓dTgW19, ↓dTg_t2, ↓dTg_t3, ↓exGetM, ↓exSumU, nD, plD, rwD, ↓dAdd_tup, ↓dAdd_ref, dIx_tup, dIx_str, dIx_ref, dIx_kl, dListOf_tup, dListOf_kl, dListOf_ref, dLen_tup, dLen_str, dLen_kl, dLen_ref, dTupOf_tup, dTupOf_ref, dSeqI_x, sqX_tup, sqX_ref, sqX_str, dEnumI_x, enX_tup, enX_ref, dSrtSet, dSortA, dIsi2, isT2, Bool.or_true, Bool.true_or, Bool.or_false, Bool.or_self, dReprR, dReprT, dDGet2]
    exact key
theorem pr__law_draw (G : Gv K mg) : Pr P w K mg base "_law_draw" 1 ["_law_pool_here", "_law_many"] (S2 fun x m M Q => ∃ (k : Nat), m = nD k ∧ Pool M x ∧ 0 < k ∧ k < 1073741824 ∧ ∀ v : Nat, v < k → Q (nD v) M) := by
  refine (pr3 (k := 0) G.d__law_draw bi__law_draw sc__law_draw S2n (fun f cdv A outer s H E hr => (b_cons (s_set 2 sc__law_draw.nd (e_ix (ixd (hu_of hr)) (e_var 0) e_int))
      (b_cons (s_set 3 sc__law_draw.nd (e_ix (ixd (hu_of hr)) (e_var 0) e_int))
      (b_cons (s_put (put3 (hu_of hr)) (e_var 0) e_int (e_op od_add (e_var 3) e_int))
      (b_cons (s_set 4 sc__law_draw.nd (e_op od_mod (e_callTy cd_int (by rfl) G.b_int rfl (a_cons (e_var 3) a_nil)) (e_callB cd_len (by rfl) G.b_len rfl (a_cons (e_var 2) a_nil))))
      (b_cons (s_set 5 sc__law_draw.nd (e_ix (ixd (hu_of hr)) (e_var 2) (e_var 4)))
      (b_cons (s_if (t_cmp od_ge (e_var 5) (e_op od_pow e_int e_int)) (b_cons (s_put (put3 (hu_of hr)) (e_var 2) (e_var 4) (e_op od_fdiv (e_var 5) (e_var 1)))
      (b_one (s_ret (e_op od_mod (e_callTy cd_int (by rfl) G.b_int rfl (a_cons (e_var 5) a_nil)) (e_var 1))))) b_nil)
      (b_cons (s_set 5 sc__law_draw.nd (e_op od_mod (e_op od_mul (e_callTy cd_int (by rfl) G.b_int rfl (a_cons (e_op od_add (e_op od_add (e_var 5) (e_op od_mul e_int (e_var 3))) e_int) a_nil)) e_int) e_int))
      (b_cons (s_set 5 sc__law_draw.nd (e_op od_mod (e_op od_mul (e_callTy cd_int (by rfl) G.b_int rfl (a_cons (e_var 5) a_nil)) (e_op od_add (e_op od_fdiv (e_var 5) e_int) e_int)) e_int))
      (b_cons (s_set 5 sc__law_draw.nd (e_op od_mod (e_op od_mul (e_callTy cd_int (by rfl) G.b_int rfl (a_cons (e_var 5) a_nil)) (e_op od_add (e_op od_fdiv (e_var 5) e_int) e_int)) e_int))
      (b_one (s_ret (e_op od_mod (e_callTy cd_int (by rfl) G.b_int rfl (a_cons (e_var 5) a_nil)) (e_var 1))))))))))))))) ?_
  rintro _ M Q E ⟨_, _, rfl, k, rfl, ⟨p, rfl, hp⟩, hk, hk2, h⟩ H rep
  obtain ⟨r, ns, ms, ne, h2, h1, ⟨g1, g2, t, rfl, g3⟩, rep'⟩ := duo_open rep hp
  refine ⟨_, rep', fun a ha => ?_, ?_⟩
  · have n1 : a ≠ p := by rintro rfl; rw [h1] at ha; cases ha
    have n2 : a ≠ r := by rintro rfl; rw [h2] at ha; cases ha
    rw [up_ne n1, up_ne n2]; exact ha
  · simp only [startD, List.map_cons, List.map_nil, List.length_cons, List.length_nil, Nat.reduceAdd, Nat.reduceSub, Nat.zero_add, List.replicate, List.cons_append, List.nil_append]; simp (config := {failIfUnchanged := false}) only [dC, dOp, dTest, dChain, dAnd, dOr, dNot, dAndV, dOrV, dNotV, dIf, dNil, dCons, dTup, dLst, dCB, d1, dNoPart, dPart, dSl, dCut, dNeg, dSorted, dSum, dAll, dAny, dInt, dAbs, dMax, dMin, dIsi, isT, dNext, dSeq, dBrk, dCont, dNever, dExpr, dRet, dRetN, dIfS, dAsg, dPutI, dI0, dI, dIsN, dNotN, dRng1, dRng2, dRngDn, dZipI, dYes, dCall, dLM, dAppend, dExtend, dReverse, dInsert, dAugI, dRg1, dRg2, dTupRg, dLstRg, dNewK, dNewT, ↓S0_, ↓S1_, ↓S2_, ↓S3_, ↓S4_, ↓S5_, ↓S6_, List.map_cons, List.map_nil, List.length_cons, List.length_nil, List.replicate, List.cons_append, List.nil_append, Nat.reduceAdd, Nat.reduceSub, Nat.zero_add, List.getElem?_cons_zero, List.getElem?_cons_succ, Option.some.injEq, exists_eq_left, exists_eq_left', List.set_cons_zero, List.set_cons_succ, wipeD, D.int.injEq, D.bl.injEq, D.str.injEq, D.ref.injEq, D.tup.injEq, D.ty.injEq, true_and, and_true, forall_const, forall_eq', forall_eq, mt_int, mt_bool, mt_str, mt_tuple, mt_list, mt_dict, st_int_int, st_int_bool, st_int_str, st_int_tuple, st_int_list, st_int_dict, st_bool_int, st_bool_bool, st_bool_str, st_bool_tuple, st_bool_list, st_bool_dict, st_str_int, st_str_bool, st_str_str, st_str_tuple, st_str_list, st_str_dict, st_tuple_int, st_tuple_bool, st_tuple_str, st_tuple_tuple, st_tuple_list, st_tuple_dict, st_list_int, st_list_bool, st_list_str, st_list_tuple, st_list_list, st_list_dict, st_dict_int, st_dict_bool, st_dict_str, st_dict_tuple, st_dict_list, st_dict_dict, eq_self, Bool.true_eq_false, Bool.false_eq_true, false_implies, true_implies, implies_true, decide_eq_true_eq, decide_eq_false_iff_not, Bool.not_true, Bool.not_false, Bool.not_eq_true, Bool.not_eq_false, Bool.not_eq_true', Bool.not_eq_false', not_true_eq_false, not_false_eq_true, false_and, and_false, or_false, false_or, reduceCtorEq, ↓exLSu, ↓exDKu, ↓exDKd, ↓exLSd, ↓exLu, ↓dIxRu, ↓dPutu, ↓dGetAu, ↓dEq_int, ↓dNe_int, ↓dEq_bl, ↓dNe_bl, ↓dEq_str, ↓dNe_str, ↓dAdd_int, ↓exAt10, ↓exIx10, ↓exAt20, ↓exIx20, ↓exAt21, ↓exIx21, ↓exAt30, ↓exIx30, ↓exAt31, ↓exIx31, ↓exAt32, ↓exIx32, ↓exAt40, ↓exIx40, ↓exAt41, ↓exIx41, ↓exAt42, ↓exIx42, ↓exAt43, ↓exIx43, ↓exAt50, ↓exIx50, ↓exAt51, ↓exIx51, ↓exAt52, ↓exIx52, ↓exAt53, ↓exIx53, ↓exAt54, ↓exIx54, ↓exAt60, ↓exIx60, ↓exAt61, ↓exIx61, ↓exAt62, ↓exIx62, ↓exAt63, ↓exIx63, ↓exAt64, ↓exIx64, ↓exAt65, ↓exIx65, up_up, false_or, or_false, ↓exAtM, ↓dFlag_bl, ↓exBl, ↓exInt, ↓exRef, ↓dVar0, ↓dAug0, ↓dSet0, ↓dTgN0, ↓dTgW0, ↓dVar1, ↓dAug1, ↓dSet1, ↓dTgN1, ↓dTgW1, ↓dVar2, ↓dAug2, ↓dSet2, ↓dTgN2, ↓dTgW2, ↓dVar3, ↓dAug3, ↓dSet3, ↓dTgN3, ↓dTgW3, ↓dVar4, ↓dAug4, ↓dSet4, ↓dTgN4, ↓dTgW4, ↓dVar5, ↓dAug5, ↓dSet5, ↓dTgN5, ↓dTgW5, ↓dVar6, ↓dAug6, ↓dSet6, ↓dTgN6, ↓dTgW6, ↓dVar7, ↓dAug7, ↓dSet7, ↓dTgN7, ↓dTgW7, ↓dVar8, ↓dAug8, ↓dSet8, ↓dTgN8, ↓dTgW8, ↓dVar9, ↓dAug9, ↓dSet9, ↓dTgN9, ↓dTgW9, ↓dVar10, ↓dAug10, ↓dSet10, ↓dTgN10, ↓dTgW10, ↓dVar11, ↓dAug11, ↓dSet11, ↓dTgN11, ↓dTgW11, ↓dVar12, ↓dAug12, ↓dSet12, ↓dTgN12, ↓dTgW12, ↓dVar13, ↓dAug13, ↓dSet13, ↓dTgN13, ↓dTgW13, ↓dVar14, ↓dAug14, ↓dSet14, ↓dTgN14, ↓dTgW14, ↓dVar15, ↓dAug15, ↓dSet15, ↓dTgN15, ↓dTgW15, ↓dVar16, ↓dAug16, ↓dSet16, ↓dTgN16, ↓dTgW16, ↓dVar17, ↓dAug17, ↓dSet17, ↓dTgN17, ↓dTgW17, ↓dVar18, ↓dAug18, ↓dSet18, ↓dTgN18, ↓dTgW18, ↓dVar19, ↓dAug19, ↓dSet19, ↓dTgN19, ↓dTgW19, ↓dTg_t2, ↓dTg_t3, ↓exGetM, ↓exSumU, nD, plD, rwD, ↓dAdd_tup, ↓dAdd_ref, dIx_tup, dIx_str, dIx_ref, dIx_kl, dListOf_tup, dListOf_kl, dListOf_ref, dLen_tup, dLen_str, dLen_kl, dLen_ref, dTupOf_tup, dTupOf_ref, dSeqI_x, sqX_tup, sqX_ref, sqX_str, dEnumI_x, enX_tup, enX_ref, dSrtSet, dSortA, dIsi2, isT2, Bool.or_true, Bool.true_or, Bool.or_false, Bool.or_self, dReprR, dReprT, dDGet2, nD, ↓exLSn ne, ↓exDKn ne, ↓dIxRn ne, ↓exLn ne, ↓dPutn ne, List.set_cons_zero, List.set_cons_succ]
    have hl : 0 < ((ns.map D.int).length : Int) := by
      rw [List.length_map]
      have := List.length_pos_iff.mpr g1
      omega
    have i0 : 0 ≤ t % ((ns.map D.int).length : Int) := Int.emod_nonneg _ (by omega)
    have i1 : t % ((ns.map D.int).length : Int) < ((ns.map D.int).length : Nat) := Int.emod_lt_of_pos _ hl
    obtain ⟨a, ha, _⟩ := atI_lt (ys := ns) i0 (by rw [List.length_map] at i1 ⊢; exact i1)
    refine ⟨hl, a, ha, by unfold CPow; omega, fun _ => ⟨cd_k hk hk2, (t % ((ns.map D.int).length : Int)).toNat, ixN_lt i0 i1, by omega, ?_⟩, fun _ => ?_⟩
    · obtain ⟨v, hv, e⟩ := drawn (x := a) hk
      rw [e]
      refine ⟨M, ?_, h v hv⟩
      have := duo_close (K := K) (ns := ns.set (t % ((ns.map D.int).length : Int)).toNat (a / (k : Int))) (ms := [t + 1]) h1 h2 ⟨by intro z; exact g1 (by simpa using z), by rw [List.length_set]; exact g2, t + 1, rfl, by omega⟩
      rw [List.map_set] at this
      exact this
    · refine ⟨cm_l (by decide) (by decide), cm_r (by decide) (by decide), by decide, ⟨by decide, by decide⟩, cm_l (by omega) (by omega), by decide, ⟨by decide, by decide⟩, cm_l (by omega) (by omega), by decide, by omega, ?_⟩
      generalize (_ % 2147483399 : Int) = x
      obtain ⟨v, hv, e⟩ := drawn (x := x) hk
      rw [e]
      refine ⟨M, ?_, h v hv⟩
      exact duo_close (K := K) (ns := ns) (ms := [t + 1]) h1 h2 ⟨g1, g2, t + 1, rfl, by omega⟩
end
def MGrid (M0 M : Hd) (refs : List Addr) (rows : List (List Nat)) : Prop := Sub M M0 ∧ refs.Nodup ∧ refs.length = rows.length ∧ ∀ (i : Nat) (a : Addr) (r : List Nat), refs[i]? = some a → rows[i]? = some r → M0 a = none ∧ M a = some (.lst (r.map nD))
theorem MGrid.here {M0 M : Hd} {refs : List Addr} {rows : List (List Nat)} (g : MGrid M0 M refs rows) {a : Addr} (h : a ∈ refs) : M0 a = none ∧ ∃ r, M a = some (.lst r) := by
  obtain ⟨i, hi⟩ := List.getElem?_of_mem h
  have hl : i < rows.length := by rw [← g.2.2.1]; exact (List.getElem?_eq_some_iff.mp hi).1
  obtain ⟨h1, h2⟩ := g.2.2.2 i a _ hi (List.getElem?_eq_getElem hl)
  exact ⟨h1, _, h2⟩
theorem MGrid.sub_up {M0 M : Hd} (sb : Sub M M0) {w : Addr} {xs : List D} (h0 : M0 w = none) : Sub (up M w (.lst xs)) M0 := by
  refine ⟨fun q o e => ?_, fun q c e => ?_⟩
  · have n2 : q ≠ w := by rintro rfl; rw [h0] at e; cases e
    rw [up_ne n2]
    exact sb.1 q o e
  · have n2 : q ≠ w := by rintro rfl; rw [up_same] at e; cases e
    rw [up_ne n2] at e
    exact sb.2 q c e
theorem MGrid.add {M0 M : Hd} {refs : List Addr} {rows : List (List Nat)} (g : MGrid M0 M refs rows) {w : Addr} (hw : M w = none) (r : List Nat) : MGrid M0 (up M w (.lst (r.map nD))) (refs ++ [w]) (rows ++ [r]) := by
  have nw : w ∉ refs := fun h => by
    obtain ⟨_, r, h2⟩ := g.here h
    rw [hw] at h2; cases h2
  refine ⟨MGrid.sub_up g.1 (g.1.free hw), ?_, by rw [List.length_append, List.length_append, g.2.2.1]; rfl, ?_⟩
  · rw [List.nodup_append]
    exact ⟨g.2.1, by simp, fun a ha b hb => by
      rw [List.mem_singleton] at hb
      subst hb
      exact fun z => nw (z ▸ ha)⟩
  · intro i a r' h3 h4
    by_cases hi : i < refs.length
    · rw [List.getElem?_append_left hi] at h3
      rw [List.getElem?_append_left (by rw [← g.2.2.1]; exact hi)] at h4
      obtain ⟨x1, x2⟩ := g.2.2.2 i a r' h3 h4
      have x4 : a ≠ w := by rintro rfl; rw [x2] at hw; cases hw
      exact ⟨x1, by rw [up_ne x4]; exact x2⟩
    · have hi' : i = refs.length := by
        have := (List.getElem?_eq_some_iff.mp h3).1
        rw [List.length_append, List.length_singleton] at this
        omega
      subst hi'
      rw [List.getElem?_append_right (Nat.le_refl _), Nat.sub_self] at h3
      rw [g.2.2.1, List.getElem?_append_right (Nat.le_refl _), Nat.sub_self] at h4
      cases h3
      cases h4
      exact ⟨g.1.free hw, up_same⟩
theorem MGrid.set {M0 M : Hd} {refs : List Addr} {rows : List (List Nat)} (g : MGrid M0 M refs rows) {k : Nat} {a : Addr} (hk : refs[k]? = some a) (r : List Nat) : MGrid M0 (up M a (.lst (r.map nD))) refs (rows.set k r) := by
  have ha := g.here (List.mem_of_getElem? hk)
  refine ⟨MGrid.sub_up g.1 ha.1, g.2.1, by rw [List.length_set]; exact g.2.2.1, fun i b r' h3 h4 => ?_⟩
  have hkl := (List.getElem?_eq_some_iff.mp hk).1
  by_cases e : i = k
  · subst e
    rw [hk] at h3
    cases h3
    rw [List.getElem?_set_self (by rw [← g.2.2.1]; exact hkl)] at h4
    cases h4
    exact ⟨ha.1, up_same⟩
  · rw [List.getElem?_set_ne (fun z => e z.symm)] at h4
    obtain ⟨x1, x2⟩ := g.2.2.2 i b r' h3 h4
    have nb : b ≠ a := by
      rintro rfl
      have h5 := (List.getElem?_eq_some_iff.mp h3)
      have h6 := (List.getElem?_eq_some_iff.mp hk)
      obtain ⟨l5, v5⟩ := h5
      obtain ⟨l6, v6⟩ := h6
      exact e ((List.getElem_inj g.2.1).mp (v5.trans v6.symm))
    exact ⟨x1, by rw [up_ne nb]; exact x2⟩
theorem MGrid.other {M0 M : Hd} {refs : List Addr} {rows : List (List Nat)} (g : MGrid M0 M refs rows) {w : Addr} (hw : M w = none) (xs : List D) : MGrid M0 (up M w (.lst xs)) refs rows := by
  refine ⟨MGrid.sub_up g.1 (g.1.free hw), g.2.1, g.2.2.1, fun i a r h3 h4 => ?_⟩
  obtain ⟨x1, x2⟩ := g.2.2.2 i a r h3 h4
  have x4 : a ≠ w := by rintro rfl; rw [x2] at hw; cases hw
  exact ⟨x1, by rw [up_ne x4]; exact x2⟩
theorem Snd.snocR {p : List (List Nat)} (S : Snd p) {r ms : List Nat} (hl : p.length + 1 ≤ 40) (asc : ms.Pairwise (· < ·)) (hr : ∀ x ∈ r, x < p.length) (hm : ∀ x, x ∈ ms ↔ x ∈ r ∨ ∃ j ∈ r, x ∈ p.getD j []) : Snd (p ++ [ms]) := by
  have row : ∀ {j x : Nat}, x ∈ p.getD j [] → p[j]? = some (p.getD j []) := fun {j x} h => by
    rw [List.getD_eq_getElem?_getD] at h ⊢
    cases e : p[j]? with
    | none => rw [e] at h; simp at h
    | some q => rfl
  have lt : ∀ x ∈ ms, x < p.length := fun x hx => by
    rcases (hm x).mp hx with h | ⟨j, h1, h2⟩
    · exact hr x h
    · have := S.lt j _ (row h2) x h2
      have := hr j h1
      omega
  refine ⟨by rw [List.length_append]; exact hl, fun q hq => ?_, fun i q hi x hx => ?_, fun i q hi x hx s hs y hy => ?_⟩
  · rcases List.mem_append.mp hq with h | h
    · exact S.asc q h
    · rw [List.mem_singleton] at h; subst h; exact asc
  · by_cases h : i < p.length
    · rw [List.getElem?_append_left h] at hi; exact S.lt i q hi x hx
    · rw [List.getElem?_append_right (by omega)] at hi
      have e : i - p.length = 0 := by
        have := (List.getElem?_eq_some_iff.mp hi).1
        simp at this; omega
      rw [e] at hi
      cases hi
      have := lt x hx
      omega
  · by_cases h : i < p.length
    · rw [List.getElem?_append_left h] at hi
      have hx2 := S.lt i q hi x hx
      rw [List.getElem?_append_left (by omega)] at hs
      exact S.tr i q hi x hx s hs y hy
    · rw [List.getElem?_append_right (by omega)] at hi
      have e : i - p.length = 0 := by
        have := (List.getElem?_eq_some_iff.mp hi).1
        simp at this; omega
      rw [e] at hi
      cases hi
      rw [List.getElem?_append_left (lt x hx)] at hs
      refine (hm y).mpr ?_
      rcases (hm x).mp hx with h | ⟨j, h1, h2⟩
      · exact .inr ⟨x, h, by rw [List.getD_eq_getElem?_getD, hs]; exact hy⟩
      · exact .inr ⟨j, h1, S.tr j _ (row h2) x h2 s hs y hy⟩
theorem sub_up {M M' : Hd} {p : Addr} {o : O} (s : Sub M M') (ho : ∀ c, o ≠ .own c) : Sub (up M p o) (up M' p o) := by
  refine ⟨fun a u e => ?_, fun a c e => ?_⟩
  · by_cases h : a = p
    · subst h; rw [up_same] at e ⊢; exact e
    · rw [up_ne h] at e ⊢; exact s.1 a u e
  · by_cases h : a = p
    · subst h; rw [up_same] at e; cases e; exact absurd rfl (ho c)
    · rw [up_ne h] at e ⊢; exact s.2 a c e
theorem nd_len {L : List Nat} {i : Nat} (nd : L.Nodup) (hb : ∀ x ∈ L, x < i) : L.length ≤ i := by
  have : L.Perm ((List.range i).filter fun x => decide (x ∈ L)) := (List.perm_ext_iff_of_nodup nd (List.nodup_range.filter _)).mpr fun a => by
    rw [List.mem_filter, List.mem_range, decide_eq_true_eq]
    exact ⟨fun h => ⟨hb a h, h⟩, fun h => h.2⟩
  rw [this.length_eq]
  exact Nat.le_trans (List.length_filter_le ..) (by rw [List.length_range]; exact Nat.le_refl _)
theorem srtN {L : List Nat} (nd : L.Nodup) : ∃ R : List Nat, srt (L.map fun n : Nat => (n : Int)) = R.map (fun n : Nat => (n : Int)) ∧ R.Pairwise (· < ·) ∧ R.Perm L := by
  have hp := srt_perm (L.map fun n : Nat => (n : Int))
  have hs := srt_sorted (L.map fun n : Nat => (n : Int))
  generalize srt (L.map fun n : Nat => (n : Int)) = ms at *
  have pos : ∀ z ∈ ms, 0 ≤ z := fun z hz => by
    obtain ⟨y, _, rfl⟩ := List.mem_map.mp (hp.mem_iff.mp hz)
    omega
  have em : ms = (ms.map Int.toNat).map fun n : Nat => (n : Int) := by
    rw [List.map_map]
    conv => lhs; rw [← List.map_id ms]
    exact List.map_congr_left fun z hz => (Int.toNat_of_nonneg (pos z hz)).symm
  have pm : (ms.map Int.toNat).Perm L := by
    have := hp.map Int.toNat
    rw [List.map_map] at this
    have e : L.map (Int.toNat ∘ fun n : Nat => (n : Int)) = L := by
      conv => rhs; rw [← List.map_id L]
      exact List.map_congr_left fun i _ => by show ((i : Int)).toNat = i; omega
    rw [e] at this
    exact this
  refine ⟨_, em, ?_, pm⟩
  have nd2 := pm.nodup_iff.mpr nd
  have le : (ms.map Int.toNat).Pairwise (· ≤ ·) := List.pairwise_map.mpr (hs.imp fun h => by omega)
  exact (le.and nd2).imp fun h => Nat.lt_of_le_of_ne h.1 h.2
theorem rgx {n i : Nat} {x : D} (h : ((List.range n).map nD)[i]? = some x) : i < n ∧ x = nD i := by
  rw [List.getElem?_map] at h
  obtain ⟨j, hj, rfl⟩ := Option.map_eq_some_iff.mp h
  obtain ⟨h1, h2⟩ := List.getElem?_eq_some_iff.mp hj
  rw [List.length_range] at h1
  rw [List.getElem_range] at h2
  exact ⟨h1, by rw [h2]⟩
theorem rg_len (n : Nat) : ((List.range n).map nD).length = n := by rw [List.length_map, List.length_range]
theorem sub_at {M M' : Hd} {r : Addr} {o : O} (s : Sub M M') (hr : M' r = none) (ho : ∀ c, o ≠ .own c) : Sub (up M r o) M' := by
  refine ⟨fun a u e => ?_, fun a c e => ?_⟩
  · by_cases h : a = r
    · subst h; rw [hr] at e; cases e
    · rw [up_ne h]; exact s.1 a u e
  · by_cases h : a = r
    · subst h; rw [up_same] at e; cases e; exact absurd rfl (ho c)
    · rw [up_ne h] at e; exact s.2 a c e
/-! ### a dict of items -/
def dkN (L : List Nat) : List (Key × D) := L.map fun n : Nat => ((.inl (n : Int) : Key), D.bl true)
def addN (L : List Nat) (m : Nat) : List Nat := if m ∈ L then L else L ++ [m]
theorem addN_mem {L : List Nat} {m x : Nat} : x ∈ addN L m ↔ x ∈ L ∨ x = m := by
  unfold addN
  split
  · rename_i h
    exact ⟨.inl, fun z => z.elim id fun e => by rw [e]; exact h⟩
  · simp
theorem addN_nd {L : List Nat} {m : Nat} (h : L.Nodup) : (addN L m).Nodup := by
  unfold addN
  split
  · exact h
  · rename_i hm
    exact List.nodup_append.mpr ⟨h, by simp, fun a ha b hb e => by rw [List.mem_singleton] at hb; subst hb; subst e; exact hm ha⟩
theorem addN_len (L : List Nat) (m : Nat) : (addN L m).length ≤ L.length + 1 := by
  unfold addN
  split <;> simp
theorem put_dkN (L : List Nat) (m : Nat) : putKD (dkN L) (.inl (m : Int) : Key) (D.bl true) = dkN (addN L m) := by
  unfold dkN addN putKD
  have ha : ((L.map fun n : Nat => ((Sum.inl (n : Int) : Key), D.bl true)).any fun kv => decide (kv.1 = Sum.inl (m : Int))) = decide (m ∈ L) := by
    rw [Bool.eq_iff_iff, List.any_eq_true, decide_eq_true_eq]
    constructor
    · rintro ⟨kv, h1, h2⟩
      obtain ⟨n, hn, rfl⟩ := List.mem_map.mp h1
      have := of_decide_eq_true h2
      injection this with this
      have : n = m := by omega
      rw [← this]; exact hn
    · exact fun h => ⟨_, List.mem_map.mpr ⟨m, h, rfl⟩, decide_eq_true rfl⟩
  rw [ha]
  by_cases h : m ∈ L
  · rw [decide_eq_true h, if_pos rfl, if_pos h, List.map_map]
    refine List.map_congr_left fun n _ => ?_
    show (if (Sum.inl (n : Int) : Key) = Sum.inl (m : Int) then _ else _) = _
    split <;> rfl
  · rw [decide_eq_false h, if_neg (by decide), if_neg h, List.map_append]; rfl
theorem rowsS {p : List (List Nat)} {a : Nat} (h : a < p.length) : p[a]? = some (p.getD a []) := by
  rw [List.getD_eq_getElem?_getD, List.getElem?_eq_getElem h]; rfl
theorem Snd.mltS {p : List (List Nat)} (S : Snd p) {a x : Nat} (h : x ∈ p.getD a []) : x < a ∧ a < p.length := by
  by_cases ha : a < p.length
  · exact ⟨S.lt a _ (rowsS ha) x h, ha⟩
  · rw [List.getD_eq_getElem?_getD, List.getElem?_eq_none (by omega)] at h; simp at h
theorem Snd.ascS {p : List (List Nat)} (S : Snd p) (i : Nat) : (p.getD i []).Pairwise (· < ·) := by
  by_cases hi : i < p.length
  · exact S.asc _ (List.mem_of_getElem? (rowsS hi))
  · rw [List.getD_eq_getElem?_getD, List.getElem?_eq_none (by omega)]; exact .nil
theorem Snd.ndpS {p : List (List Nat)} (S : Snd p) (i : Nat) : (p.getD i []).Nodup := (S.ascS i).imp fun h => Nat.ne_of_lt h
theorem asc_lenS (r : List Nat) (b : Nat) (h : r.Pairwise (· < ·)) (hb : ∀ x ∈ r, x < b) : r.length ≤ b := nd_len (h.imp fun h => Nat.ne_of_lt h) hb
theorem Snd.rlen {p : List (List Nat)} (S : Snd p) (i : Nat) : (p.getD i []).length ≤ i := asc_lenS _ _ (S.ascS i) fun x hx => (S.mltS hx).1
theorem Snd.rlen' {p : List (List Nat)} (S : Snd p) {r : List Nat} (h : r ∈ p) : r.length ≤ 40 := by
  obtain ⟨i, hi, rfl⟩ := List.mem_iff_getElem.mp h
  have := S.rlen i
  rw [List.getD_eq_getElem?_getD, List.getElem?_eq_getElem hi] at this
  have := S.len
  show (p[i]).length ≤ 40
  simp at *
  omega
/-! ### closed plans -/
def IsClo (rows p : List (List Nat)) : Prop := p.length = rows.length ∧ ∀ a < rows.length, ∀ x, x ∈ p.getD a [] ↔ x ∈ rows.getD a [] ∨ ∃ o ∈ rows.getD a [], x ∈ p.getD o []
theorem asc_ext {a b : List Nat} (ha : a.Pairwise (· < ·)) (hb : b.Pairwise (· < ·)) (h : ∀ x, x ∈ a ↔ x ∈ b) : a = b :=
  List.Perm.eq_of_pairwise (fun x y _ _ h1 h2 => by omega) ha hb ((List.perm_ext_iff_of_nodup (ha.imp fun h => Nat.ne_of_lt h) (hb.imp fun h => Nat.ne_of_lt h)).mpr h)
theorem Snd.mtrS {p : List (List Nat)} (S : Snd p) {a x y : Nat} (h : x ∈ p.getD a []) (h2 : y ∈ p.getD x []) : y ∈ p.getD a [] := by
  obtain ⟨h3, h4⟩ := S.mltS h
  exact S.tr a _ (rowsS h4) x h _ (rowsS (show x < p.length by omega)) y h2
theorem clo_uni {rows p q : List (List Nat)} (S : Snd p) (T : Snd q) (hb : ∀ a < rows.length, ∀ x ∈ rows.getD a [], x < a) (h : IsClo rows p) (h' : IsClo rows q) : p = q := by
  have key : ∀ n a, a < n → a < rows.length → p.getD a [] = q.getD a [] := fun n => by
    induction n with
    | zero => exact fun a h => absurd h (Nat.not_lt_zero _)
    | succ n ih =>
      intro a ha hr
      refine asc_ext (S.ascS a) (T.ascS a) fun x => ?_
      rw [h.2 a hr x, h'.2 a hr x]
      refine or_congr Iff.rfl ⟨fun ⟨o, h1, h2⟩ => ⟨o, h1, ?_⟩, fun ⟨o, h1, h2⟩ => ⟨o, h1, ?_⟩⟩
      · have := hb a hr o h1
        rw [← ih o (by omega) (by omega)]; exact h2
      · have := hb a hr o h1
        rw [ih o (by omega) (by omega)]; exact h2
  apply List.ext_getElem?
  intro i
  by_cases hi : i < rows.length
  · rw [rowsS (by rw [h.1]; exact hi), rowsS (by rw [h'.1]; exact hi), key (i + 1) i (Nat.lt_succ_self _) hi]
  · rw [List.getElem?_eq_none (by rw [h.1]; omega), List.getElem?_eq_none (by rw [h'.1]; omega)]
theorem clo_self {p : List (List Nat)} (S : Snd p) : IsClo p p := ⟨rfl, fun a _ x => ⟨.inl, fun h => h.elim id fun ⟨o, h1, h2⟩ => S.mtrS h1 h2⟩⟩
/-- the pairs that follow from no others -/
def red (p : List (List Nat)) : List (List Nat) := (List.range p.length).map fun a => (p.getD a []).filter fun x => decide (∀ o ∈ p.getD a [], x ∉ p.getD o [])
theorem red_len (p : List (List Nat)) : (red p).length = p.length := by unfold red; rw [List.length_map, List.length_range]
theorem red_row {p : List (List Nat)} {a : Nat} (h : a < p.length) : (red p).getD a [] = (p.getD a []).filter fun x => decide (∀ o ∈ p.getD a [], x ∉ p.getD o []) := by
  unfold red
  rw [List.getD_eq_getElem?_getD, List.getElem?_map, List.getElem?_range h]; rfl
theorem red_mem {p : List (List Nat)} {a x : Nat} (h : a < p.length) : x ∈ (red p).getD a [] ↔ x ∈ p.getD a [] ∧ ∀ o ∈ p.getD a [], x ∉ p.getD o [] := by
  rw [red_row h, List.mem_filter, decide_eq_true_eq]
theorem red_clo {p : List (List Nat)} (S : Snd p) : IsClo (red p) p := by
  refine ⟨(red_len p).symm, fun a ha x => ?_⟩
  rw [red_len] at ha
  constructor
  · have key : ∀ n x, a < n + x → x ∈ p.getD a [] → x ∈ (red p).getD a [] ∨ ∃ o ∈ (red p).getD a [], x ∈ p.getD o [] := fun n => by
      induction n with
      | zero =>
        intro x h hx
        have := (S.mltS hx).1
        omega
      | succ n ih =>
        intro x h hx
        by_cases hr : x ∈ (red p).getD a []
        · exact .inl hr
        · rw [red_mem ha] at hr
          obtain ⟨y, hy, hxy⟩ : ∃ y ∈ p.getD a [], x ∈ p.getD y [] := by
            apply Classical.byContradiction
            intro no
            exact hr ⟨hx, fun o ho hxo => no ⟨o, ho, hxo⟩⟩
          have := (S.mltS hxy).1
          rcases ih y (by omega) hy with h1 | ⟨o, h1, h2⟩
          · exact .inr ⟨y, h1, hxy⟩
          · exact .inr ⟨o, h1, S.mtrS h2 hxy⟩
    exact key (a + 1) x (by omega)
  · rintro (h | ⟨o, h1, h2⟩)
    · exact ((red_mem ha).mp h).1
    · exact S.mtrS ((red_mem ha).mp h1).1 h2
/-- one pair less -/
theorem less_not {p q : List (List Nat)} (S : Snd p) {i o : Nat} (hi : i < p.length) (ho : o ∈ (red p).getD i []) (C : IsClo ((red p).set i (((red p).getD i []).erase o)) q) : o ∉ q.getD i [] := by
  have rowE : ∀ a, a < p.length → ∀ x, x ∈ ((red p).set i (((red p).getD i []).erase o)).getD a [] → x ∈ p.getD a [] := fun a ha x hx => by
    by_cases e : a = i
    · subst e
      rw [List.getD_eq_getElem?_getD, List.getElem?_set_self (by rw [red_len]; exact ha)] at hx
      exact ((red_mem ha).mp (List.mem_of_mem_erase hx)).1
    · rw [List.getD_eq_getElem?_getD, List.getElem?_set_ne (fun z => e z.symm), ← List.getD_eq_getElem?_getD] at hx
      exact ((red_mem ha).mp hx).1
  have hl : ((red p).set i (((red p).getD i []).erase o)).length = p.length := by rw [List.length_set, red_len]
  have sub : ∀ n a, a < n → a < p.length → ∀ x ∈ q.getD a [], x ∈ p.getD a [] := fun n => by
    induction n with
    | zero => exact fun a h => absurd h (Nat.not_lt_zero _)
    | succ n ih =>
      intro a ha hap x hx
      rcases (C.2 a (by omega) x).mp hx with h | ⟨k, h1, h2⟩
      · exact rowE a hap x h
      · have hk := rowE a hap k h1
        have := (S.mltS hk).1
        exact S.mtrS hk (ih k (by omega) (by omega) x h2)
  intro hx
  have er : ((red p).set i (((red p).getD i []).erase o)).getD i [] = ((red p).getD i []).erase o := by
    rw [List.getD_eq_getElem?_getD, List.getElem?_set_self (by rw [red_len]; exact hi)]; rfl
  have hm := (red_mem hi).mp ho
  rcases (C.2 i (by omega) o).mp hx with h | ⟨k, h1, h2⟩
  · rw [er] at h
    have nd : ((red p).getD i []).Nodup := by rw [red_row hi]; exact (S.ndpS i).filter _
    exact List.Nodup.not_mem_erase nd h
  · have hk := rowE i hi k h1
    have := (S.mltS hk).1
    exact hm.2 k hk (sub (k + 1) k (by omega) (by omega) o h2)
/-! ### sums of lists, padded -/
def padd : List Nat → List Nat → List Nat
  | [], b => b
  | x :: a, [] => x :: a
  | x :: a, y :: b => (x + y) :: padd a b
theorem padd_nil : ∀ a : List Nat, padd a [] = a
  | [] => rfl
  | _ :: _ => rfl
theorem padd_len : ∀ a b : List Nat, (padd a b).length = max a.length b.length
  | [], b => by simp [padd]
  | x :: a, [] => by simp [padd]
  | x :: a, y :: b => by simp [padd, padd_len a b]
theorem padd_get : ∀ (a b : List Nat) (i : Nat), (padd a b).getD i 0 = a.getD i 0 + b.getD i 0
  | [], b, i => by simp [padd]
  | x :: a, [], i => by simp [padd]
  | x :: a, y :: b, 0 => by simp [padd]
  | x :: a, y :: b, i + 1 => by
    have := padd_get a b i
    simpa [padd] using this
theorem padd_sum : ∀ a b : List Nat, (padd a b).sum = a.sum + b.sum
  | [], b => by simp [padd]
  | x :: a, [] => by simp [padd]
  | x :: a, y :: b => by (simp [padd, padd_sum a b]; try omega)
theorem list_ext (a b : List Nat) (h : a.length = b.length) (g : ∀ i, a.getD i 0 = b.getD i 0) : a = b := by
  refine List.ext_getElem h fun i h1 h2 => ?_
  have := g i
  rwa [List.getD_eq_getElem?_getD, List.getD_eq_getElem?_getD, List.getElem?_eq_getElem h1, List.getElem?_eq_getElem h2] at this
def grow (c : List Nat) (n : Nat) : List Nat := if n = c.length then c ++ [0] else c
theorem grow_get (c : List Nat) (n i : Nat) : (grow c n).getD i 0 = c.getD i 0 := by
  unfold grow
  split
  · by_cases h : i < c.length
    · simp [List.getD_eq_getElem?_getD, List.getElem?_append_left h]
    · rw [List.getD_eq_getElem?_getD, List.getD_eq_getElem?_getD, List.getElem?_append_right (by omega), List.getElem?_eq_none (show c.length ≤ i by omega)]
      cases i - c.length <;> simp
  · rfl
theorem getD_set (c : List Nat) (n i v : Nat) (h : n < c.length) : (c.set n v).getD i 0 = if i = n then v else c.getD i 0 := by
  rw [List.getD_eq_getElem?_getD, List.getElem?_set]
  by_cases e : n = i
  · subst e
    simp [h]
  · have e' : ¬ i = n := fun z => e z.symm
    simp [e, e', List.getD_eq_getElem?_getD]
theorem padd_step (a b : List Nat) (n : Nat) (h : n < b.length) : padd a (b.take (n + 1)) = (grow (padd a (b.take n)) n).set n ((grow (padd a (b.take n)) n).getD n 0 + b.getD n 0) ∧ n < (grow (padd a (b.take n)) n).length := by
  have l1 : (padd a (b.take n)).length = max a.length n := by rw [padd_len, List.length_take]; congr 1; omega
  have l2 : (grow (padd a (b.take n)) n).length = max a.length (n + 1) := by
    unfold grow
    split
    · rw [List.length_append, l1]; simp; omega
    · rw [l1]; omega
  have hn : n < (grow (padd a (b.take n)) n).length := by omega
  refine ⟨list_ext _ _ ?_ fun i => ?_, hn⟩
  · rw [List.length_set, l2, padd_len, List.length_take]; congr 1; omega
  · rw [getD_set _ _ _ _ hn, grow_get, grow_get, padd_get, padd_get, padd_get]
    have tk : ∀ m, (b.take m).getD i 0 = if i < m then b.getD i 0 else 0 := fun m => by
      rw [List.getD_eq_getElem?_getD, List.getElem?_take]
      split <;> simp [List.getD_eq_getElem?_getD]
    have tk2 : (b.take n).getD n 0 = 0 := by
      rw [List.getD_eq_getElem?_getD, List.getElem?_take, if_neg (by omega)]
      rfl
    rw [tk, tk, tk2]
    by_cases e : i = n
    · subst e
      simp
    · rw [if_neg e]
      by_cases e2 : i < n
      · rw [if_pos e2, if_pos (by omega)]
      · rw [if_neg e2, if_neg (by omega)]
/-! ### what is counted -/
def endStep (acc r : List Nat) : List Nat := acc ++ [1 + (r.map fun j => acc.getD j 0).sum]
def ends (p : List (List Nat)) : List Nat := p.foldl endStep []
def begRow (i : Nat) (r acc : List Nat) : List Nat := r.foldl (fun a j => a.set j (a.getD j 0 + a.getD i 0)) acc
def begStep (p : List (List Nat)) (acc : List Nat) (i : Nat) : List Nat := begRow i (p.getD i []) acc
def begins (p : List (List Nat)) : List Nat := (List.range p.length).reverse.foldl (begStep p) (List.replicate p.length 1)
def lenRow (acc : List (List Nat)) (r : List Nat) : List Nat := r.foldl (fun row j => padd row (0 :: acc.getD j [])) [1]
def lenRows (p : List (List Nat)) : List (List Nat) := p.foldl (fun acc r => acc ++ [lenRow acc r]) []
def lengths (p : List (List Nat)) : List Nat := (lenRows p).foldl padd []
theorem foldl_append_len {α β : Type} (f : List α → β → α) : ∀ (p : List β) (acc : List α), (p.foldl (fun acc r => acc ++ [f acc r]) acc).length = acc.length + p.length
  | [], acc => by simp
  | r :: p, acc => by
    rw [List.foldl_cons, foldl_append_len f p]
    simp; omega
theorem ends_len (p : List (List Nat)) : (ends p).length = p.length := by
  show (p.foldl (fun acc r => acc ++ [(fun acc (r : List Nat) => 1 + (r.map fun j => acc.getD j 0).sum) acc r]) []).length = p.length
  rw [foldl_append_len]
  simp
theorem ends_snoc (p : List (List Nat)) (r : List Nat) : ends (p ++ [r]) = endStep (ends p) r := by unfold ends; rw [List.foldl_append]; rfl
theorem lenRows_len (p : List (List Nat)) : (lenRows p).length = p.length := by
  have := foldl_append_len lenRow p ([] : List (List Nat))
  simpa [lenRows] using this
theorem lenRows_snoc (p : List (List Nat)) (r : List Nat) : lenRows (p ++ [r]) = lenRows p ++ [lenRow (lenRows p) r] := by unfold lenRows; rw [List.foldl_append]; rfl
theorem nD_get {xs : List Nat} {j : Nat} (h : j < xs.length) : (xs.map nD)[j]? = some (nD (xs.getD j 0)) := by
  rw [List.getElem?_map, List.getElem?_eq_getElem h, List.getD_eq_getElem?_getD, List.getElem?_eq_getElem h]
  rfl
section
variable {P : Program} {w : World} {K : PySem.W.Frag} {mg : Str → Option Value} {base : Heap}
theorem pr_ending_of (G : Gv K mg) : Pr P w K mg base "ending_of" 1 ["plan"] (S1 fun x M Q => ∃ p, x = plD p ∧ Snd p ∧ ∀ q, M q = none → Q (.ref q) (up M q (.lst ((ends p).map nD)))) := by
  refine (pr3 (k := 0) G.d_ending_of bi_ending_of sc_ending_of S1n (fun f cdv A outer s H E hr => (b_cons (s_set 1 sc_ending_of.nd (e_lst a_nil))
      (b_cons (s_for PassesOwn.never rfl (i_seq (e_var 0)) (g_nm 2 sc_ending_of.nd)
      (b_one (s_expr (e_lm PySem.F.slot_list_append PySem.F.type_list_append m_append (e_var 1) (a_cons (e_op od_add e_int (e_callB (cd_sum rfl) (by rfl) G.b_sum rfl (a_cons (e_lc (own := [("item", 3)]) rfl sc_ending_of.nd (i_seq (e_var 2)) (blkOk_by (by rfl)) (fun _ _ _ _ _ => (g_nm 3 sc_ending_of.nd)) (fun _ _ _ _ _ => ts_nil) (fun _ _ _ _ _ => (e_ix (ixd (hu_of hr)) (e_var 1) (e_var 3)))) a_nil))) a_nil)))))
      (b_one (s_ret (e_var 1))))))) ?_
  rintro _ M Q E ⟨_, rfl, p, rfl, S, h⟩ H rep
  refine ⟨M, rep, fun _ h => h, ?_⟩
  simp only [startD, List.map_cons, List.map_nil, List.length_cons, List.length_nil, Nat.reduceAdd, Nat.reduceSub, Nat.zero_add, List.replicate, List.cons_append, List.nil_append]; simp (config := {failIfUnchanged := false}) only [dC, dOp, dTest, dChain, dAnd, dOr, dNot, dAndV, dOrV, dNotV, dIf, dNil, dCons, dTup, dLst, dCB, d1, dNoPart, dPart, dSl, dCut, dNeg, dSorted, dSum, dAll, dAny, dInt, dAbs, dMax, dMin, dIsi, isT, dNext, dSeq, dBrk, dCont, dNever, dExpr, dRet, dRetN, dIfS, dAsg, dPutI, dI0, dI, dIsN, dNotN, dRng1, dRng2, dRngDn, dZipI, dYes, dCall, dLM, dAppend, dExtend, dReverse, dInsert, dAugI, dRg1, dRg2, dTupRg, dLstRg, dNewK, dNewT, ↓S0_, ↓S1_, ↓S2_, ↓S3_, ↓S4_, ↓S5_, ↓S6_, List.map_cons, List.map_nil, List.length_cons, List.length_nil, List.replicate, List.cons_append, List.nil_append, Nat.reduceAdd, Nat.reduceSub, Nat.zero_add, List.getElem?_cons_zero, List.getElem?_cons_succ, Option.some.injEq, exists_eq_left, exists_eq_left', List.set_cons_zero, List.set_cons_succ, wipeD, D.int.injEq, D.bl.injEq, D.str.injEq, D.ref.injEq, D.tup.injEq, D.ty.injEq, true_and, and_true, forall_const, forall_eq', forall_eq, mt_int, mt_bool, mt_str, mt_tuple, mt_list, mt_dict, st_int_int, st_int_bool, st_int_str, st_int_tuple, st_int_list, st_int_dict, st_bool_int, st_bool_bool, st_bool_str, st_bool_tuple, st_bool_list, st_bool_dict, st_str_int, st_str_bool, st_str_str, st_str_tuple, st_str_list, st_str_dict, st_tuple_int, st_tuple_bool, st_tuple_str, st_tuple_tuple, st_tuple_list, st_tuple_dict, st_list_int, st_list_bool, st_list_str, st_list_tuple, st_list_list, st_list_dict, st_dict_int, st_dict_bool, st_dict_str, st_dict_tuple, st_dict_list, st_dict_dict, eq_self, Bool.true_eq_false, Bool.false_eq_true, false_implies, true_implies, implies_true, decide_eq_true_eq, decide_eq_false_iff_not, Bool.not_true, Bool.not_false, Bool.not_eq_true, Bool.not_eq_false, Bool.not_eq_true', Bool.not_eq_false', not_true_eq_false, not_false_eq_true, false_and, and_false, or_false, false_or, reduceCtorEq, ↓exLSu, ↓exDKu, ↓exDKd, ↓exLSd, ↓exLu, ↓dIxRu, ↓dPutu, ↓dGetAu, ↓dEq_int, ↓dNe_int, ↓dEq_bl, ↓dNe_bl, ↓dEq_str, ↓dNe_str, ↓dAdd_int, ↓exAt10, ↓exIx10, ↓exAt20, ↓exIx20, ↓exAt21, ↓exIx21, ↓exAt30, ↓exIx30, ↓exAt31, ↓exIx31, ↓exAt32, ↓exIx32, ↓exAt40, ↓exIx40, ↓exAt41, ↓exIx41, ↓exAt42, ↓exIx42, ↓exAt43, ↓exIx43, ↓exAt50, ↓exIx50, ↓exAt51, ↓exIx51, ↓exAt52, ↓exIx52, ↓exAt53, ↓exIx53, ↓exAt54, ↓exIx54, ↓exAt60, ↓exIx60, ↓exAt61, ↓exIx61, ↓exAt62, ↓exIx62, ↓exAt63, ↓exIx63, ↓exAt64, ↓exIx64, ↓exAt65, ↓exIx65, up_up, false_or, or_false, ↓exAtM, ↓dFlag_bl, ↓exBl, ↓exInt, ↓exRef, ↓dVar0, ↓dAug0, ↓dSet0, ↓dTgN0, ↓dTgW0, ↓dVar1, ↓dAug1, ↓dSet1, ↓dTgN1, ↓dTgW1, ↓dVar2, ↓dAug2, ↓dSet2, ↓dTgN2, ↓dTgW2, ↓dVar3, ↓dAug3, ↓dSet3, ↓dTgN3, ↓dTgW3, ↓dVar4, ↓dAug4, ↓dSet4, ↓dTgN4, ↓dTgW4, ↓dVar5, ↓dAug5, ↓dSet5, ↓dTgN5, ↓dTgW5, ↓dVar6, ↓dAug6, ↓dSet6, ↓dTgN6, ↓dTgW6, ↓dVar7, ↓dAug7, ↓dSet7, ↓dTgN7, ↓dTgW7, ↓dVar8, ↓dAug8, ↓dSet8, ↓dTgN8, ↓dTgW8, ↓dVar9, ↓dAug9, ↓dSet9, ↓dTgN9, ↓dTgW9, ↓dVar10, ↓dAug10, ↓dSet10, ↓dTgN10, ↓dTgW10, ↓dVar11, ↓dAug11, ↓dSet11, ↓dTgN11, ↓dTgW11, ↓dVar12, ↓dAug12, ↓dSet12, ↓dTgN12, ↓dTgW12, ↓dVar13, ↓dAug13, ↓dSet13, ↓dTgN13, ↓dTgW13, ↓dVar14, ↓dAug14, ↓dSet14, ↓dTgN14, ↓dTgW14, ↓dVar15, ↓dAug15, ↓dSet15, ↓dTgN15, ↓dTgW15, ↓dVar16, ↓dAug16, ↓dSet16, ↓dTgN16, ↓dTgW16, ↓dVar17, ↓dAug17, ↓dSet17, ↓dTgN17, ↓dTgW17, ↓dVar18, ↓dAug18, ↓dSet18, ↓dTgN18, ↓dTgW18, ↓dVar19, ↓dAug19, ↓dSet19, ↓dTgN19, ↓dTgW19, ↓dTg_t2, ↓dTg_t3, ↓exGetM, ↓exSumU, nD, plD, rwD, ↓dAdd_tup, ↓dAdd_ref, dIx_tup, dIx_str, dIx_ref, dIx_kl, dListOf_tup, dListOf_kl, dListOf_ref, dLen_tup, dLen_str, dLen_kl, dLen_ref, dTupOf_tup, dTupOf_ref, dSeqI_x, sqX_tup, sqX_ref, sqX_str, dEnumI_x, enX_tup, enX_ref, dSrtSet, dSortA, dIsi2, isT2, Bool.or_true, Bool.true_or, Bool.or_false, Bool.or_self, dReprR, dReprT, dDGet2, plD]
  intro f hf
  refine dFor_g fun F1 T1 h1 t1 => ?_; simp only [dFor, dC, dOp, dTest, dChain, dAnd, dOr, dNot, dAndV, dOrV, dNotV, dIf, dNil, dCons, dTup, dLst, dCB, d1, dNoPart, dPart, dSl, dCut, dNeg, dSorted, dSum, dAll, dAny, dInt, dAbs, dMax, dMin, dIsi, isT, dNext, dSeq, dBrk, dCont, dNever, dExpr, dRet, dRetN, dIfS, dAsg, dPutI, dI0, dI, dIsN, dNotN, dRng1, dRng2, dRngDn, dZipI, dYes, dCall, dLM, dAppend, dExtend, dReverse, dInsert, dAugI, dRg1, dRg2, dTupRg, dLstRg, dNewK, dNewT, ↓S0_, ↓S1_, ↓S2_, ↓S3_, ↓S4_, ↓S5_, ↓S6_, List.map_cons, List.map_nil, List.length_cons, List.length_nil, List.replicate, List.cons_append, List.nil_append, Nat.reduceAdd, Nat.reduceSub, Nat.zero_add, List.getElem?_cons_zero, List.getElem?_cons_succ, Option.some.injEq, exists_eq_left, exists_eq_left', List.set_cons_zero, List.set_cons_succ, wipeD, D.int.injEq, D.bl.injEq, D.str.injEq, D.ref.injEq, D.tup.injEq, D.ty.injEq, true_and, and_true, forall_const, forall_eq', forall_eq, mt_int, mt_bool, mt_str, mt_tuple, mt_list, mt_dict, st_int_int, st_int_bool, st_int_str, st_int_tuple, st_int_list, st_int_dict, st_bool_int, st_bool_bool, st_bool_str, st_bool_tuple, st_bool_list, st_bool_dict, st_str_int, st_str_bool, st_str_str, st_str_tuple, st_str_list, st_str_dict, st_tuple_int, st_tuple_bool, st_tuple_str, st_tuple_tuple, st_tuple_list, st_tuple_dict, st_list_int, st_list_bool, st_list_str, st_list_tuple, st_list_list, st_list_dict, st_dict_int, st_dict_bool, st_dict_str, st_dict_tuple, st_dict_list, st_dict_dict, eq_self, Bool.true_eq_false, Bool.false_eq_true, false_implies, true_implies, implies_true, decide_eq_true_eq, decide_eq_false_iff_not, Bool.not_true, Bool.not_false, Bool.not_eq_true, Bool.not_eq_false, Bool.not_eq_true', Bool.not_eq_false', not_true_eq_false, not_false_eq_true, false_and, and_false, or_false, false_or, reduceCtorEq, ↓exLSu, ↓exDKu, ↓exDKd, ↓exLSd, ↓exLu, ↓dIxRu, ↓dPutu, ↓dGetAu, ↓dEq_int, ↓dNe_int, ↓dEq_bl, ↓dNe_bl, ↓dEq_str, ↓dNe_str, ↓dAdd_int, ↓exAt10, ↓exIx10, ↓exAt20, ↓exIx20, ↓exAt21, ↓exIx21, ↓exAt30, ↓exIx30, ↓exAt31, ↓exIx31, ↓exAt32, ↓exIx32, ↓exAt40, ↓exIx40, ↓exAt41, ↓exIx41, ↓exAt42, ↓exIx42, ↓exAt43, ↓exIx43, ↓exAt50, ↓exIx50, ↓exAt51, ↓exIx51, ↓exAt52, ↓exIx52, ↓exAt53, ↓exIx53, ↓exAt54, ↓exIx54, ↓exAt60, ↓exIx60, ↓exAt61, ↓exIx61, ↓exAt62, ↓exIx62, ↓exAt63, ↓exIx63, ↓exAt64, ↓exIx64, ↓exAt65, ↓exIx65, up_up, false_or, or_false, ↓exAtM, ↓dFlag_bl, ↓exBl, ↓exInt, ↓exRef, ↓dVar0, ↓dAug0, ↓dSet0, ↓dTgN0, ↓dTgW0, ↓dVar1, ↓dAug1, ↓dSet1, ↓dTgN1, ↓dTgW1, ↓dVar2, ↓dAug2, ↓dSet2, ↓dTgN2, ↓dTgW2, ↓dVar3, ↓dAug3, ↓dSet3, ↓dTgN3, ↓dTgW3, ↓dVar4, ↓dAug4, ↓dSet4, ↓dTgN4, ↓dTgW4, ↓dVar5, ↓dAug5, ↓dSet5, ↓dTgN5, ↓dTgW5, ↓dVar6, ↓dAug6, ↓dSet6, ↓dTgN6, ↓dTgW6, ↓dVar7, ↓dAug7, ↓dSet7, ↓dTgN7, ↓dTgW7, ↓dVar8, ↓dAug8, ↓dSet8, ↓dTgN8, ↓dTgW8, ↓dVar9, ↓dAug9, ↓dSet9, ↓dTgN9, ↓dTgW9, ↓dVar10, ↓dAug10, ↓dSet10, ↓dTgN10, ↓dTgW10, ↓dVar11, ↓dAug11, ↓dSet11, ↓dTgN11, ↓dTgW11, ↓dVar12, ↓dAug12, ↓dSet12, ↓dTgN12, ↓dTgW12, ↓dVar13, ↓dAug13, ↓dSet13, ↓dTgN13, ↓dTgW13, ↓dVar14, ↓dAug14, ↓dSet14, ↓dTgN14, ↓dTgW14, ↓dVar15, ↓dAug15, ↓dSet15, ↓dTgN15, ↓dTgW15, ↓dVar16, ↓dAug16, ↓dSet16, ↓dTgN16, ↓dTgW16, ↓dVar17, ↓dAug17, ↓dSet17, ↓dTgN17, ↓dTgW17, ↓dVar18, ↓dAug18, ↓dSet18, ↓dTgN18, ↓dTgW18, ↓dVar19, ↓dAug19, ↓dSet19, ↓dTgN19, ↓dTgW19, ↓dTg_t2, ↓dTg_t3, ↓exGetM, ↓exSumU, nD, plD, rwD, ↓dAdd_tup, ↓dAdd_ref, dIx_tup, dIx_str, dIx_ref, dIx_kl, dListOf_tup, dListOf_kl, dListOf_ref, dLen_tup, dLen_str, dLen_kl, dLen_ref, dTupOf_tup, dTupOf_ref, dSeqI_x, sqX_tup, sqX_ref, sqX_str, dEnumI_x, enX_tup, enX_ref, dSrtSet, dSortA, dIsi2, isT2, Bool.or_true, Bool.true_or, Bool.or_false, Bool.or_self, dReprR, dReprT, dDGet2]
  refine forL rwD p (fun l δ M' => M' = up M f (.lst ((ends l).map nD)) ∧ ∃ a b, δ = [some (plD p), some (.ref f), a, b]) rfl ⟨rfl, _, _, rfl⟩ ?_ ?_
  · rintro l r t δ' _ pre P' e ⟨rfl, a, b, rfl⟩ hP
    have hr : p[l.length]? = some r := by rw [e]; simp
    have hrl := len_rows S (List.mem_of_getElem? hr)
    have hl : l.length ≤ 40 := by have := S.len; rw [e] at this; simp at this; omega
    subst t1
    simp (config := {failIfUnchanged := false}) only [dC, dOp, dTest, dChain, dAnd, dOr, dNot, dAndV, dOrV, dNotV, dIf, dNil, dCons, dTup, dLst, dCB, d1, dNoPart, dPart, dSl, dCut, dNeg, dSorted, dSum, dAll, dAny, dInt, dAbs, dMax, dMin, dIsi, isT, dNext, dSeq, dBrk, dCont, dNever, dExpr, dRet, dRetN, dIfS, dAsg, dPutI, dI0, dI, dIsN, dNotN, dRng1, dRng2, dRngDn, dZipI, dYes, dCall, dLM, dAppend, dExtend, dReverse, dInsert, dAugI, dRg1, dRg2, dTupRg, dLstRg, dNewK, dNewT, ↓S0_, ↓S1_, ↓S2_, ↓S3_, ↓S4_, ↓S5_, ↓S6_, List.map_cons, List.map_nil, List.length_cons, List.length_nil, List.replicate, List.cons_append, List.nil_append, Nat.reduceAdd, Nat.reduceSub, Nat.zero_add, List.getElem?_cons_zero, List.getElem?_cons_succ, Option.some.injEq, exists_eq_left, exists_eq_left', List.set_cons_zero, List.set_cons_succ, wipeD, D.int.injEq, D.bl.injEq, D.str.injEq, D.ref.injEq, D.tup.injEq, D.ty.injEq, true_and, and_true, forall_const, forall_eq', forall_eq, mt_int, mt_bool, mt_str, mt_tuple, mt_list, mt_dict, st_int_int, st_int_bool, st_int_str, st_int_tuple, st_int_list, st_int_dict, st_bool_int, st_bool_bool, st_bool_str, st_bool_tuple, st_bool_list, st_bool_dict, st_str_int, st_str_bool, st_str_str, st_str_tuple, st_str_list, st_str_dict, st_tuple_int, st_tuple_bool, st_tuple_str, st_tuple_tuple, st_tuple_list, st_tuple_dict, st_list_int, st_list_bool, st_list_str, st_list_tuple, st_list_list, st_list_dict, st_dict_int, st_dict_bool, st_dict_str, st_dict_tuple, st_dict_list, st_dict_dict, eq_self, Bool.true_eq_false, Bool.false_eq_true, false_implies, true_implies, implies_true, decide_eq_true_eq, decide_eq_false_iff_not, Bool.not_true, Bool.not_false, Bool.not_eq_true, Bool.not_eq_false, Bool.not_eq_true', Bool.not_eq_false', not_true_eq_false, not_false_eq_true, false_and, and_false, or_false, false_or, reduceCtorEq, ↓exLSu, ↓exDKu, ↓exDKd, ↓exLSd, ↓exLu, ↓dIxRu, ↓dPutu, ↓dGetAu, ↓dEq_int, ↓dNe_int, ↓dEq_bl, ↓dNe_bl, ↓dEq_str, ↓dNe_str, ↓dAdd_int, ↓exAt10, ↓exIx10, ↓exAt20, ↓exIx20, ↓exAt21, ↓exIx21, ↓exAt30, ↓exIx30, ↓exAt31, ↓exIx31, ↓exAt32, ↓exIx32, ↓exAt40, ↓exIx40, ↓exAt41, ↓exIx41, ↓exAt42, ↓exIx42, ↓exAt43, ↓exIx43, ↓exAt50, ↓exIx50, ↓exAt51, ↓exIx51, ↓exAt52, ↓exIx52, ↓exAt53, ↓exIx53, ↓exAt54, ↓exIx54, ↓exAt60, ↓exIx60, ↓exAt61, ↓exIx61, ↓exAt62, ↓exIx62, ↓exAt63, ↓exIx63, ↓exAt64, ↓exIx64, ↓exAt65, ↓exIx65, up_up, false_or, or_false, ↓exAtM, ↓dFlag_bl, ↓exBl, ↓exInt, ↓exRef, ↓dVar0, ↓dAug0, ↓dSet0, ↓dTgN0, ↓dTgW0, ↓dVar1, ↓dAug1, ↓dSet1, ↓dTgN1, ↓dTgW1, ↓dVar2, ↓dAug2, ↓dSet2, ↓dTgN2, ↓dTgW2, ↓dVar3, ↓dAug3, ↓dSet3, ↓dTgN3, ↓dTgW3, ↓dVar4, ↓dAug4, ↓dSet4, ↓dTgN4, ↓dTgW4, ↓dVar5, ↓dAug5, ↓dSet5, ↓dTgN5, ↓dTgW5, ↓dVar6, ↓dAug6, ↓dSet6, ↓dTgN6, ↓dTgW6, ↓dVar7, ↓dAug7, ↓dSet7, ↓dTgN7, ↓dTgW7, ↓dVar8, ↓dAug8, ↓dSet8, ↓dTgN8, ↓dTgW8, ↓dVar9, ↓dAug9, ↓dSet9, ↓dTgN9, ↓dTgW9, ↓dVar10, ↓dAug10, ↓dSet10, ↓dTgN10, ↓dTgW10, ↓dVar11, ↓dAug11, ↓dSet11, ↓dTgN11, ↓dTgW11, ↓dVar12, ↓dAug12, ↓dSet12, ↓dTgN12, ↓dTgW12, ↓dVar13, ↓dAug13, ↓dSet13, ↓dTgN13, ↓dTgW13, ↓dVar14, ↓dAug14, ↓dSet14, ↓dTgN14, ↓dTgW14, ↓dVar15, ↓dAug15, ↓dSet15, ↓dTgN15, ↓dTgW15, ↓dVar16, ↓dAug16, ↓dSet16, ↓dTgN16, ↓dTgW16, ↓dVar17, ↓dAug17, ↓dSet17, ↓dTgN17, ↓dTgW17, ↓dVar18, ↓dAug18, ↓dSet18, ↓dTgN18, ↓dTgW18, ↓dVar19, ↓dAug19, ↓dSet19, ↓dTgN19, ↓dTgW19, ↓dTg_t2, ↓dTg_t3, ↓exGetM, ↓exSumU, nD, plD, rwD, ↓dAdd_tup, ↓dAdd_ref, dIx_tup, dIx_str, dIx_ref, dIx_kl, dListOf_tup, dListOf_kl, dListOf_ref, dLen_tup, dLen_str, dLen_kl, dLen_ref, dTupOf_tup, dTupOf_ref, dSeqI_x, sqX_tup, sqX_ref, sqX_str, dEnumI_x, enX_tup, enX_ref, dSrtSet, dSortA, dIsi2, isT2, Bool.or_true, Bool.true_or, Bool.or_false, Bool.or_self, dReprR, dReprT, dDGet2]
    refine ⟨⟨f, _, rfl, .inl up_same⟩, ?_⟩
    refine dLc_g fun F2 T2 U2 h2 t2 u2 => ?_; simp only [dLc, dC, dOp, dTest, dChain, dAnd, dOr, dNot, dAndV, dOrV, dNotV, dIf, dNil, dCons, dTup, dLst, dCB, d1, dNoPart, dPart, dSl, dCut, dNeg, dSorted, dSum, dAll, dAny, dInt, dAbs, dMax, dMin, dIsi, isT, dNext, dSeq, dBrk, dCont, dNever, dExpr, dRet, dRetN, dIfS, dAsg, dPutI, dI0, dI, dIsN, dNotN, dRng1, dRng2, dRngDn, dZipI, dYes, dCall, dLM, dAppend, dExtend, dReverse, dInsert, dAugI, dRg1, dRg2, dTupRg, dLstRg, dNewK, dNewT, ↓S0_, ↓S1_, ↓S2_, ↓S3_, ↓S4_, ↓S5_, ↓S6_, List.map_cons, List.map_nil, List.length_cons, List.length_nil, List.replicate, List.cons_append, List.nil_append, Nat.reduceAdd, Nat.reduceSub, Nat.zero_add, List.getElem?_cons_zero, List.getElem?_cons_succ, Option.some.injEq, exists_eq_left, exists_eq_left', List.set_cons_zero, List.set_cons_succ, wipeD, D.int.injEq, D.bl.injEq, D.str.injEq, D.ref.injEq, D.tup.injEq, D.ty.injEq, true_and, and_true, forall_const, forall_eq', forall_eq, mt_int, mt_bool, mt_str, mt_tuple, mt_list, mt_dict, st_int_int, st_int_bool, st_int_str, st_int_tuple, st_int_list, st_int_dict, st_bool_int, st_bool_bool, st_bool_str, st_bool_tuple, st_bool_list, st_bool_dict, st_str_int, st_str_bool, st_str_str, st_str_tuple, st_str_list, st_str_dict, st_tuple_int, st_tuple_bool, st_tuple_str, st_tuple_tuple, st_tuple_list, st_tuple_dict, st_list_int, st_list_bool, st_list_str, st_list_tuple, st_list_list, st_list_dict, st_dict_int, st_dict_bool, st_dict_str, st_dict_tuple, st_dict_list, st_dict_dict, eq_self, Bool.true_eq_false, Bool.false_eq_true, false_implies, true_implies, implies_true, decide_eq_true_eq, decide_eq_false_iff_not, Bool.not_true, Bool.not_false, Bool.not_eq_true, Bool.not_eq_false, Bool.not_eq_true', Bool.not_eq_false', not_true_eq_false, not_false_eq_true, false_and, and_false, or_false, false_or, reduceCtorEq, ↓exLSu, ↓exDKu, ↓exDKd, ↓exLSd, ↓exLu, ↓dIxRu, ↓dPutu, ↓dGetAu, ↓dEq_int, ↓dNe_int, ↓dEq_bl, ↓dNe_bl, ↓dEq_str, ↓dNe_str, ↓dAdd_int, ↓exAt10, ↓exIx10, ↓exAt20, ↓exIx20, ↓exAt21, ↓exIx21, ↓exAt30, ↓exIx30, ↓exAt31, ↓exIx31, ↓exAt32, ↓exIx32, ↓exAt40, ↓exIx40, ↓exAt41, ↓exIx41, ↓exAt42, ↓exIx42, ↓exAt43, ↓exIx43, ↓exAt50, ↓exIx50, ↓exAt51, ↓exIx51, ↓exAt52, ↓exIx52, ↓exAt53, ↓exIx53, ↓exAt54, ↓exIx54, ↓exAt60, ↓exIx60, ↓exAt61, ↓exIx61, ↓exAt62, ↓exIx62, ↓exAt63, ↓exIx63, ↓exAt64, ↓exIx64, ↓exAt65, ↓exIx65, up_up, false_or, or_false, ↓exAtM, ↓dFlag_bl, ↓exBl, ↓exInt, ↓exRef, ↓dVar0, ↓dAug0, ↓dSet0, ↓dTgN0, ↓dTgW0, ↓dVar1, ↓dAug1, ↓dSet1, ↓dTgN1, ↓dTgW1, ↓dVar2, ↓dAug2, ↓dSet2, ↓dTgN2, ↓dTgW2, ↓dVar3, ↓dAug3, ↓dSet3, ↓dTgN3, ↓dTgW3, ↓dVar4, ↓dAug4, ↓dSet4, ↓dTgN4, ↓dTgW4, ↓dVar5, ↓dAug5, ↓dSet5, ↓dTgN5, ↓dTgW5, ↓dVar6, ↓dAug6, ↓dSet6, ↓dTgN6, ↓dTgW6, ↓dVar7, ↓dAug7, ↓dSet7, ↓dTgN7, ↓dTgW7, ↓dVar8, ↓dAug8, ↓dSet8, ↓dTgN8, ↓dTgW8, ↓dVar9, ↓dAug9, ↓dSet9, ↓dTgN9, ↓dTgW9, ↓dVar10, ↓dAug10, ↓dSet10, ↓dTgN10, ↓dTgW10, ↓dVar11, ↓dAug11, ↓dSet11, ↓dTgN11, ↓dTgW11, ↓dVar12, ↓dAug12, ↓dSet12, ↓dTgN12, ↓dTgW12, ↓dVar13, ↓dAug13, ↓dSet13, ↓dTgN13, ↓dTgW13, ↓dVar14, ↓dAug14, ↓dSet14, ↓dTgN14, ↓dTgW14, ↓dVar15, ↓dAug15, ↓dSet15, ↓dTgN15, ↓dTgW15, ↓dVar16, ↓dAug16, ↓dSet16, ↓dTgN16, ↓dTgW16, ↓dVar17, ↓dAug17, ↓dSet17, ↓dTgN17, ↓dTgW17, ↓dVar18, ↓dAug18, ↓dSet18, ↓dTgN18, ↓dTgW18, ↓dVar19, ↓dAug19, ↓dSet19, ↓dTgN19, ↓dTgW19, ↓dTg_t2, ↓dTg_t3, ↓exGetM, ↓exSumU, nD, plD, rwD, ↓dAdd_tup, ↓dAdd_ref, dIx_tup, dIx_str, dIx_ref, dIx_kl, dListOf_tup, dListOf_kl, dListOf_ref, dLen_tup, dLen_str, dLen_kl, dLen_ref, dTupOf_tup, dTupOf_ref, dSeqI_x, sqX_tup, sqX_ref, sqX_str, dEnumI_x, enX_tup, enX_ref, dSrtSet, dSortA, dIsi2, isT2, Bool.or_true, Bool.true_or, Bool.or_false, Bool.or_self, dReprR, dReprT, dDGet2]
    simp (config := {failIfUnchanged := false}) only [dC, dOp, dTest, dChain, dAnd, dOr, dNot, dAndV, dOrV, dNotV, dIf, dNil, dCons, dTup, dLst, dCB, d1, dNoPart, dPart, dSl, dCut, dNeg, dSorted, dSum, dAll, dAny, dInt, dAbs, dMax, dMin, dIsi, isT, dNext, dSeq, dBrk, dCont, dNever, dExpr, dRet, dRetN, dIfS, dAsg, dPutI, dI0, dI, dIsN, dNotN, dRng1, dRng2, dRngDn, dZipI, dYes, dCall, dLM, dAppend, dExtend, dReverse, dInsert, dAugI, dRg1, dRg2, dTupRg, dLstRg, dNewK, dNewT, ↓S0_, ↓S1_, ↓S2_, ↓S3_, ↓S4_, ↓S5_, ↓S6_, List.map_cons, List.map_nil, List.length_cons, List.length_nil, List.replicate, List.cons_append, List.nil_append, Nat.reduceAdd, Nat.reduceSub, Nat.zero_add, List.getElem?_cons_zero, List.getElem?_cons_succ, Option.some.injEq, exists_eq_left, exists_eq_left', List.set_cons_zero, List.set_cons_succ, wipeD, D.int.injEq, D.bl.injEq, D.str.injEq, D.ref.injEq, D.tup.injEq, D.ty.injEq, true_and, and_true, forall_const, forall_eq', forall_eq, mt_int, mt_bool, mt_str, mt_tuple, mt_list, mt_dict, st_int_int, st_int_bool, st_int_str, st_int_tuple, st_int_list, st_int_dict, st_bool_int, st_bool_bool, st_bool_str, st_bool_tuple, st_bool_list, st_bool_dict, st_str_int, st_str_bool, st_str_str, st_str_tuple, st_str_list, st_str_dict, st_tuple_int, st_tuple_bool, st_tuple_str, st_tuple_tuple, st_tuple_list, st_tuple_dict, st_list_int, st_list_bool, st_list_str, st_list_tuple, st_list_list, st_list_dict, st_dict_int, st_dict_bool, st_dict_str, st_dict_tuple, st_dict_list, st_dict_dict, eq_self, Bool.true_eq_false, Bool.false_eq_true, false_implies, true_implies, implies_true, decide_eq_true_eq, decide_eq_false_iff_not, Bool.not_true, Bool.not_false, Bool.not_eq_true, Bool.not_eq_false, Bool.not_eq_true', Bool.not_eq_false', not_true_eq_false, not_false_eq_true, false_and, and_false, or_false, false_or, reduceCtorEq, ↓exLSu, ↓exDKu, ↓exDKd, ↓exLSd, ↓exLu, ↓dIxRu, ↓dPutu, ↓dGetAu, ↓dEq_int, ↓dNe_int, ↓dEq_bl, ↓dNe_bl, ↓dEq_str, ↓dNe_str, ↓dAdd_int, ↓exAt10, ↓exIx10, ↓exAt20, ↓exIx20, ↓exAt21, ↓exIx21, ↓exAt30, ↓exIx30, ↓exAt31, ↓exIx31, ↓exAt32, ↓exIx32, ↓exAt40, ↓exIx40, ↓exAt41, ↓exIx41, ↓exAt42, ↓exIx42, ↓exAt43, ↓exIx43, ↓exAt50, ↓exIx50, ↓exAt51, ↓exIx51, ↓exAt52, ↓exIx52, ↓exAt53, ↓exIx53, ↓exAt54, ↓exIx54, ↓exAt60, ↓exIx60, ↓exAt61, ↓exIx61, ↓exAt62, ↓exIx62, ↓exAt63, ↓exIx63, ↓exAt64, ↓exIx64, ↓exAt65, ↓exIx65, up_up, false_or, or_false, ↓exAtM, ↓dFlag_bl, ↓exBl, ↓exInt, ↓exRef, ↓dVar0, ↓dAug0, ↓dSet0, ↓dTgN0, ↓dTgW0, ↓dVar1, ↓dAug1, ↓dSet1, ↓dTgN1, ↓dTgW1, ↓dVar2, ↓dAug2, ↓dSet2, ↓dTgN2, ↓dTgW2, ↓dVar3, ↓dAug3, ↓dSet3, ↓dTgN3, ↓dTgW3, ↓dVar4, ↓dAug4, ↓dSet4, ↓dTgN4, ↓dTgW4, ↓dVar5, ↓dAug5, ↓dSet5, ↓dTgN5, ↓dTgW5, ↓dVar6, ↓dAug6, ↓dSet6, ↓dTgN6, ↓dTgW6, ↓dVar7, ↓dAug7, ↓dSet7, ↓dTgN7, ↓dTgW7, ↓dVar8, ↓dAug8, ↓dSet8, ↓dTgN8, ↓dTgW8, ↓dVar9, ↓dAug9, ↓dSet9, ↓dTgN9, ↓dTgW9, ↓dVar10, ↓dAug10, ↓dSet10, ↓dTgN10, ↓dTgW10, ↓dVar11, ↓dAug11, ↓dSet11, ↓dTgN11, ↓dTgW11, ↓dVar12, ↓dAug12, ↓dSet12, ↓dTgN12, ↓dTgW12, ↓dVar13, ↓dAug13, ↓dSet13, ↓dTgN13, ↓dTgW13, ↓dVar14, ↓dAug14, ↓dSet14, ↓dTgN14, ↓dTgW14, ↓dVar15, ↓dAug15, ↓dSet15, ↓dTgN15, ↓dTgW15, ↓dVar16, ↓dAug16, ↓dSet16, ↓dTgN16, ↓dTgW16, ↓dVar17, ↓dAug17, ↓dSet17, ↓dTgN17, ↓dTgW17, ↓dVar18, ↓dAug18, ↓dSet18, ↓dTgN18, ↓dTgW18, ↓dVar19, ↓dAug19, ↓dSet19, ↓dTgN19, ↓dTgW19, ↓dTg_t2, ↓dTg_t3, ↓exGetM, ↓exSumU, nD, plD, rwD, ↓dAdd_tup, ↓dAdd_ref, dIx_tup, dIx_str, dIx_ref, dIx_kl, dListOf_tup, dListOf_kl, dListOf_ref, dLen_tup, dLen_str, dLen_kl, dLen_ref, dTupOf_tup, dTupOf_ref, dSeqI_x, sqX_tup, sqX_ref, sqX_str, dEnumI_x, enX_tup, enX_ref, dSrtSet, dSortA, dIsi2, isT2, Bool.or_true, Bool.true_or, Bool.or_false, Bool.or_self, dReprR, dReprT, dDGet2, rwD]
    refine ⟨by rw [List.length_map]; exact Nat.le_of_lt (small1000 (by omega)), lcM nD (fun j => nD ((ends l).getD j 0)) r rfl (fun l2 j t2' pre2 acc P2 e2 hP2 => ?_) (fun q hq => ?_)⟩
    · subst t2; subst u2
      have hj : j < (ends l).length := by rw [ends_len]; exact S.lt _ r hr j (by rw [e2]; simp)
      simp (config := {failIfUnchanged := false}) only [dC, dOp, dTest, dChain, dAnd, dOr, dNot, dAndV, dOrV, dNotV, dIf, dNil, dCons, dTup, dLst, dCB, d1, dNoPart, dPart, dSl, dCut, dNeg, dSorted, dSum, dAll, dAny, dInt, dAbs, dMax, dMin, dIsi, isT, dNext, dSeq, dBrk, dCont, dNever, dExpr, dRet, dRetN, dIfS, dAsg, dPutI, dI0, dI, dIsN, dNotN, dRng1, dRng2, dRngDn, dZipI, dYes, dCall, dLM, dAppend, dExtend, dReverse, dInsert, dAugI, dRg1, dRg2, dTupRg, dLstRg, dNewK, dNewT, ↓S0_, ↓S1_, ↓S2_, ↓S3_, ↓S4_, ↓S5_, ↓S6_, List.map_cons, List.map_nil, List.length_cons, List.length_nil, List.replicate, List.cons_append, List.nil_append, Nat.reduceAdd, Nat.reduceSub, Nat.zero_add, List.getElem?_cons_zero, List.getElem?_cons_succ, Option.some.injEq, exists_eq_left, exists_eq_left', List.set_cons_zero, List.set_cons_succ, wipeD, D.int.injEq, D.bl.injEq, D.str.injEq, D.ref.injEq, D.tup.injEq, D.ty.injEq, true_and, and_true, forall_const, forall_eq', forall_eq, mt_int, mt_bool, mt_str, mt_tuple, mt_list, mt_dict, st_int_int, st_int_bool, st_int_str, st_int_tuple, st_int_list, st_int_dict, st_bool_int, st_bool_bool, st_bool_str, st_bool_tuple, st_bool_list, st_bool_dict, st_str_int, st_str_bool, st_str_str, st_str_tuple, st_str_list, st_str_dict, st_tuple_int, st_tuple_bool, st_tuple_str, st_tuple_tuple, st_tuple_list, st_tuple_dict, st_list_int, st_list_bool, st_list_str, st_list_tuple, st_list_list, st_list_dict, st_dict_int, st_dict_bool, st_dict_str, st_dict_tuple, st_dict_list, st_dict_dict, eq_self, Bool.true_eq_false, Bool.false_eq_true, false_implies, true_implies, implies_true, decide_eq_true_eq, decide_eq_false_iff_not, Bool.not_true, Bool.not_false, Bool.not_eq_true, Bool.not_eq_false, Bool.not_eq_true', Bool.not_eq_false', not_true_eq_false, not_false_eq_true, false_and, and_false, or_false, false_or, reduceCtorEq, ↓exLSu, ↓exDKu, ↓exDKd, ↓exLSd, ↓exLu, ↓dIxRu, ↓dPutu, ↓dGetAu, ↓dEq_int, ↓dNe_int, ↓dEq_bl, ↓dNe_bl, ↓dEq_str, ↓dNe_str, ↓dAdd_int, ↓exAt10, ↓exIx10, ↓exAt20, ↓exIx20, ↓exAt21, ↓exIx21, ↓exAt30, ↓exIx30, ↓exAt31, ↓exIx31, ↓exAt32, ↓exIx32, ↓exAt40, ↓exIx40, ↓exAt41, ↓exIx41, ↓exAt42, ↓exIx42, ↓exAt43, ↓exIx43, ↓exAt50, ↓exIx50, ↓exAt51, ↓exIx51, ↓exAt52, ↓exIx52, ↓exAt53, ↓exIx53, ↓exAt54, ↓exIx54, ↓exAt60, ↓exIx60, ↓exAt61, ↓exIx61, ↓exAt62, ↓exIx62, ↓exAt63, ↓exIx63, ↓exAt64, ↓exIx64, ↓exAt65, ↓exIx65, up_up, false_or, or_false, ↓exAtM, ↓dFlag_bl, ↓exBl, ↓exInt, ↓exRef, ↓dVar0, ↓dAug0, ↓dSet0, ↓dTgN0, ↓dTgW0, ↓dVar1, ↓dAug1, ↓dSet1, ↓dTgN1, ↓dTgW1, ↓dVar2, ↓dAug2, ↓dSet2, ↓dTgN2, ↓dTgW2, ↓dVar3, ↓dAug3, ↓dSet3, ↓dTgN3, ↓dTgW3, ↓dVar4, ↓dAug4, ↓dSet4, ↓dTgN4, ↓dTgW4, ↓dVar5, ↓dAug5, ↓dSet5, ↓dTgN5, ↓dTgW5, ↓dVar6, ↓dAug6, ↓dSet6, ↓dTgN6, ↓dTgW6, ↓dVar7, ↓dAug7, ↓dSet7, ↓dTgN7, ↓dTgW7, ↓dVar8, ↓dAug8, ↓dSet8, ↓dTgN8, ↓dTgW8, ↓dVar9, ↓dAug9, ↓dSet9, ↓dTgN9, ↓dTgW9, ↓dVar10, ↓dAug10, ↓dSet10, ↓dTgN10, ↓dTgW10, ↓dVar11, ↓dAug11, ↓dSet11, ↓dTgN11, ↓dTgW11, ↓dVar12, ↓dAug12, ↓dSet12, ↓dTgN12, ↓dTgW12, ↓dVar13, ↓dAug13, ↓dSet13, ↓dTgN13, ↓dTgW13, ↓dVar14, ↓dAug14, ↓dSet14, ↓dTgN14, ↓dTgW14, ↓dVar15, ↓dAug15, ↓dSet15, ↓dTgN15, ↓dTgW15, ↓dVar16, ↓dAug16, ↓dSet16, ↓dTgN16, ↓dTgW16, ↓dVar17, ↓dAug17, ↓dSet17, ↓dTgN17, ↓dTgW17, ↓dVar18, ↓dAug18, ↓dSet18, ↓dTgN18, ↓dTgW18, ↓dVar19, ↓dAug19, ↓dSet19, ↓dTgN19, ↓dTgW19, ↓dTg_t2, ↓dTg_t3, ↓exGetM, ↓exSumU, nD, plD, rwD, ↓dAdd_tup, ↓dAdd_ref, dIx_tup, dIx_str, dIx_ref, dIx_kl, dListOf_tup, dListOf_kl, dListOf_ref, dLen_tup, dLen_str, dLen_kl, dLen_ref, dTupOf_tup, dTupOf_ref, dSeqI_x, sqX_tup, sqX_ref, sqX_str, dEnumI_x, enX_tup, enX_ref, dSrtSet, dSortA, dIsi2, isT2, Bool.or_true, Bool.true_or, Bool.or_false, Bool.or_self, dReprR, dReprT, dDGet2, nD]
      exact ⟨_, atI_nat (List.getElem?_eq_getElem hj), by
        have : (ends l)[j] = (ends l).getD j 0 := by rw [List.getD_eq_getElem?_getD, List.getElem?_eq_getElem hj]; rfl
        rw [this]
        exact sb0 hP2⟩
    · rw [h2]
      simp (config := {failIfUnchanged := false}) only [dC, dOp, dTest, dChain, dAnd, dOr, dNot, dAndV, dOrV, dNotV, dIf, dNil, dCons, dTup, dLst, dCB, d1, dNoPart, dPart, dSl, dCut, dNeg, dSorted, dSum, dAll, dAny, dInt, dAbs, dMax, dMin, dIsi, isT, dNext, dSeq, dBrk, dCont, dNever, dExpr, dRet, dRetN, dIfS, dAsg, dPutI, dI0, dI, dIsN, dNotN, dRng1, dRng2, dRngDn, dZipI, dYes, dCall, dLM, dAppend, dExtend, dReverse, dInsert, dAugI, dRg1, dRg2, dTupRg, dLstRg, dNewK, dNewT, ↓S0_, ↓S1_, ↓S2_, ↓S3_, ↓S4_, ↓S5_, ↓S6_, List.map_cons, List.map_nil, List.length_cons, List.length_nil, List.replicate, List.cons_append, List.nil_append, Nat.reduceAdd, Nat.reduceSub, Nat.zero_add, List.getElem?_cons_zero, List.getElem?_cons_succ, Option.some.injEq, exists_eq_left, exists_eq_left', List.set_cons_zero, List.set_cons_succ, wipeD, D.int.injEq, D.bl.injEq, D.str.injEq, D.ref.injEq, D.tup.injEq, D.ty.injEq, true_and, and_true, forall_const, forall_eq', forall_eq, mt_int, mt_bool, mt_str, mt_tuple, mt_list, mt_dict, st_int_int, st_int_bool, st_int_str, st_int_tuple, st_int_list, st_int_dict, st_bool_int, st_bool_bool, st_bool_str, st_bool_tuple, st_bool_list, st_bool_dict, st_str_int, st_str_bool, st_str_str, st_str_tuple, st_str_list, st_str_dict, st_tuple_int, st_tuple_bool, st_tuple_str, st_tuple_tuple, st_tuple_list, st_tuple_dict, st_list_int, st_list_bool, st_list_str, st_list_tuple, st_list_list, st_list_dict, st_dict_int, st_dict_bool, st_dict_str, st_dict_tuple, st_dict_list, st_dict_dict, eq_self, Bool.true_eq_false, Bool.false_eq_true, false_implies, true_implies, implies_true, decide_eq_true_eq, decide_eq_false_iff_not, Bool.not_true, Bool.not_false, Bool.not_eq_true, Bool.not_eq_false, Bool.not_eq_true', Bool.not_eq_false', not_true_eq_false, not_false_eq_true, false_and, and_false, or_false, false_or, reduceCtorEq, ↓exLSu, ↓exDKu, ↓exDKd, ↓exLSd, ↓exLu, ↓dIxRu, ↓dPutu, ↓dGetAu, ↓dEq_int, ↓dNe_int, ↓dEq_bl, ↓dNe_bl, ↓dEq_str, ↓dNe_str, ↓dAdd_int, ↓exAt10, ↓exIx10, ↓exAt20, ↓exIx20, ↓exAt21, ↓exIx21, ↓exAt30, ↓exIx30, ↓exAt31, ↓exIx31, ↓exAt32, ↓exIx32, ↓exAt40, ↓exIx40, ↓exAt41, ↓exIx41, ↓exAt42, ↓exIx42, ↓exAt43, ↓exIx43, ↓exAt50, ↓exIx50, ↓exAt51, ↓exIx51, ↓exAt52, ↓exIx52, ↓exAt53, ↓exIx53, ↓exAt54, ↓exIx54, ↓exAt60, ↓exIx60, ↓exAt61, ↓exIx61, ↓exAt62, ↓exIx62, ↓exAt63, ↓exIx63, ↓exAt64, ↓exIx64, ↓exAt65, ↓exIx65, up_up, false_or, or_false, ↓exAtM, ↓dFlag_bl, ↓exBl, ↓exInt, ↓exRef, ↓dVar0, ↓dAug0, ↓dSet0, ↓dTgN0, ↓dTgW0, ↓dVar1, ↓dAug1, ↓dSet1, ↓dTgN1, ↓dTgW1, ↓dVar2, ↓dAug2, ↓dSet2, ↓dTgN2, ↓dTgW2, ↓dVar3, ↓dAug3, ↓dSet3, ↓dTgN3, ↓dTgW3, ↓dVar4, ↓dAug4, ↓dSet4, ↓dTgN4, ↓dTgW4, ↓dVar5, ↓dAug5, ↓dSet5, ↓dTgN5, ↓dTgW5, ↓dVar6, ↓dAug6, ↓dSet6, ↓dTgN6, ↓dTgW6, ↓dVar7, ↓dAug7, ↓dSet7, ↓dTgN7, ↓dTgW7, ↓dVar8, ↓dAug8, ↓dSet8, ↓dTgN8, ↓dTgW8, ↓dVar9, ↓dAug9, ↓dSet9, ↓dTgN9, ↓dTgW9, ↓dVar10, ↓dAug10, ↓dSet10, ↓dTgN10, ↓dTgW10, ↓dVar11, ↓dAug11, ↓dSet11, ↓dTgN11, ↓dTgW11, ↓dVar12, ↓dAug12, ↓dSet12, ↓dTgN12, ↓dTgW12, ↓dVar13, ↓dAug13, ↓dSet13, ↓dTgN13, ↓dTgW13, ↓dVar14, ↓dAug14, ↓dSet14, ↓dTgN14, ↓dTgW14, ↓dVar15, ↓dAug15, ↓dSet15, ↓dTgN15, ↓dTgW15, ↓dVar16, ↓dAug16, ↓dSet16, ↓dTgN16, ↓dTgW16, ↓dVar17, ↓dAug17, ↓dSet17, ↓dTgN17, ↓dTgW17, ↓dVar18, ↓dAug18, ↓dSet18, ↓dTgN18, ↓dTgW18, ↓dVar19, ↓dAug19, ↓dSet19, ↓dTgN19, ↓dTgW19, ↓dTg_t2, ↓dTg_t3, ↓exGetM, ↓exSumU, nD, plD, rwD, ↓dAdd_tup, ↓dAdd_ref, dIx_tup, dIx_str, dIx_ref, dIx_kl, dListOf_tup, dListOf_kl, dListOf_ref, dLen_tup, dLen_str, dLen_kl, dLen_ref, dTupOf_tup, dTupOf_ref, dSeqI_x, sqX_tup, sqX_ref, sqX_str, dEnumI_x, enX_tup, enX_ref, dSrtSet, dSortA, dIsi2, isT2, Bool.or_true, Bool.true_or, Bool.or_false, Bool.or_self, dReprR, dReprT, dDGet2, LS_up]
      have nq : f ≠ q := by rintro rfl; rw [up_same] at hq; cases hq
      refine ⟨(r.map fun j => (ends l).getD j 0).map fun n : Nat => (n : Int), by rw [nD_ints, List.map_map]; rfl, ?_⟩
      simp only [↓exLn nq, ↓exLu]
      refine ⟨by rw [List.length_map, ends_len]; exact small1000 (by omega), up M f (.lst ((ends (l ++ [r])).map nD)), ?_, hP _ _ ⟨rfl, _, _, rfl⟩⟩
      have e3 : (ends l).map nD ++ [D.int (1 + ((r.map fun j => (ends l).getD j 0).map fun n : Nat => (n : Int)).sum)] = (ends (l ++ [r])).map nD := by
        rw [sumN, ends_snoc, endStep, List.map_append]
        simp [nD]
      rw [e3, up_comm nq.symm, up_up]
      exact Sub.new (by rw [up_ne nq.symm] at hq ⊢; exact hq) (by intro _ z; cases z)
  · rintro δ' _ ⟨rfl, a, b, rfl⟩
    rw [h1]
    simp (config := {failIfUnchanged := false}) only [dC, dOp, dTest, dChain, dAnd, dOr, dNot, dAndV, dOrV, dNotV, dIf, dNil, dCons, dTup, dLst, dCB, d1, dNoPart, dPart, dSl, dCut, dNeg, dSorted, dSum, dAll, dAny, dInt, dAbs, dMax, dMin, dIsi, isT, dNext, dSeq, dBrk, dCont, dNever, dExpr, dRet, dRetN, dIfS, dAsg, dPutI, dI0, dI, dIsN, dNotN, dRng1, dRng2, dRngDn, dZipI, dYes, dCall, dLM, dAppend, dExtend, dReverse, dInsert, dAugI, dRg1, dRg2, dTupRg, dLstRg, dNewK, dNewT, ↓S0_, ↓S1_, ↓S2_, ↓S3_, ↓S4_, ↓S5_, ↓S6_, List.map_cons, List.map_nil, List.length_cons, List.length_nil, List.replicate, List.cons_append, List.nil_append, Nat.reduceAdd, Nat.reduceSub, Nat.zero_add, List.getElem?_cons_zero, List.getElem?_cons_succ, Option.some.injEq, exists_eq_left, exists_eq_left', List.set_cons_zero, List.set_cons_succ, wipeD, D.int.injEq, D.bl.injEq, D.str.injEq, D.ref.injEq, D.tup.injEq, D.ty.injEq, true_and, and_true, forall_const, forall_eq', forall_eq, mt_int, mt_bool, mt_str, mt_tuple, mt_list, mt_dict, st_int_int, st_int_bool, st_int_str, st_int_tuple, st_int_list, st_int_dict, st_bool_int, st_bool_bool, st_bool_str, st_bool_tuple, st_bool_list, st_bool_dict, st_str_int, st_str_bool, st_str_str, st_str_tuple, st_str_list, st_str_dict, st_tuple_int, st_tuple_bool, st_tuple_str, st_tuple_tuple, st_tuple_list, st_tuple_dict, st_list_int, st_list_bool, st_list_str, st_list_tuple, st_list_list, st_list_dict, st_dict_int, st_dict_bool, st_dict_str, st_dict_tuple, st_dict_list, st_dict_dict, eq_self, Bool.true_eq_false, Bool.false_eq_true, false_implies, true_implies, implies_true, decide_eq_true_eq, decide_eq_false_iff_not, Bool.not_true, Bool.not_false, Bool.not_eq_true, Bool.not_eq_false, Bool.not_eq_true', Bool.not_eq_false', not_true_eq_false, not_false_eq_true, false_and, and_false, or_false, false_or, reduceCtorEq, ↓exLSu, ↓exDKu, ↓exDKd, ↓exLSd, ↓exLu, ↓dIxRu, ↓dPutu, ↓dGetAu, ↓dEq_int, ↓dNe_int, ↓dEq_bl, ↓dNe_bl, ↓dEq_str, ↓dNe_str, ↓dAdd_int, ↓exAt10, ↓exIx10, ↓exAt20, ↓exIx20, ↓exAt21, ↓exIx21, ↓exAt30, ↓exIx30, ↓exAt31, ↓exIx31, ↓exAt32, ↓exIx32, ↓exAt40, ↓exIx40, ↓exAt41, ↓exIx41, ↓exAt42, ↓exIx42, ↓exAt43, ↓exIx43, ↓exAt50, ↓exIx50, ↓exAt51, ↓exIx51, ↓exAt52, ↓exIx52, ↓exAt53, ↓exIx53, ↓exAt54, ↓exIx54, ↓exAt60, ↓exIx60, ↓exAt61, ↓exIx61, ↓exAt62, ↓exIx62, ↓exAt63, ↓exIx63, ↓exAt64, ↓exIx64, ↓exAt65, ↓exIx65, up_up, false_or, or_false, ↓exAtM, ↓dFlag_bl, ↓exBl, ↓exInt, ↓exRef, ↓dVar0, ↓dAug0, ↓dSet0, ↓dTgN0, ↓dTgW0, ↓dVar1, ↓dAug1, ↓dSet1, ↓dTgN1, ↓dTgW1, ↓dVar2, ↓dAug2, ↓dSet2, ↓dTgN2, ↓dTgW2, ↓dVar3, ↓dAug3, ↓dSet3, ↓dTgN3, ↓dTgW3, ↓dVar4, ↓dAug4, ↓dSet4, ↓dTgN4, ↓dTgW4, ↓dVar5, ↓dAug5, ↓dSet5, ↓dTgN5, ↓dTgW5, ↓dVar6, ↓dAug6, ↓dSet6, ↓dTgN6, ↓dTgW6, ↓dVar7, ↓dAug7, ↓dSet7, ↓dTgN7, ↓dTgW7, ↓dVar8, ↓dAug8, ↓dSet8, ↓dTgN8, ↓dTgW8, ↓dVar9, ↓dAug9, ↓dSet9, ↓dTgN9, ↓dTgW9, ↓dVar10, ↓dAug10, ↓dSet10, ↓dTgN10, ↓dTgW10, ↓dVar11, ↓dAug11, ↓dSet11, ↓dTgN11, ↓dTgW11, ↓dVar12, ↓dAug12, ↓dSet12, ↓dTgN12, ↓dTgW12, ↓dVar13, ↓dAug13, ↓dSet13, ↓dTgN13, ↓dTgW13, ↓dVar14, ↓dAug14, ↓dSet14, ↓dTgN14, ↓dTgW14, ↓dVar15, ↓dAug15, ↓dSet15, ↓dTgN15, ↓dTgW15, ↓dVar16, ↓dAug16, ↓dSet16, ↓dTgN16, ↓dTgW16, ↓dVar17, ↓dAug17, ↓dSet17, ↓dTgN17, ↓dTgW17, ↓dVar18, ↓dAug18, ↓dSet18, ↓dTgN18, ↓dTgW18, ↓dVar19, ↓dAug19, ↓dSet19, ↓dTgN19, ↓dTgW19, ↓dTg_t2, ↓dTg_t3, ↓exGetM, ↓exSumU, nD, plD, rwD, ↓dAdd_tup, ↓dAdd_ref, dIx_tup, dIx_str, dIx_ref, dIx_kl, dListOf_tup, dListOf_kl, dListOf_ref, dLen_tup, dLen_str, dLen_kl, dLen_ref, dTupOf_tup, dTupOf_ref, dSeqI_x, sqX_tup, sqX_ref, sqX_str, dEnumI_x, enX_tup, enX_ref, dSrtSet, dSortA, dIsi2, isT2, Bool.or_true, Bool.true_or, Bool.or_false, Bool.or_self, dReprR, dReprT, dDGet2]
    exact dn0 (h f hf)
end
theorem getD_of {α : Type} {xs : List α} {i : Nat} {a d : α} (h : xs[i]? = some a) : xs.getD i d = a := by
  rw [List.getD_eq_getElem?_getD, h]; rfl
theorem get_of {xs : List Nat} {j : Nat} (h : j < xs.length) : xs[j]? = some (xs.getD j 0) := by
  rw [List.getD_eq_getElem?_getD, List.getElem?_eq_getElem h]; rfl
theorem begRow_len (i : Nat) : ∀ (r acc : List Nat), (begRow i r acc).length = acc.length
  | [], _ => rfl
  | j :: r, acc => by
    show (begRow i r (acc.set j _)).length = _
    rw [begRow_len i r, List.length_set]
theorem begFold_len (p : List (List Nat)) : ∀ (l : List Nat) (acc : List Nat), (l.foldl (begStep p) acc).length = acc.length
  | [], _ => rfl
  | i :: l, acc => by
    rw [List.foldl_cons, begFold_len p l]
    exact begRow_len _ _ _
theorem map_one (p : List (List Nat)) : p.map (fun _ => D.int 1) = (List.replicate p.length 1).map nD := by
  rw [List.map_replicate, List.map_const']
  rfl
section
variable {P : Program} {w : World} {K : PySem.W.Frag} {mg : Str → Option Value} {base : Heap}
theorem pr_many_chains (G : Gv K mg) : Pr P w K mg base "many_chains" 2 ["plan"] (S1 fun x M Q => ∃ p, x = plD p ∧ Snd p ∧ Q (nD (ends p).sum) M) := by
  refine (pr3 (k := 1) G.d_many_chains bi_many_chains sc_many_chains S1n (fun f cdv A outer s H E hr => (b_one (s_ret (e_callB (cd_sum rfl) (by rfl) G.b_sum rfl (a_cons (e_callP (pr_ending_of G) (hr.mono (by decide)) (by rfl) pass0 (a_cons (e_var 0) a_nil)) a_nil)))))) ?_
  rintro _ M Q E ⟨_, rfl, p, rfl, S, h⟩ H rep
  refine ⟨M, rep, fun _ h => h, ?_⟩
  simp only [startD, List.map_cons, List.map_nil, List.length_cons, List.length_nil, Nat.reduceAdd, Nat.reduceSub, Nat.zero_add, List.replicate, List.cons_append, List.nil_append]; simp (config := {failIfUnchanged := false}) only [dC, dOp, dTest, dChain, dAnd, dOr, dNot, dAndV, dOrV, dNotV, dIf, dNil, dCons, dTup, dLst, dCB, d1, dNoPart, dPart, dSl, dCut, dNeg, dSorted, dSum, dAll, dAny, dInt, dAbs, dMax, dMin, dIsi, isT, dNext, dSeq, dBrk, dCont, dNever, dExpr, dRet, dRetN, dIfS, dAsg, dPutI, dI0, dI, dIsN, dNotN, dRng1, dRng2, dRngDn, dZipI, dYes, dCall, dLM, dAppend, dExtend, dReverse, dInsert, dAugI, dRg1, dRg2, dTupRg, dLstRg, dNewK, dNewT, ↓S0_, ↓S1_, ↓S2_, ↓S3_, ↓S4_, ↓S5_, ↓S6_, List.map_cons, List.map_nil, List.length_cons, List.length_nil, List.replicate, List.cons_append, List.nil_append, Nat.reduceAdd, Nat.reduceSub, Nat.zero_add, List.getElem?_cons_zero, List.getElem?_cons_succ, Option.some.injEq, exists_eq_left, exists_eq_left', List.set_cons_zero, List.set_cons_succ, wipeD, D.int.injEq, D.bl.injEq, D.str.injEq, D.ref.injEq, D.tup.injEq, D.ty.injEq, true_and, and_true, forall_const, forall_eq', forall_eq, mt_int, mt_bool, mt_str, mt_tuple, mt_list, mt_dict, st_int_int, st_int_bool, st_int_str, st_int_tuple, st_int_list, st_int_dict, st_bool_int, st_bool_bool, st_bool_str, st_bool_tuple, st_bool_list, st_bool_dict, st_str_int, st_str_bool, st_str_str, st_str_tuple, st_str_list, st_str_dict, st_tuple_int, st_tuple_bool, st_tuple_str, st_tuple_tuple, st_tuple_list, st_tuple_dict, st_list_int, st_list_bool, st_list_str, st_list_tuple, st_list_list, st_list_dict, st_dict_int, st_dict_bool, st_dict_str, st_dict_tuple, st_dict_list, st_dict_dict, eq_self, Bool.true_eq_false, Bool.false_eq_true, false_implies, true_implies, implies_true, decide_eq_true_eq, decide_eq_false_iff_not, Bool.not_true, Bool.not_false, Bool.not_eq_true, Bool.not_eq_false, Bool.not_eq_true', Bool.not_eq_false', not_true_eq_false, not_false_eq_true, false_and, and_false, or_false, false_or, reduceCtorEq, ↓exLSu, ↓exDKu, ↓exDKd, ↓exLSd, ↓exLu, ↓dIxRu, ↓dPutu, ↓dGetAu, ↓dEq_int, ↓dNe_int, ↓dEq_bl, ↓dNe_bl, ↓dEq_str, ↓dNe_str, ↓dAdd_int, ↓exAt10, ↓exIx10, ↓exAt20, ↓exIx20, ↓exAt21, ↓exIx21, ↓exAt30, ↓exIx30, ↓exAt31, ↓exIx31, ↓exAt32, ↓exIx32, ↓exAt40, ↓exIx40, ↓exAt41, ↓exIx41, ↓exAt42, ↓exIx42, ↓exAt43, ↓exIx43, ↓exAt50, ↓exIx50, ↓exAt51, ↓exIx51, ↓exAt52, ↓exIx52, ↓exAt53, ↓exIx53, ↓exAt54, ↓exIx54, ↓exAt60, ↓exIx60, ↓exAt61, ↓exIx61, ↓exAt62, ↓exIx62, ↓exAt63, ↓exIx63, ↓exAt64, ↓exIx64, ↓exAt65, ↓exIx65, up_up, false_or, or_false, ↓exAtM, ↓dFlag_bl, ↓exBl, ↓exInt, ↓exRef, ↓dVar0, ↓dAug0, ↓dSet0, ↓dTgN0, ↓dTgW0, ↓dVar1, ↓dAug1, ↓dSet1, ↓dTgN1, ↓dTgW1, ↓dVar2, ↓dAug2, ↓dSet2, ↓dTgN2, ↓dTgW2, ↓dVar3, ↓dAug3, ↓dSet3, ↓dTgN3, ↓dTgW3, ↓dVar4, ↓dAug4, ↓dSet4, ↓dTgN4, ↓dTgW4, ↓dVar5, ↓dAug5, ↓dSet5, ↓dTgN5, ↓dTgW5, ↓dVar6, ↓dAug6, ↓dSet6, ↓dTgN6, ↓dTgW6, ↓dVar7, ↓dAug7, ↓dSet7, ↓dTgN7, ↓dTgW7, ↓dVar8, ↓dAug8, ↓dSet8, ↓dTgN8, ↓dTgW8, ↓dVar9, ↓dAug9, ↓dSet9, ↓dTgN9, ↓dTgW9, ↓dVar10, ↓dAug10, ↓dSet10, ↓dTgN10, ↓dTgW10, ↓dVar11, ↓dAug11, ↓dSet11, ↓dTgN11, ↓dTgW11, ↓dVar12, ↓dAug12, ↓dSet12, ↓dTgN12, ↓dTgW12, ↓dVar13, ↓dAug13, ↓dSet13, ↓dTgN13, ↓dTgW13, ↓dVar14, ↓dAug14, ↓dSet14, ↓dTgN14, ↓dTgW14, ↓dVar15, ↓dAug15, ↓dSet15, ↓dTgN15, ↓dTgW15, ↓dVar16, ↓dAug16, ↓dSet16, ↓dTgN16, ↓dTgW16, ↓dVar17, ↓dAug17, ↓dSet17, ↓dTgN17, ↓dTgW17, ↓dVar18, ↓dAug18, ↓dSet18, ↓dTgN18, ↓dTgW18, ↓dVar19, ↓dAug19, ↓dSet19, ↓dTgN19, ↓dTgW19, ↓dTg_t2, ↓dTg_t3, ↓exGetM, ↓exSumU, nD, plD, rwD, ↓dAdd_tup, ↓dAdd_ref, dIx_tup, dIx_str, dIx_ref, dIx_kl, dListOf_tup, dListOf_kl, dListOf_ref, dLen_tup, dLen_str, dLen_kl, dLen_ref, dTupOf_tup, dTupOf_ref, dSeqI_x, sqX_tup, sqX_ref, sqX_str, dEnumI_x, enX_tup, enX_ref, dSrtSet, dSortA, dIsi2, isT2, Bool.or_true, Bool.true_or, Bool.or_false, Bool.or_self, dReprR, dReprT, dDGet2]
  refine ⟨p, rfl, S, fun q hq => ?_⟩
  rw [sumN]
  exact ⟨M, (Sub.new hq (by intro _ z; cases z)).fgt, h⟩
end
/-! ### days: puts and meets -/
inductive Ev where
  | put (h : Nat)
  | meet (a b : Nat)
def sPut : Str := ⟨#[112, 117, 116]⟩
def sMeet : Str := ⟨#[109, 101, 101, 116]⟩
def evD : Ev → D
  | .put h => .tup [.str sPut, nD h]
  | .meet a b => .tup [.str sMeet, nD a, nD b]
def Ev.ok : Ev → Prop
  | .put h => h < 16
  | .meet a b => a < 16 ∧ b < 16 ∧ a ≠ b
def Ev.isPut : Ev → Bool
  | .put _ => true
  | .meet _ _ => false
def puts (l : List Ev) : Nat := (l.filter Ev.isPut).length
theorem puts_app (l t : List Ev) : puts (l ++ t) = puts l + puts t := by unfold puts; rw [List.filter_append, List.length_append]
theorem puts_le (l : List Ev) : puts l ≤ l.length := List.length_filter_le _ _
def mrg (n : Nat) (a b : List Nat) : List Nat := (List.range n).filter fun x => decide (x ∈ a ∨ x ∈ b)
theorem mrg_asc {n : Nat} {a b : List Nat} : (mrg n a b).Pairwise (· < ·) := List.pairwise_lt_range.filter _
theorem mrg_mem {n : Nat} {a b : List Nat} (ha : ∀ x ∈ a, x < n) (hb : ∀ x ∈ b, x < n) {x : Nat} : x ∈ mrg n a b ↔ x ∈ a ∨ x ∈ b := by
  unfold mrg
  rw [List.mem_filter, decide_eq_true_eq, List.mem_range]
  exact ⟨fun h => h.2, fun h => ⟨h.elim (ha x) (hb x), h⟩⟩
def kn (k : Nat → List Nat) (h : Nat) (v : List Nat) : Nat → List Nat := fun x => if x = h then v else k x
theorem kn2 (k : Nat → List Nat) (a b : Nat) (v : List Nat) (g : Nat) : kn (kn k a v) b v g = v ∨ kn (kn k a v) b v g = k g := by
  unfold kn
  split
  · exact .inl rfl
  · split
    · exact .inl rfl
    · exact .inr rfl
structure St where
  k : Nat → List Nat
  R : List (List Nat)
def St.step (s : St) : Ev → St
  | .put h => ⟨kn s.k h (s.k h ++ [s.R.length]), s.R ++ [s.k h]⟩
  | .meet a b => ⟨kn (kn s.k a (mrg s.R.length (s.k a) (s.k b))) b (mrg s.R.length (s.k a) (s.k b)), s.R⟩
def St.run (s : St) (l : List Ev) : St := l.foldl St.step s
def st0 : St := ⟨fun _ => [], []⟩
def plO (l : List Ev) : List (List Nat) := (st0.run l).R
theorem run_app (s : St) (l t : List Ev) : s.run (l ++ t) = (s.run l).run t := List.foldl_append
theorem run_cons (s : St) (e : Ev) (t : List Ev) : s.run (e :: t) = (s.step e).run t := rfl
theorem run_snoc (s : St) (l : List Ev) (e : Ev) : s.run (l ++ [e]) = (s.run l).step e := by rw [run_app]; rfl
structure WF (s : St) : Prop where
  asc : ∀ h, (s.k h).Pairwise (· < ·)
  lt : ∀ h, ∀ x ∈ s.k h, x < s.R.length
  cl : ∀ h, ∀ x ∈ s.k h, ∀ y ∈ s.R.getD x [], y ∈ s.k h
  ra : ∀ r ∈ s.R, r.Pairwise (· < ·)
  rl : ∀ (i : Nat) (r : List Nat), s.R[i]? = some r → ∀ x ∈ r, x < i
  rt : ∀ (i : Nat) (r : List Nat), s.R[i]? = some r → ∀ x ∈ r, ∀ t, s.R[x]? = some t → ∀ y ∈ t, y ∈ r
theorem wf0 : WF st0 := ⟨fun _ => .nil, fun _ x h => by simp [st0] at h, fun _ x h => by simp [st0] at h, fun r h => by simp [st0] at h, fun i r h => by simp [st0] at h, fun i r h => by simp [st0] at h⟩
theorem getD_snocL {R : List (List Nat)} {r : List Nat} {x : Nat} (h : x < R.length) : (R ++ [r]).getD x [] = R.getD x [] := by
  rw [List.getD_eq_getElem?_getD, List.getElem?_append_left h, ← List.getD_eq_getElem?_getD]
theorem WF.step {s : St} (w : WF s) (e : Ev) : WF (s.step e) := by
  cases e with
  | put h =>
    have asc2 : (s.k h ++ [s.R.length]).Pairwise (· < ·) := List.pairwise_append.mpr ⟨w.asc h, List.pairwise_singleton _ _, fun a ha b hb => by rw [List.mem_singleton] at hb; subst hb; exact w.lt h a ha⟩
    have gd : (s.R ++ [s.k h]).getD s.R.length [] = s.k h := by
      rw [List.getD_eq_getElem?_getD, List.getElem?_append_right (Nat.le_refl _), Nat.sub_self]; rfl
    refine ⟨fun g => ?_, fun g x hx => ?_, fun g x hx y hy => ?_, fun r hr => ?_, fun i r hr x hx => ?_, fun i r hr x hx t ht y hy => ?_⟩
    · show (kn s.k h _ g).Pairwise _
      unfold kn
      split
      · exact asc2
      · exact w.asc g
    · show x < (s.R ++ [s.k h]).length
      rw [List.length_append]
      show x < s.R.length + 1
      have hx : x ∈ kn s.k h (s.k h ++ [s.R.length]) g := hx
      unfold kn at hx
      split at hx
      · rcases List.mem_append.mp hx with z | z
        · have := w.lt h x z; omega
        · rw [List.mem_singleton] at z; omega
      · have := w.lt g x hx; omega
    · show y ∈ kn s.k h (s.k h ++ [s.R.length]) g
      have hx : x ∈ kn s.k h (s.k h ++ [s.R.length]) g := hx
      have hy : y ∈ (s.R ++ [s.k h]).getD x [] := hy
      unfold kn at hx ⊢
      split at hx
      · rw [if_pos (by assumption)]
        rcases List.mem_append.mp hx with z | z
        · rw [getD_snocL (w.lt h x z)] at hy
          exact List.mem_append.mpr (.inl (w.cl h x z y hy))
        · rw [List.mem_singleton] at z
          subst z
          rw [gd] at hy
          exact List.mem_append.mpr (.inl hy)
      · rw [if_neg (by assumption)]
        rw [getD_snocL (w.lt g x hx)] at hy
        exact w.cl g x hx y hy
    · rcases List.mem_append.mp hr with z | z
      · exact w.ra r z
      · rw [List.mem_singleton] at z; subst z; exact w.asc h
    · have hr : (s.R ++ [s.k h])[i]? = some r := hr
      by_cases e : i < s.R.length
      · rw [List.getElem?_append_left e] at hr
        exact w.rl i r hr x hx
      · have hi := (List.getElem?_eq_some_iff.mp hr).1
        rw [List.length_append, List.length_singleton] at hi
        have : i = s.R.length := by omega
        subst this
        rw [List.getElem?_append_right (Nat.le_refl _), Nat.sub_self] at hr
        have : s.k h = r := Option.some.inj hr
        subst this
        exact w.lt h x hx
    · have hr : (s.R ++ [s.k h])[i]? = some r := hr
      have ht : (s.R ++ [s.k h])[x]? = some t := ht
      by_cases e : i < s.R.length
      · rw [List.getElem?_append_left e] at hr
        have hxi := w.rl i r hr x hx
        rw [List.getElem?_append_left (by omega)] at ht
        exact w.rt i r hr x hx t ht y hy
      · have hi := (List.getElem?_eq_some_iff.mp hr).1
        rw [List.length_append, List.length_singleton] at hi
        have : i = s.R.length := by omega
        subst this
        rw [List.getElem?_append_right (Nat.le_refl _), Nat.sub_self] at hr
        have : s.k h = r := Option.some.inj hr
        subst this
        have hxl := w.lt h x hx
        rw [List.getElem?_append_left hxl] at ht
        exact w.cl h x hx y (by rw [List.getD_eq_getElem?_getD, ht]; exact hy)
  | meet a b =>
    have mm : ∀ x, x ∈ mrg s.R.length (s.k a) (s.k b) ↔ x ∈ s.k a ∨ x ∈ s.k b := fun x => mrg_mem (w.lt a) (w.lt b)
    have cs : ∀ g, (s.step (.meet a b)).k g = mrg s.R.length (s.k a) (s.k b) ∨ (s.step (.meet a b)).k g = s.k g := fun g => by
      exact kn2 s.k a b (mrg s.R.length (s.k a) (s.k b)) g
    refine ⟨fun g => ?_, fun g x hx => ?_, fun g x hx y hy => ?_, w.ra, w.rl, w.rt⟩
    · rcases cs g with e | e <;> rw [e]
      · exact mrg_asc
      · exact w.asc g
    · show x < s.R.length
      rcases cs g with e | e <;> rw [e] at hx
      · rcases (mm x).mp hx with z | z
        · exact w.lt a x z
        · exact w.lt b x z
      · exact w.lt g x hx
    · have hy : y ∈ s.R.getD x [] := hy
      rcases cs g with e | e <;> rw [e] at hx ⊢
      · rw [mm y]
        rcases (mm x).mp hx with z | z
        · exact .inl (w.cl a x z y hy)
        · exact .inr (w.cl b x z y hy)
      · exact w.cl g x hx y hy
theorem WF.run {s : St} (w : WF s) (l : List Ev) : WF (s.run l) := by
  induction l generalizing s with
  | nil => exact w
  | cons e t ih => exact ih (w.step e)
theorem step_len (s : St) (e : Ev) : (s.step e).R.length = s.R.length + puts [e] := by
  cases e with
  | put h => show (s.R ++ [s.k h]).length = _; rw [List.length_append]; rfl
  | meet a b => rfl
theorem run_len (s : St) (l : List Ev) : (s.run l).R.length = s.R.length + puts l := by
  induction l generalizing s with
  | nil => rfl
  | cons e t ih =>
    rw [run_cons, ih, step_len, Nat.add_assoc, ← puts_app]; rfl
theorem plO_len (l : List Ev) : (plO l).length = puts l := by
  unfold plO; rw [run_len]; exact Nat.zero_add _
theorem plO_snd {l : List Ev} (h : puts l ≤ 40) : Snd (plO l) :=
  ⟨by rw [plO_len]; exact h, (wf0.run l).ra, (wf0.run l).rl, (wf0.run l).rt⟩
/-! ### chains of days -/
def chO (l : List Ev) : Nat := (ends (plO l)).sum
theorem sum_le_of : ∀ {l l' : List Nat} {f g : Nat → Nat}, l.Nodup → (∀ x ∈ l, x ∈ l') → (∀ x ∈ l, f x ≤ g x) → (l.map f).sum ≤ (l'.map g).sum
  | [], _, _, _, _, _, _ => by simp
  | a :: l, l', f, g, nd, sub, le => by
    have p := List.perm_cons_erase (sub a (by simp))
    have nd' := List.nodup_cons.mp nd
    rw [(p.map g).sum_nat, List.map_cons, List.map_cons, List.sum_cons, List.sum_cons]
    have h1 := sum_le_of (l := l) (l' := l'.erase a) (f := f) (g := g) nd'.2 (fun x hx => (List.mem_erase_of_ne (fun z => nd'.1 (by rw [← z]; exact hx))).mpr (sub x (by simp [hx]))) (fun x hx => le x (by simp [hx]))
    have h2 := le a (by simp)
    omega
structure Le (s t : St) : Prop where
  len : s.R.length = t.R.length
  k : ∀ h, ∀ x ∈ s.k h, x ∈ t.k h
  e : ∀ i, (ends s.R).getD i 0 ≤ (ends t.R).getD i 0
  n : ∀ h, (s.k h).Pairwise (· < ·)
theorem ends_getL {R : List (List Nat)} {r : List Nat} {i : Nat} (h : i < R.length) : (ends (R ++ [r])).getD i 0 = (ends R).getD i 0 := by
  rw [ends_snoc, endStep, List.getD_eq_getElem?_getD, List.getElem?_append_left (by rw [ends_len]; exact h), ← List.getD_eq_getElem?_getD]
theorem ends_getR {R : List (List Nat)} {r : List Nat} : (ends (R ++ [r])).getD R.length 0 = 1 + (r.map fun j => (ends R).getD j 0).sum := by
  rw [ends_snoc, endStep, List.getD_eq_getElem?_getD, List.getElem?_append_right (by rw [ends_len]; exact Nat.le_refl _), ends_len, Nat.sub_self]; rfl
theorem Le.step {s t : St} (ws : WF s) (wt : WF t) (l : Le s t) (e : Ev) : Le (s.step e) (t.step e) := by
  have n' := (ws.step e).asc
  cases e with
  | put h =>
    refine ⟨by rw [step_len, step_len, l.len], fun g x hx => ?_, fun i => ?_, n'⟩
    · have hx : x ∈ kn s.k h (s.k h ++ [s.R.length]) g := hx
      show x ∈ kn t.k h (t.k h ++ [t.R.length]) g
      unfold kn at hx ⊢
      split at hx
      · rw [if_pos (by assumption)]
        rcases List.mem_append.mp hx with z | z
        · exact List.mem_append.mpr (.inl (l.k h x z))
        · rw [l.len] at z; exact List.mem_append.mpr (.inr z)
      · rw [if_neg (by assumption)]
        exact l.k g x hx
    · show (ends (s.R ++ [s.k h])).getD i 0 ≤ (ends (t.R ++ [t.k h])).getD i 0
      by_cases c : i < s.R.length
      · rw [ends_getL c, ends_getL (by rw [← l.len]; exact c)]
        exact l.e i
      · by_cases c2 : i = s.R.length
        · subst c2
          rw [ends_getR, l.len, ends_getR]
          have := sum_le_of (f := fun j => (ends s.R).getD j 0) (g := fun j => (ends t.R).getD j 0) ((ws.asc h).imp fun h => Nat.ne_of_lt h) (l.k h) (fun x _ => l.e x)
          omega
        · rw [List.getD_eq_getElem?_getD, List.getElem?_eq_none (by rw [ends_len, List.length_append, List.length_singleton]; omega)]
          exact Nat.zero_le _
  | meet a b =>
    refine ⟨l.len, fun g x hx => ?_, l.e, n'⟩
    have hx : x ∈ kn (kn s.k a (mrg s.R.length (s.k a) (s.k b))) b (mrg s.R.length (s.k a) (s.k b)) g := hx
    show x ∈ kn (kn t.k a (mrg t.R.length (t.k a) (t.k b))) b (mrg t.R.length (t.k a) (t.k b)) g
    have key : x ∈ mrg s.R.length (s.k a) (s.k b) → x ∈ mrg t.R.length (t.k a) (t.k b) := fun z => by
      rw [mrg_mem (ws.lt a) (ws.lt b)] at z
      rw [mrg_mem (wt.lt a) (wt.lt b)]
      exact z.imp (l.k a x) (l.k b x)
    unfold kn at hx ⊢
    split at hx
    · rw [if_pos (by assumption)]; exact key hx
    · rw [if_neg (by assumption)]
      split at hx
      · rw [if_pos (by assumption)]; exact key hx
      · rw [if_neg (by assumption)]; exact l.k g x hx
theorem Le.run {s t : St} (ws : WF s) (wt : WF t) (l : Le s t) (es : List Ev) : Le (s.run es) (t.run es) := by
  induction es generalizing s t with
  | nil => exact l
  | cons e r ih => exact ih (ws.step e) (wt.step e) (l.step ws wt e)
theorem le_meet {s : St} (w : WF s) (a b : Nat) : Le s (s.step (.meet a b)) := by
  refine ⟨rfl, fun g x hx => ?_, fun i => Nat.le_refl _, w.asc⟩
  show x ∈ kn (kn s.k a (mrg s.R.length (s.k a) (s.k b))) b (mrg s.R.length (s.k a) (s.k b)) g
  unfold kn
  split
  · subst g; rw [mrg_mem (w.lt a) (w.lt b)]; exact .inr hx
  · split
    · subst g; rw [mrg_mem (w.lt a) (w.lt b)]; exact .inl hx
    · exact hx
theorem sum_getD_le : ∀ {a b : List Nat}, a.length = b.length → (∀ i, a.getD i 0 ≤ b.getD i 0) → a.sum ≤ b.sum
  | [], [], _, _ => Nat.le_refl _
  | [], _ :: _, h, _ => by simp at h
  | _ :: _, [], h, _ => by simp at h
  | x :: a, y :: b, h, g => by
    have := sum_getD_le (a := a) (b := b) (by simpa using h) (fun i => by have := g (i + 1); simpa using this)
    have h0 := g 0
    simp at h0
    rw [List.sum_cons, List.sum_cons]
    omega
/-- a meet more makes no fewer chains -/
theorem ch_meet (l t : List Ev) (a b : Nat) : chO (l ++ t) ≤ chO (l ++ .meet a b :: t) := by
  have w := wf0.run l
  have h := Le.run w (w.step (.meet a b)) (le_meet w a b) t
  unfold chO plO
  rw [run_app, run_app, run_cons]
  exact sum_getD_le (by rw [ends_len, ends_len]; exact h.len) h.e
/-- a meet twice is a meet -/
theorem step_twice {s : St} (w : WF s) (a b : Nat) : (s.step (.meet a b)).step (.meet a b) = s.step (.meet a b) := by
  have ka : (s.step (.meet a b)).k a = mrg s.R.length (s.k a) (s.k b) := by
    show kn (kn s.k a _) b _ a = _
    unfold kn
    split
    · rfl
    · rw [if_pos rfl]
  have kb : (s.step (.meet a b)).k b = mrg s.R.length (s.k a) (s.k b) := by
    show kn (kn s.k a _) b _ b = _
    unfold kn
    rw [if_pos rfl]
  have hl : ∀ x ∈ mrg s.R.length (s.k a) (s.k b), x < s.R.length := fun x hx => by
    rw [mrg_mem (w.lt a) (w.lt b)] at hx
    exact hx.elim (w.lt a x) (w.lt b x)
  have e : mrg s.R.length (mrg s.R.length (s.k a) (s.k b)) (mrg s.R.length (s.k a) (s.k b)) = mrg s.R.length (s.k a) (s.k b) := by
    refine asc_ext mrg_asc mrg_asc fun x => ?_
    rw [mrg_mem hl hl]
    exact ⟨fun h => h.elim id id, .inl⟩
  show (⟨kn (kn (s.step (.meet a b)).k a (mrg s.R.length ((s.step (.meet a b)).k a) ((s.step (.meet a b)).k b))) b (mrg s.R.length ((s.step (.meet a b)).k a) ((s.step (.meet a b)).k b)), s.R⟩ : St) = _
  rw [ka, kb, e]
  show (⟨_, s.R⟩ : St) = ⟨_, s.R⟩
  congr 1
  funext x
  show kn (kn (kn (kn s.k a _) b _) a _) b _ x = kn (kn s.k a _) b _ x
  unfold kn
  split
  · rfl
  · split
    · rfl
    · rfl
theorem ch_twice (l t : List Ev) (a b : Nat) : chO (l ++ .meet a b :: .meet a b :: t) = chO (l ++ .meet a b :: t) := by
  unfold chO plO
  rw [run_app, run_app, run_cons, run_cons, run_cons, step_twice (wf0.run l)]
theorem run_meets : ∀ (t : List Ev) (s : St), (∀ e ∈ t, e.isPut = false) → (s.run t).R = s.R
  | [], _, _ => rfl
  | .put h :: t, s, hm => by have := hm (.put h) (by simp); simp [Ev.isPut] at this
  | .meet a b :: t, s, hm => by
    rw [run_cons, run_meets t _ fun e he => hm e (by simp [he])]; rfl
theorem ch_meets (l : List Ev) {t : List Ev} (h : ∀ e ∈ t, e.isPut = false) : chO (l ++ t) = chO l := by
  unfold chO plO
  rw [run_app, run_meets t _ h]
/-! ### what each meet costs -/
def rm (l : List Ev) (j : Nat) : List Ev := l.take j ++ l.drop (j + 1)
def cc1 (W : Nat) (f : List Ev → List Ev) (l : List Ev) (j : Nat) : List Int := match l[j]? with
  | some (.meet _ _) => [(W : Int) - (chO (f (rm l j)) : Int)]
  | _ => []
def ccN (W : Nat) (f : List Ev → List Ev) (l : List Ev) (n : Nat) : List Int := (List.range n).flatMap (cc1 W f l)
def cc (W : Nat) (f : List Ev → List Ev) (l : List Ev) : List Int := ccN W f l l.length
def csts (l : List Ev) : List Int := cc (chO l) id l
theorem ccN_succ (W : Nat) (f : List Ev → List Ev) (l : List Ev) (n : Nat) : ccN W f l (n + 1) = ccN W f l n ++ cc1 W f l n := by
  unfold ccN
  rw [List.range_succ, List.flatMap_append]
  simp
theorem ccN_len (W : Nat) (f : List Ev → List Ev) (l : List Ev) : ∀ n ≤ l.length, (ccN W f l n).length + puts (l.take n) = n
  | 0, _ => by simp [ccN, puts]
  | n + 1, h => by
    have ih := ccN_len W f l n (by omega)
    obtain ⟨e, he⟩ : ∃ e, l[n]? = some e := ⟨_, List.getElem?_eq_getElem (by omega)⟩
    rw [ccN_succ, List.length_append, List.take_succ, puts_app, he]
    cases e with
    | put h =>
      have : cc1 W f l n = [] := by unfold cc1; rw [he]
      rw [this]
      have : puts ([Ev.put h]) = 1 := rfl
      simp only [Option.toList]
      rw [this]; simp; omega
    | meet a b =>
      have : (cc1 W f l n).length = 1 := by unfold cc1; rw [he]; rfl
      rw [this]
      have : puts ([Ev.meet a b]) = 0 := rfl
      simp only [Option.toList]
      rw [this]; omega
theorem cc_len (W : Nat) (f : List Ev → List Ev) (l : List Ev) : (cc W f l).length = l.length - puts l := by
  have := ccN_len W f l l.length (Nat.le_refl _)
  rw [List.take_length] at this
  unfold cc
  omega
theorem ccN_congr {W W' : Nat} {f g : List Ev → List Ev} {l l' : List Ev} {n : Nat} (h : ∀ j < n, cc1 W f l j = cc1 W' g l' j) : ccN W f l n = ccN W' g l' n := by
  induction n with
  | zero => rfl
  | succ n ih => rw [ccN_succ, ccN_succ, ih fun j hj => h j (by omega), h n (by omega)]
theorem cc_fn {W : Nat} {f g : List Ev → List Ev} {l : List Ev} (h : ∀ x, chO (f x) = chO (g x)) : cc W f l = cc W g l :=
  ccN_congr fun j _ => by
    unfold cc1
    split
    · rw [h]
    · rfl
theorem rm_left {l t : List Ev} {j : Nat} (h : j < l.length) : rm (l ++ t) j = rm l j ++ t := by
  unfold rm
  rw [List.take_append_of_le_length (by omega), List.drop_append_of_le_length (by omega), List.append_assoc]
theorem rm_right {l t : List Ev} {j : Nat} : rm (l ++ t) (l.length + j) = l ++ rm t j := by
  unfold rm
  rw [List.take_length_add_append, Nat.add_assoc, List.drop_length_add_append, List.append_assoc]
theorem cc_app (W : Nat) (f : List Ev → List Ev) (l t : List Ev) : cc W f (l ++ t) = cc W (fun x => f (x ++ t)) l ++ cc W (fun x => f (l ++ x)) t := by
  have key : ∀ n ≤ t.length, ccN W f (l ++ t) (l.length + n) = cc W (fun x => f (x ++ t)) l ++ ccN W (fun x => f (l ++ x)) t n := fun n => by
    induction n with
    | zero =>
      intro _
      rw [show ccN W (fun x => f (l ++ x)) t 0 = [] from rfl, List.append_nil, Nat.add_zero]
      exact ccN_congr fun j hj => by
        unfold cc1
        rw [List.getElem?_append_left hj, rm_left hj]
    | succ n ih =>
      intro h
      rw [← Nat.add_assoc, ccN_succ, ih (by omega), ccN_succ, List.append_assoc]
      congr 2
      unfold cc1
      rw [List.getElem?_append_right (Nat.le_add_right _ _), Nat.add_sub_cancel_left, rm_right]
  have := key t.length (Nat.le_refl _)
  rw [← List.length_append] at this
  exact this
theorem cst_nn (l : List Ev) : ∀ c ∈ csts l, 0 ≤ c := by
  have key : ∀ n ≤ l.length, ∀ c ∈ ccN (chO l) id l n, 0 ≤ c := fun n => by
    induction n with
    | zero => intro _ c h; simp [ccN] at h
    | succ n ih =>
      intro h c hc
      rw [ccN_succ] at hc
      rcases List.mem_append.mp hc with z | z
      · exact ih (by omega) c z
      · unfold cc1 at z
        split at z
        · rename_i a b he
          rw [List.mem_singleton] at z
          subst z
          have hn : n < l.length := by omega
          have e1 : l = l.take n ++ .meet a b :: l.drop (n + 1) := by
            have : l[n] = .meet a b := by
              rw [List.getElem?_eq_getElem hn] at he; exact Option.some.inj he
            rw [← this, List.getElem_cons_drop, List.take_append_drop]
          have := ch_meet (l.take n) (l.drop (n + 1)) a b
          rw [← e1] at this
          show (0 : Int) ≤ (chO l : Int) - (chO (l.take n ++ l.drop (n + 1)) : Int)
          omega
        · simp at z
  exact key _ (Nat.le_refl _)
theorem rm_sub {t : List Ev} {j : Nat} : ∀ e ∈ rm t j, e ∈ t := fun e he => by
  rcases List.mem_append.mp he with z | z
  · exact List.mem_of_mem_take z
  · exact List.mem_of_mem_drop z
theorem cst_late (l : List Ev) {t : List Ev} (h : ∀ e ∈ t, e.isPut = false) : ∃ A : List Int, csts (l ++ t) = A ++ List.replicate t.length 0 := by
  refine ⟨cc (chO (l ++ t)) (fun x => id (x ++ t)) l, ?_⟩
  unfold csts
  rw [cc_app]
  congr 1
  have key : ∀ n ≤ t.length, ccN (chO (l ++ t)) (fun x => id (l ++ x)) t n = List.replicate n 0 := fun n => by
    induction n with
    | zero => intro _; rfl
    | succ n ih =>
      intro hn
      rw [ccN_succ, ih (by omega), List.replicate_succ']
      congr 1
      obtain ⟨e, he⟩ : ∃ e, t[n]? = some e := ⟨_, List.getElem?_eq_getElem (by omega)⟩
      unfold cc1
      rw [he]
      cases e with
      | put x => have := h _ (List.mem_of_getElem? he); simp [Ev.isPut] at this
      | meet a b =>
        show [((chO (l ++ t) : Nat) : Int) - (chO (l ++ rm t n) : Int)] = [0]
        rw [ch_meets l h, ch_meets l fun e he => h e (rm_sub e he), Int.sub_self]
  exact key _ (Nat.le_refl _)
theorem cst_twice (l t : List Ev) (a b : Nat) : csts (l ++ .meet a b :: .meet a b :: t) = (csts (l ++ .meet a b :: t)).take (l.length - puts l) ++ [0, 0] ++ (csts (l ++ .meet a b :: t)).drop (l.length - puts l + 1) := by
  have e1 : csts (l ++ .meet a b :: t) = cc (chO (l ++ .meet a b :: t)) (fun x => x ++ .meet a b :: t) l ++ ([((chO (l ++ .meet a b :: t) : Nat) : Int) - (chO (l ++ t) : Int)] ++ cc (chO (l ++ .meet a b :: t)) (fun x => l ++ .meet a b :: x) t) := by
    unfold csts
    rw [cc_app, show Ev.meet a b :: t = [Ev.meet a b] ++ t from rfl, cc_app]
    rfl
  have e2 : csts (l ++ .meet a b :: .meet a b :: t) = cc (chO (l ++ .meet a b :: t)) (fun x => x ++ .meet a b :: t) l ++ ([0, 0] ++ cc (chO (l ++ .meet a b :: t)) (fun x => l ++ .meet a b :: x) t) := by
    unfold csts
    rw [ch_twice, cc_app, show Ev.meet a b :: .meet a b :: t = [Ev.meet a b, .meet a b] ++ t from rfl, cc_app]
    congr 1
    · exact cc_fn fun x => ch_twice x t a b
    · congr 1
      · show [((chO (l ++ .meet a b :: t) : Nat) : Int) - (chO (l ++ .meet a b :: t) : Int), ((chO (l ++ .meet a b :: t) : Nat) : Int) - (chO (l ++ .meet a b :: t) : Int)] = [0, 0]
        rw [Int.sub_self]
      · exact cc_fn fun x => ch_twice l x a b
  have hl : l.length - puts l = (cc (chO (l ++ .meet a b :: t)) (fun x => x ++ .meet a b :: t) l).length := (cc_len _ _ _).symm
  rw [e2, e1, hl, List.take_left, List.drop_length_add_append, List.append_assoc]
  rfl
/-! ### the days' own defs -/
structure DayO (M : Hd) (x : D) (l : List Ev) : Prop where
  sq : SqO M x (l.map evD)
  len : l.length ≤ 60
  pt : puts l ≤ 40
  ok : ∀ e ∈ l, e.ok
theorem DayO.sub {M M' : Hd} {x : D} {l : List Ev} (h : DayO M x l) (s : Sub M' M) : DayO M' x l := ⟨h.sq.sub s, h.len, h.pt, h.ok⟩
theorem sPP : (sPut = Str.ofString "put") = True := eq_true (by decide)
theorem sPM : (sPut = Str.ofString "meet") = False := eq_false (by decide)
theorem sMP : (sMeet = Str.ofString "put") = False := eq_false (by decide)
theorem sMM : (sMeet = Str.ofString "meet") = True := eq_true (by decide)
theorem sqL {M : Hd} {a : Addr} {xs : List D} (h : M a = some (.lst xs)) : SqO M (.ref a) xs := .inr ⟨a, rfl, h⟩
section
variable {P : Program} {w : World} {K : PySem.W.Frag} {mg : Str → Option Value} {base : Heap}
theorem pr_is_listed (G : Gv K mg) : Pr P w K mg base "is_listed" 1 ["thing"] (S1 fun x M Q => ∃ ds, SqO M x ds ∧ Q (.bl true) M) := by
  refine (pr3 (k := 0) G.d_is_listed bi_is_listed sc_is_listed S1n (fun f cdv A outer s H E hr => (b_one (s_ret (e_callB cd_isi2 (by rfl) G.b_isinstance rfl (a_cons (e_var 0) (a_cons (e_tup (a_cons (e_ty (by rfl) G.b_list rfl) (a_cons (e_ty (by rfl) G.b_tuple rfl) a_nil))) a_nil))))))) ?_
  rintro _ M Q E ⟨_, rfl, ds, rfl | ⟨f, rfl, hf⟩, h⟩ H rep
  · refine ⟨M, rep, fun _ h => h, ?_⟩
    simp only [startD, List.map_cons, List.map_nil, List.length_cons, List.length_nil, Nat.reduceAdd, Nat.reduceSub, Nat.zero_add, List.replicate, List.cons_append, List.nil_append]; simp (config := {failIfUnchanged := false}) only [dC, dOp, dTest, dChain, dAnd, dOr, dNot, dAndV, dOrV, dNotV, dIf, dNil, dCons, dTup, dLst, dCB, d1, dNoPart, dPart, dSl, dCut, dNeg, dSorted, dSum, dAll, dAny, dInt, dAbs, dMax, dMin, dIsi, isT, dNext, dSeq, dBrk, dCont, dNever, dExpr, dRet, dRetN, dIfS, dAsg, dPutI, dI0, dI, dIsN, dNotN, dRng1, dRng2, dRngDn, dZipI, dYes, dCall, dLM, dAppend, dExtend, dReverse, dInsert, dAugI, dRg1, dRg2, dTupRg, dLstRg, dNewK, dNewT, ↓S0_, ↓S1_, ↓S2_, ↓S3_, ↓S4_, ↓S5_, ↓S6_, List.map_cons, List.map_nil, List.length_cons, List.length_nil, List.replicate, List.cons_append, List.nil_append, Nat.reduceAdd, Nat.reduceSub, Nat.zero_add, List.getElem?_cons_zero, List.getElem?_cons_succ, Option.some.injEq, exists_eq_left, exists_eq_left', List.set_cons_zero, List.set_cons_succ, wipeD, D.int.injEq, D.bl.injEq, D.str.injEq, D.ref.injEq, D.tup.injEq, D.ty.injEq, true_and, and_true, forall_const, forall_eq', forall_eq, mt_int, mt_bool, mt_str, mt_tuple, mt_list, mt_dict, st_int_int, st_int_bool, st_int_str, st_int_tuple, st_int_list, st_int_dict, st_bool_int, st_bool_bool, st_bool_str, st_bool_tuple, st_bool_list, st_bool_dict, st_str_int, st_str_bool, st_str_str, st_str_tuple, st_str_list, st_str_dict, st_tuple_int, st_tuple_bool, st_tuple_str, st_tuple_tuple, st_tuple_list, st_tuple_dict, st_list_int, st_list_bool, st_list_str, st_list_tuple, st_list_list, st_list_dict, st_dict_int, st_dict_bool, st_dict_str, st_dict_tuple, st_dict_list, st_dict_dict, eq_self, Bool.true_eq_false, Bool.false_eq_true, false_implies, true_implies, implies_true, decide_eq_true_eq, decide_eq_false_iff_not, Bool.not_true, Bool.not_false, Bool.not_eq_true, Bool.not_eq_false, Bool.not_eq_true', Bool.not_eq_false', not_true_eq_false, not_false_eq_true, false_and, and_false, or_false, false_or, reduceCtorEq, ↓exLSu, ↓exDKu, ↓exDKd, ↓exLSd, ↓exLu, ↓dIxRu, ↓dPutu, ↓dGetAu, ↓dEq_int, ↓dNe_int, ↓dEq_bl, ↓dNe_bl, ↓dEq_str, ↓dNe_str, ↓dAdd_int, ↓exAt10, ↓exIx10, ↓exAt20, ↓exIx20, ↓exAt21, ↓exIx21, ↓exAt30, ↓exIx30, ↓exAt31, ↓exIx31, ↓exAt32, ↓exIx32, ↓exAt40, ↓exIx40, ↓exAt41, ↓exIx41, ↓exAt42, ↓exIx42, ↓exAt43, ↓exIx43, ↓exAt50, ↓exIx50, ↓exAt51, ↓exIx51, ↓exAt52, ↓exIx52, ↓exAt53, ↓exIx53, ↓exAt54, ↓exIx54, ↓exAt60, ↓exIx60, ↓exAt61, ↓exIx61, ↓exAt62, ↓exIx62, ↓exAt63, ↓exIx63, ↓exAt64, ↓exIx64, ↓exAt65, ↓exIx65, up_up, false_or, or_false, ↓exAtM, ↓dFlag_bl, ↓exBl, ↓exInt, ↓exRef, ↓dVar0, ↓dAug0, ↓dSet0, ↓dTgN0, ↓dTgW0, ↓dVar1, ↓dAug1, ↓dSet1, ↓dTgN1, ↓dTgW1, ↓dVar2, ↓dAug2, ↓dSet2, ↓dTgN2, ↓dTgW2, ↓dVar3, ↓dAug3, ↓dSet3, ↓dTgN3, ↓dTgW3, ↓dVar4, ↓dAug4, ↓dSet4, ↓dTgN4, ↓dTgW4, ↓dVar5, ↓dAug5, ↓dSet5, ↓dTgN5, ↓dTgW5, ↓dVar6, ↓dAug6, ↓dSet6, ↓dTgN6, ↓dTgW6, ↓dVar7, ↓dAug7, ↓dSet7, ↓dTgN7, ↓dTgW7, ↓dVar8, ↓dAug8, ↓dSet8, ↓dTgN8, ↓dTgW8, ↓dVar9, ↓dAug9, ↓dSet9, ↓dTgN9, ↓dTgW9, ↓dVar10, ↓dAug10, ↓dSet10, ↓dTgN10, ↓dTgW10, ↓dVar11, ↓dAug11, ↓dSet11, ↓dTgN11, ↓dTgW11, ↓dVar12, ↓dAug12, ↓dSet12, ↓dTgN12, ↓dTgW12, ↓dVar13, ↓dAug13, ↓dSet13, ↓dTgN13, ↓dTgW13, ↓dVar14, ↓dAug14, ↓dSet14, ↓dTgN14, ↓dTgW14, ↓dVar15, ↓dAug15, ↓dSet15, ↓dTgN15, ↓dTgW15, ↓dVar16, ↓dAug16, ↓dSet16, ↓dTgN16, ↓dTgW16, ↓dVar17, ↓dAug17, ↓dSet17, ↓dTgN17, ↓dTgW17, ↓dVar18, ↓dAug18, ↓dSet18, ↓dTgN18, ↓dTgW18, ↓dVar19, ↓dAug19, ↓dSet19, ↓dTgN19, ↓dTgW19, ↓dTg_t2, ↓dTg_t3, ↓exGetM, ↓exSumU, nD, plD, rwD, ↓dAdd_tup, ↓dAdd_ref, dIx_tup, dIx_str, dIx_ref, dIx_kl, dListOf_tup, dListOf_kl, dListOf_ref, dLen_tup, dLen_str, dLen_kl, dLen_ref, dTupOf_tup, dTupOf_ref, dSeqI_x, sqX_tup, sqX_ref, sqX_str, dEnumI_x, enX_tup, enX_ref, dSrtSet, dSortA, dIsi2, isT2, Bool.or_true, Bool.true_or, Bool.or_false, Bool.or_self, dReprR, dReprT, dDGet2]
    exact dn0 h
  · refine ⟨M, rep, fun _ h => h, ?_⟩
    simp only [startD, List.map_cons, List.map_nil, List.length_cons, List.length_nil, Nat.reduceAdd, Nat.reduceSub, Nat.zero_add, List.replicate, List.cons_append, List.nil_append]; simp (config := {failIfUnchanged := false}) only [dC, dOp, dTest, dChain, dAnd, dOr, dNot, dAndV, dOrV, dNotV, dIf, dNil, dCons, dTup, dLst, dCB, d1, dNoPart, dPart, dSl, dCut, dNeg, dSorted, dSum, dAll, dAny, dInt, dAbs, dMax, dMin, dIsi, isT, dNext, dSeq, dBrk, dCont, dNever, dExpr, dRet, dRetN, dIfS, dAsg, dPutI, dI0, dI, dIsN, dNotN, dRng1, dRng2, dRngDn, dZipI, dYes, dCall, dLM, dAppend, dExtend, dReverse, dInsert, dAugI, dRg1, dRg2, dTupRg, dLstRg, dNewK, dNewT, ↓S0_, ↓S1_, ↓S2_, ↓S3_, ↓S4_, ↓S5_, ↓S6_, List.map_cons, List.map_nil, List.length_cons, List.length_nil, List.replicate, List.cons_append, List.nil_append, Nat.reduceAdd, Nat.reduceSub, Nat.zero_add, List.getElem?_cons_zero, List.getElem?_cons_succ, Option.some.injEq, exists_eq_left, exists_eq_left', List.set_cons_zero, List.set_cons_succ, wipeD, D.int.injEq, D.bl.injEq, D.str.injEq, D.ref.injEq, D.tup.injEq, D.ty.injEq, true_and, and_true, forall_const, forall_eq', forall_eq, mt_int, mt_bool, mt_str, mt_tuple, mt_list, mt_dict, st_int_int, st_int_bool, st_int_str, st_int_tuple, st_int_list, st_int_dict, st_bool_int, st_bool_bool, st_bool_str, st_bool_tuple, st_bool_list, st_bool_dict, st_str_int, st_str_bool, st_str_str, st_str_tuple, st_str_list, st_str_dict, st_tuple_int, st_tuple_bool, st_tuple_str, st_tuple_tuple, st_tuple_list, st_tuple_dict, st_list_int, st_list_bool, st_list_str, st_list_tuple, st_list_list, st_list_dict, st_dict_int, st_dict_bool, st_dict_str, st_dict_tuple, st_dict_list, st_dict_dict, eq_self, Bool.true_eq_false, Bool.false_eq_true, false_implies, true_implies, implies_true, decide_eq_true_eq, decide_eq_false_iff_not, Bool.not_true, Bool.not_false, Bool.not_eq_true, Bool.not_eq_false, Bool.not_eq_true', Bool.not_eq_false', not_true_eq_false, not_false_eq_true, false_and, and_false, or_false, false_or, reduceCtorEq, ↓exLSu, ↓exDKu, ↓exDKd, ↓exLSd, ↓exLu, ↓dIxRu, ↓dPutu, ↓dGetAu, ↓dEq_int, ↓dNe_int, ↓dEq_bl, ↓dNe_bl, ↓dEq_str, ↓dNe_str, ↓dAdd_int, ↓exAt10, ↓exIx10, ↓exAt20, ↓exIx20, ↓exAt21, ↓exIx21, ↓exAt30, ↓exIx30, ↓exAt31, ↓exIx31, ↓exAt32, ↓exIx32, ↓exAt40, ↓exIx40, ↓exAt41, ↓exIx41, ↓exAt42, ↓exIx42, ↓exAt43, ↓exIx43, ↓exAt50, ↓exIx50, ↓exAt51, ↓exIx51, ↓exAt52, ↓exIx52, ↓exAt53, ↓exIx53, ↓exAt54, ↓exIx54, ↓exAt60, ↓exIx60, ↓exAt61, ↓exIx61, ↓exAt62, ↓exIx62, ↓exAt63, ↓exIx63, ↓exAt64, ↓exIx64, ↓exAt65, ↓exIx65, up_up, false_or, or_false, ↓exAtM, ↓dFlag_bl, ↓exBl, ↓exInt, ↓exRef, ↓dVar0, ↓dAug0, ↓dSet0, ↓dTgN0, ↓dTgW0, ↓dVar1, ↓dAug1, ↓dSet1, ↓dTgN1, ↓dTgW1, ↓dVar2, ↓dAug2, ↓dSet2, ↓dTgN2, ↓dTgW2, ↓dVar3, ↓dAug3, ↓dSet3, ↓dTgN3, ↓dTgW3, ↓dVar4, ↓dAug4, ↓dSet4, ↓dTgN4, ↓dTgW4, ↓dVar5, ↓dAug5, ↓dSet5, ↓dTgN5, ↓dTgW5, ↓dVar6, ↓dAug6, ↓dSet6, ↓dTgN6, ↓dTgW6, ↓dVar7, ↓dAug7, ↓dSet7, ↓dTgN7, ↓dTgW7, ↓dVar8, ↓dAug8, ↓dSet8, ↓dTgN8, ↓dTgW8, ↓dVar9, ↓dAug9, ↓dSet9, ↓dTgN9, ↓dTgW9, ↓dVar10, ↓dAug10, ↓dSet10, ↓dTgN10, ↓dTgW10, ↓dVar11, ↓dAug11, ↓dSet11, ↓dTgN11, ↓dTgW11, ↓dVar12, ↓dAug12, ↓dSet12, ↓dTgN12, ↓dTgW12, ↓dVar13, ↓dAug13, ↓dSet13, ↓dTgN13, ↓dTgW13, ↓dVar14, ↓dAug14, ↓dSet14, ↓dTgN14, ↓dTgW14, ↓dVar15, ↓dAug15, ↓dSet15, ↓dTgN15, ↓dTgW15, ↓dVar16, ↓dAug16, ↓dSet16, ↓dTgN16, ↓dTgW16, ↓dVar17, ↓dAug17, ↓dSet17, ↓dTgN17, ↓dTgW17, ↓dVar18, ↓dAug18, ↓dSet18, ↓dTgN18, ↓dTgW18, ↓dVar19, ↓dAug19, ↓dSet19, ↓dTgN19, ↓dTgW19, ↓dTg_t2, ↓dTg_t3, ↓exGetM, ↓exSumU, nD, plD, rwD, ↓dAdd_tup, ↓dAdd_ref, dIx_tup, dIx_str, dIx_ref, dIx_kl, dListOf_tup, dListOf_kl, dListOf_ref, dLen_tup, dLen_str, dLen_kl, dLen_ref, dTupOf_tup, dTupOf_ref, dSeqI_x, sqX_tup, sqX_ref, sqX_str, dEnumI_x, enX_tup, enX_ref, dSrtSet, dSortA, dIsi2, isT2, Bool.or_true, Bool.true_or, Bool.or_false, Bool.or_self, dReprR, dReprT, dDGet2]
    exact .inl ⟨ds, hf, dn0 h⟩
theorem pr_is_hand (G : Gv K mg) : Pr P w K mg base "is_hand" 3 ["thing"] (S1 fun x M Q => ∃ n : Nat, x = nD n ∧ n < 16 ∧ Q (.bl true) M) := by
  refine (pr3 (k := 2) G.d_is_hand bi_is_hand sc_is_hand S1n (fun f cdv A outer s H E hr => (b_one (s_ret (e_callP (pr_is_within G) (hr.mono (by decide)) (by rfl) pass0 (a_cons (e_var 0) (a_cons e_int (a_cons (e_gintP G.c_MOST_HAND (by rfl)) a_nil)))))))) ?_
  rintro _ M Q E ⟨_, rfl, n, rfl, hn, h⟩ H rep
  refine ⟨M, rep, fun _ h => h, ?_⟩
  simp only [startD, List.map_cons, List.map_nil, List.length_cons, List.length_nil, Nat.reduceAdd, Nat.reduceSub, Nat.zero_add, List.replicate, List.cons_append, List.nil_append]; simp (config := {failIfUnchanged := false}) only [dC, dOp, dTest, dChain, dAnd, dOr, dNot, dAndV, dOrV, dNotV, dIf, dNil, dCons, dTup, dLst, dCB, d1, dNoPart, dPart, dSl, dCut, dNeg, dSorted, dSum, dAll, dAny, dInt, dAbs, dMax, dMin, dIsi, isT, dNext, dSeq, dBrk, dCont, dNever, dExpr, dRet, dRetN, dIfS, dAsg, dPutI, dI0, dI, dIsN, dNotN, dRng1, dRng2, dRngDn, dZipI, dYes, dCall, dLM, dAppend, dExtend, dReverse, dInsert, dAugI, dRg1, dRg2, dTupRg, dLstRg, dNewK, dNewT, ↓S0_, ↓S1_, ↓S2_, ↓S3_, ↓S4_, ↓S5_, ↓S6_, List.map_cons, List.map_nil, List.length_cons, List.length_nil, List.replicate, List.cons_append, List.nil_append, Nat.reduceAdd, Nat.reduceSub, Nat.zero_add, List.getElem?_cons_zero, List.getElem?_cons_succ, Option.some.injEq, exists_eq_left, exists_eq_left', List.set_cons_zero, List.set_cons_succ, wipeD, D.int.injEq, D.bl.injEq, D.str.injEq, D.ref.injEq, D.tup.injEq, D.ty.injEq, true_and, and_true, forall_const, forall_eq', forall_eq, mt_int, mt_bool, mt_str, mt_tuple, mt_list, mt_dict, st_int_int, st_int_bool, st_int_str, st_int_tuple, st_int_list, st_int_dict, st_bool_int, st_bool_bool, st_bool_str, st_bool_tuple, st_bool_list, st_bool_dict, st_str_int, st_str_bool, st_str_str, st_str_tuple, st_str_list, st_str_dict, st_tuple_int, st_tuple_bool, st_tuple_str, st_tuple_tuple, st_tuple_list, st_tuple_dict, st_list_int, st_list_bool, st_list_str, st_list_tuple, st_list_list, st_list_dict, st_dict_int, st_dict_bool, st_dict_str, st_dict_tuple, st_dict_list, st_dict_dict, eq_self, Bool.true_eq_false, Bool.false_eq_true, false_implies, true_implies, implies_true, decide_eq_true_eq, decide_eq_false_iff_not, Bool.not_true, Bool.not_false, Bool.not_eq_true, Bool.not_eq_false, Bool.not_eq_true', Bool.not_eq_false', not_true_eq_false, not_false_eq_true, false_and, and_false, or_false, false_or, reduceCtorEq, ↓exLSu, ↓exDKu, ↓exDKd, ↓exLSd, ↓exLu, ↓dIxRu, ↓dPutu, ↓dGetAu, ↓dEq_int, ↓dNe_int, ↓dEq_bl, ↓dNe_bl, ↓dEq_str, ↓dNe_str, ↓dAdd_int, ↓exAt10, ↓exIx10, ↓exAt20, ↓exIx20, ↓exAt21, ↓exIx21, ↓exAt30, ↓exIx30, ↓exAt31, ↓exIx31, ↓exAt32, ↓exIx32, ↓exAt40, ↓exIx40, ↓exAt41, ↓exIx41, ↓exAt42, ↓exIx42, ↓exAt43, ↓exIx43, ↓exAt50, ↓exIx50, ↓exAt51, ↓exIx51, ↓exAt52, ↓exIx52, ↓exAt53, ↓exIx53, ↓exAt54, ↓exIx54, ↓exAt60, ↓exIx60, ↓exAt61, ↓exIx61, ↓exAt62, ↓exIx62, ↓exAt63, ↓exIx63, ↓exAt64, ↓exIx64, ↓exAt65, ↓exIx65, up_up, false_or, or_false, ↓exAtM, ↓dFlag_bl, ↓exBl, ↓exInt, ↓exRef, ↓dVar0, ↓dAug0, ↓dSet0, ↓dTgN0, ↓dTgW0, ↓dVar1, ↓dAug1, ↓dSet1, ↓dTgN1, ↓dTgW1, ↓dVar2, ↓dAug2, ↓dSet2, ↓dTgN2, ↓dTgW2, ↓dVar3, ↓dAug3, ↓dSet3, ↓dTgN3, ↓dTgW3, ↓dVar4, ↓dAug4, ↓dSet4, ↓dTgN4, ↓dTgW4, ↓dVar5, ↓dAug5, ↓dSet5, ↓dTgN5, ↓dTgW5, ↓dVar6, ↓dAug6, ↓dSet6, ↓dTgN6, ↓dTgW6, ↓dVar7, ↓dAug7, ↓dSet7, ↓dTgN7, ↓dTgW7, ↓dVar8, ↓dAug8, ↓dSet8, ↓dTgN8, ↓dTgW8, ↓dVar9, ↓dAug9, ↓dSet9, ↓dTgN9, ↓dTgW9, ↓dVar10, ↓dAug10, ↓dSet10, ↓dTgN10, ↓dTgW10, ↓dVar11, ↓dAug11, ↓dSet11, ↓dTgN11, ↓dTgW11, ↓dVar12, ↓dAug12, ↓dSet12, ↓dTgN12, ↓dTgW12, ↓dVar13, ↓dAug13, ↓dSet13, ↓dTgN13, ↓dTgW13, ↓dVar14, ↓dAug14, ↓dSet14, ↓dTgN14, ↓dTgW14, ↓dVar15, ↓dAug15, ↓dSet15, ↓dTgN15, ↓dTgW15, ↓dVar16, ↓dAug16, ↓dSet16, ↓dTgN16, ↓dTgW16, ↓dVar17, ↓dAug17, ↓dSet17, ↓dTgN17, ↓dTgW17, ↓dVar18, ↓dAug18, ↓dSet18, ↓dTgN18, ↓dTgW18, ↓dVar19, ↓dAug19, ↓dSet19, ↓dTgN19, ↓dTgW19, ↓dTg_t2, ↓dTg_t3, ↓exGetM, ↓exSumU, nD, plD, rwD, ↓dAdd_tup, ↓dAdd_ref, dIx_tup, dIx_str, dIx_ref, dIx_kl, dListOf_tup, dListOf_kl, dListOf_ref, dLen_tup, dLen_str, dLen_kl, dLen_ref, dTupOf_tup, dTupOf_ref, dSeqI_x, sqX_tup, sqX_ref, sqX_str, dEnumI_x, enX_tup, enX_ref, dSrtSet, dSortA, dIsi2, isT2, Bool.or_true, Bool.true_or, Bool.or_false, Bool.or_self, dReprR, dReprT, dDGet2]
  refine ⟨_, _, _, rfl, rfl, rfl, ?_⟩
  rw [decide_eq_true (show (0 : Int) ≤ (n : Int) by omega), decide_eq_true (show (n : Int) ≤ 15 by omega)]
  exact dn0 h
theorem pr_is_event (G : Gv K mg) : Pr P w K mg base "is_event" 4 ["thing"] (S1 fun x M Q => ∃ e : Ev, x = evD e ∧ e.ok ∧ Q (.bl true) M) := by
  refine (pr3 (k := 3) G.d_is_event bi_is_event sc_is_event S1n (fun f cdv A outer s H E hr => (b_cons (s_if (PW3.pt (w_or (t_not (t_val (e_callB cd_isi (by rfl) G.b_isinstance rfl (a_cons (e_var 0) (a_cons (e_ty (by rfl) G.b_tuple rfl) a_nil))))) (w_or (t_cmp od_lt (e_callB cd_len (by rfl) G.b_len rfl (a_cons (e_var 0) a_nil)) e_int) (w_or1 (t_not (t_val (e_callB cd_isi (by rfl) G.b_isinstance rfl (a_cons (e_ix (ixd (hu_of hr)) (e_var 0) e_int) (a_cons (e_ty (by rfl) G.b_str rfl) a_nil))))))))) (b_one (s_ret e_bl)) b_nil)
      (b_cons (s_if (t_cmp (od_eq (hu3 hr)) (e_ix (ixd (hu_of hr)) (e_var 0) e_int) e_str) (b_one (s_ret (e_and (e_cmp (od_eq (hu3 hr)) (e_callB cd_len (by rfl) G.b_len rfl (a_cons (e_var 0) a_nil)) e_int) (e_one (e_callP (pr_is_hand G) (hr.mono (by decide)) (by rfl) pass0 (a_cons (e_ix (ixd (hu_of hr)) (e_var 0) e_int) a_nil)))))) b_nil)
      (b_cons (s_if (PW3.pt (w_or (t_cmp (od_ne (hu3 hr)) (e_ix (ixd (hu_of hr)) (e_var 0) e_int) e_str) (w_or1 (t_cmp (od_ne (hu3 hr)) (e_callB cd_len (by rfl) G.b_len rfl (a_cons (e_var 0) a_nil)) e_int)))) (b_one (s_ret e_bl)) b_nil)
      (b_one (s_ret (e_and (e_callP (pr_is_hand G) (hr.mono (by decide)) (by rfl) pass0 (a_cons (e_ix (ixd (hu_of hr)) (e_var 0) e_int) a_nil)) (e_and (e_callP (pr_is_hand G) (hr.mono (by decide)) (by rfl) pass0 (a_cons (e_ix (ixd (hu_of hr)) (e_var 0) e_int) a_nil)) (e_one (e_cmp (od_ne (hu3 hr)) (e_ix (ixd (hu_of hr)) (e_var 0) e_int) (e_ix (ixd (hu_of hr)) (e_var 0) e_int)))))))))))) ?_
  rintro _ M Q E ⟨_, rfl, e, rfl, ho, h⟩ H rep
  refine ⟨M, rep, fun _ h => h, ?_⟩
  cases e with
  | put a =>
    have ho : a < 16 := ho
    simp only [startD, List.map_cons, List.map_nil, List.length_cons, List.length_nil, Nat.reduceAdd, Nat.reduceSub, Nat.zero_add, List.replicate, List.cons_append, List.nil_append]; simp (config := {failIfUnchanged := false}) only [dC, dOp, dTest, dChain, dAnd, dOr, dNot, dAndV, dOrV, dNotV, dIf, dNil, dCons, dTup, dLst, dCB, d1, dNoPart, dPart, dSl, dCut, dNeg, dSorted, dSum, dAll, dAny, dInt, dAbs, dMax, dMin, dIsi, isT, dNext, dSeq, dBrk, dCont, dNever, dExpr, dRet, dRetN, dIfS, dAsg, dPutI, dI0, dI, dIsN, dNotN, dRng1, dRng2, dRngDn, dZipI, dYes, dCall, dLM, dAppend, dExtend, dReverse, dInsert, dAugI, dRg1, dRg2, dTupRg, dLstRg, dNewK, dNewT, ↓S0_, ↓S1_, ↓S2_, ↓S3_, ↓S4_, ↓S5_, ↓S6_, List.map_cons, List.map_nil, List.length_cons, List.length_nil, List.replicate, List.cons_append, List.nil_append, Nat.reduceAdd, Nat.reduceSub, Nat.zero_add, List.getElem?_cons_zero, List.getElem?_cons_succ, Option.some.injEq, exists_eq_left, exists_eq_left', List.set_cons_zero, List.set_cons_succ, wipeD, D.int.injEq, D.bl.injEq, D.str.injEq, D.ref.injEq, D.tup.injEq, D.ty.injEq, true_and, and_true, forall_const, forall_eq', forall_eq, mt_int, mt_bool, mt_str, mt_tuple, mt_list, mt_dict, st_int_int, st_int_bool, st_int_str, st_int_tuple, st_int_list, st_int_dict, st_bool_int, st_bool_bool, st_bool_str, st_bool_tuple, st_bool_list, st_bool_dict, st_str_int, st_str_bool, st_str_str, st_str_tuple, st_str_list, st_str_dict, st_tuple_int, st_tuple_bool, st_tuple_str, st_tuple_tuple, st_tuple_list, st_tuple_dict, st_list_int, st_list_bool, st_list_str, st_list_tuple, st_list_list, st_list_dict, st_dict_int, st_dict_bool, st_dict_str, st_dict_tuple, st_dict_list, st_dict_dict, eq_self, Bool.true_eq_false, Bool.false_eq_true, false_implies, true_implies, implies_true, decide_eq_true_eq, decide_eq_false_iff_not, Bool.not_true, Bool.not_false, Bool.not_eq_true, Bool.not_eq_false, Bool.not_eq_true', Bool.not_eq_false', not_true_eq_false, not_false_eq_true, false_and, and_false, or_false, false_or, reduceCtorEq, ↓exLSu, ↓exDKu, ↓exDKd, ↓exLSd, ↓exLu, ↓dIxRu, ↓dPutu, ↓dGetAu, ↓dEq_int, ↓dNe_int, ↓dEq_bl, ↓dNe_bl, ↓dEq_str, ↓dNe_str, ↓dAdd_int, ↓exAt10, ↓exIx10, ↓exAt20, ↓exIx20, ↓exAt21, ↓exIx21, ↓exAt30, ↓exIx30, ↓exAt31, ↓exIx31, ↓exAt32, ↓exIx32, ↓exAt40, ↓exIx40, ↓exAt41, ↓exIx41, ↓exAt42, ↓exIx42, ↓exAt43, ↓exIx43, ↓exAt50, ↓exIx50, ↓exAt51, ↓exIx51, ↓exAt52, ↓exIx52, ↓exAt53, ↓exIx53, ↓exAt54, ↓exIx54, ↓exAt60, ↓exIx60, ↓exAt61, ↓exIx61, ↓exAt62, ↓exIx62, ↓exAt63, ↓exIx63, ↓exAt64, ↓exIx64, ↓exAt65, ↓exIx65, up_up, false_or, or_false, ↓exAtM, ↓dFlag_bl, ↓exBl, ↓exInt, ↓exRef, ↓dVar0, ↓dAug0, ↓dSet0, ↓dTgN0, ↓dTgW0, ↓dVar1, ↓dAug1, ↓dSet1, ↓dTgN1, ↓dTgW1, ↓dVar2, ↓dAug2, ↓dSet2, ↓dTgN2, ↓dTgW2, ↓dVar3, ↓dAug3, ↓dSet3, ↓dTgN3, ↓dTgW3, ↓dVar4, ↓dAug4, ↓dSet4, ↓dTgN4, ↓dTgW4, ↓dVar5, ↓dAug5, ↓dSet5, ↓dTgN5, ↓dTgW5, ↓dVar6, ↓dAug6, ↓dSet6, ↓dTgN6, ↓dTgW6, ↓dVar7, ↓dAug7, ↓dSet7, ↓dTgN7, ↓dTgW7, ↓dVar8, ↓dAug8, ↓dSet8, ↓dTgN8, ↓dTgW8, ↓dVar9, ↓dAug9, ↓dSet9, ↓dTgN9, ↓dTgW9, ↓dVar10, ↓dAug10, ↓dSet10, ↓dTgN10, ↓dTgW10, ↓dVar11, ↓dAug11, ↓dSet11, ↓dTgN11, ↓dTgW11, ↓dVar12, ↓dAug12, ↓dSet12, ↓dTgN12, ↓dTgW12, ↓dVar13, ↓dAug13, ↓dSet13, ↓dTgN13, ↓dTgW13, ↓dVar14, ↓dAug14, ↓dSet14, ↓dTgN14, ↓dTgW14, ↓dVar15, ↓dAug15, ↓dSet15, ↓dTgN15, ↓dTgW15, ↓dVar16, ↓dAug16, ↓dSet16, ↓dTgN16, ↓dTgW16, ↓dVar17, ↓dAug17, ↓dSet17, ↓dTgN17, ↓dTgW17, ↓dVar18, ↓dAug18, ↓dSet18, ↓dTgN18, ↓dTgW18, ↓dVar19, ↓dAug19, ↓dSet19, ↓dTgN19, ↓dTgW19, ↓dTg_t2, ↓dTg_t3, ↓exGetM, ↓exSumU, nD, plD, rwD, ↓dAdd_tup, ↓dAdd_ref, dIx_tup, dIx_str, dIx_ref, dIx_kl, dListOf_tup, dListOf_kl, dListOf_ref, dLen_tup, dLen_str, dLen_kl, dLen_ref, dTupOf_tup, dTupOf_ref, dSeqI_x, sqX_tup, sqX_ref, sqX_str, dEnumI_x, enX_tup, enX_ref, dSrtSet, dSortA, dIsi2, isT2, Bool.or_true, Bool.true_or, Bool.or_false, Bool.or_self, dReprR, dReprT, dDGet2, evD, sPP, sPM, sMP, sMM]
    exact ⟨fun z => absurd z (by decide), fun _ => ⟨fun _ => ⟨a, rfl, ho, dn0 h⟩, fun z => absurd rfl z⟩⟩
  | meet a b =>
    obtain ⟨h1, h2, h3⟩ : a < 16 ∧ b < 16 ∧ a ≠ b := ho
    simp only [startD, List.map_cons, List.map_nil, List.length_cons, List.length_nil, Nat.reduceAdd, Nat.reduceSub, Nat.zero_add, List.replicate, List.cons_append, List.nil_append]; simp (config := {failIfUnchanged := false}) only [dC, dOp, dTest, dChain, dAnd, dOr, dNot, dAndV, dOrV, dNotV, dIf, dNil, dCons, dTup, dLst, dCB, d1, dNoPart, dPart, dSl, dCut, dNeg, dSorted, dSum, dAll, dAny, dInt, dAbs, dMax, dMin, dIsi, isT, dNext, dSeq, dBrk, dCont, dNever, dExpr, dRet, dRetN, dIfS, dAsg, dPutI, dI0, dI, dIsN, dNotN, dRng1, dRng2, dRngDn, dZipI, dYes, dCall, dLM, dAppend, dExtend, dReverse, dInsert, dAugI, dRg1, dRg2, dTupRg, dLstRg, dNewK, dNewT, ↓S0_, ↓S1_, ↓S2_, ↓S3_, ↓S4_, ↓S5_, ↓S6_, List.map_cons, List.map_nil, List.length_cons, List.length_nil, List.replicate, List.cons_append, List.nil_append, Nat.reduceAdd, Nat.reduceSub, Nat.zero_add, List.getElem?_cons_zero, List.getElem?_cons_succ, Option.some.injEq, exists_eq_left, exists_eq_left', List.set_cons_zero, List.set_cons_succ, wipeD, D.int.injEq, D.bl.injEq, D.str.injEq, D.ref.injEq, D.tup.injEq, D.ty.injEq, true_and, and_true, forall_const, forall_eq', forall_eq, mt_int, mt_bool, mt_str, mt_tuple, mt_list, mt_dict, st_int_int, st_int_bool, st_int_str, st_int_tuple, st_int_list, st_int_dict, st_bool_int, st_bool_bool, st_bool_str, st_bool_tuple, st_bool_list, st_bool_dict, st_str_int, st_str_bool, st_str_str, st_str_tuple, st_str_list, st_str_dict, st_tuple_int, st_tuple_bool, st_tuple_str, st_tuple_tuple, st_tuple_list, st_tuple_dict, st_list_int, st_list_bool, st_list_str, st_list_tuple, st_list_list, st_list_dict, st_dict_int, st_dict_bool, st_dict_str, st_dict_tuple, st_dict_list, st_dict_dict, eq_self, Bool.true_eq_false, Bool.false_eq_true, false_implies, true_implies, implies_true, decide_eq_true_eq, decide_eq_false_iff_not, Bool.not_true, Bool.not_false, Bool.not_eq_true, Bool.not_eq_false, Bool.not_eq_true', Bool.not_eq_false', not_true_eq_false, not_false_eq_true, false_and, and_false, or_false, false_or, reduceCtorEq, ↓exLSu, ↓exDKu, ↓exDKd, ↓exLSd, ↓exLu, ↓dIxRu, ↓dPutu, ↓dGetAu, ↓dEq_int, ↓dNe_int, ↓dEq_bl, ↓dNe_bl, ↓dEq_str, ↓dNe_str, ↓dAdd_int, ↓exAt10, ↓exIx10, ↓exAt20, ↓exIx20, ↓exAt21, ↓exIx21, ↓exAt30, ↓exIx30, ↓exAt31, ↓exIx31, ↓exAt32, ↓exIx32, ↓exAt40, ↓exIx40, ↓exAt41, ↓exIx41, ↓exAt42, ↓exIx42, ↓exAt43, ↓exIx43, ↓exAt50, ↓exIx50, ↓exAt51, ↓exIx51, ↓exAt52, ↓exIx52, ↓exAt53, ↓exIx53, ↓exAt54, ↓exIx54, ↓exAt60, ↓exIx60, ↓exAt61, ↓exIx61, ↓exAt62, ↓exIx62, ↓exAt63, ↓exIx63, ↓exAt64, ↓exIx64, ↓exAt65, ↓exIx65, up_up, false_or, or_false, ↓exAtM, ↓dFlag_bl, ↓exBl, ↓exInt, ↓exRef, ↓dVar0, ↓dAug0, ↓dSet0, ↓dTgN0, ↓dTgW0, ↓dVar1, ↓dAug1, ↓dSet1, ↓dTgN1, ↓dTgW1, ↓dVar2, ↓dAug2, ↓dSet2, ↓dTgN2, ↓dTgW2, ↓dVar3, ↓dAug3, ↓dSet3, ↓dTgN3, ↓dTgW3, ↓dVar4, ↓dAug4, ↓dSet4, ↓dTgN4, ↓dTgW4, ↓dVar5, ↓dAug5, ↓dSet5, ↓dTgN5, ↓dTgW5, ↓dVar6, ↓dAug6, ↓dSet6, ↓dTgN6, ↓dTgW6, ↓dVar7, ↓dAug7, ↓dSet7, ↓dTgN7, ↓dTgW7, ↓dVar8, ↓dAug8, ↓dSet8, ↓dTgN8, ↓dTgW8, ↓dVar9, ↓dAug9, ↓dSet9, ↓dTgN9, ↓dTgW9, ↓dVar10, ↓dAug10, ↓dSet10, ↓dTgN10, ↓dTgW10, ↓dVar11, ↓dAug11, ↓dSet11, ↓dTgN11, ↓dTgW11, ↓dVar12, ↓dAug12, ↓dSet12, ↓dTgN12, ↓dTgW12, ↓dVar13, ↓dAug13, ↓dSet13, ↓dTgN13, ↓dTgW13, ↓dVar14, ↓dAug14, ↓dSet14, ↓dTgN14, ↓dTgW14, ↓dVar15, ↓dAug15, ↓dSet15, ↓dTgN15, ↓dTgW15, ↓dVar16, ↓dAug16, ↓dSet16, ↓dTgN16, ↓dTgW16, ↓dVar17, ↓dAug17, ↓dSet17, ↓dTgN17, ↓dTgW17, ↓dVar18, ↓dAug18, ↓dSet18, ↓dTgN18, ↓dTgW18, ↓dVar19, ↓dAug19, ↓dSet19, ↓dTgN19, ↓dTgW19, ↓dTg_t2, ↓dTg_t3, ↓exGetM, ↓exSumU, nD, plD, rwD, ↓dAdd_tup, ↓dAdd_ref, dIx_tup, dIx_str, dIx_ref, dIx_kl, dListOf_tup, dListOf_kl, dListOf_ref, dLen_tup, dLen_str, dLen_kl, dLen_ref, dTupOf_tup, dTupOf_ref, dSeqI_x, sqX_tup, sqX_ref, sqX_str, dEnumI_x, enX_tup, enX_ref, dSrtSet, dSortA, dIsi2, isT2, Bool.or_true, Bool.true_or, Bool.or_false, Bool.or_self, dReprR, dReprT, dDGet2, evD, sPP, sPM, sMP, sMM]
    refine ⟨fun z => absurd z (by decide), fun _ => ⟨fun z => absurd rfl z, fun _ => ⟨a, rfl, h1, b, rfl, h2, ?_⟩⟩⟩
    rw [decide_eq_false (fun z : (a : Int) = b => h3 (by omega))]
    exact dn0 h
theorem pr_is_put (G : Gv K mg) : Pr P w K mg base "is_put" 5 ["thing"] (S1 fun x M Q => ∃ e : Ev, x = evD e ∧ e.ok ∧ Q (.bl e.isPut) M) := by
  refine (pr3 (k := 4) G.d_is_put bi_is_put sc_is_put S1n (fun f cdv A outer s H E hr => (b_one (s_ret (e_and (e_callP (pr_is_event G) (hr.mono (by decide)) (by rfl) pass0 (a_cons (e_var 0) a_nil)) (e_one (e_cmp (od_eq (hu3 hr)) (e_ix (ixd (hu_of hr)) (e_var 0) e_int) e_str))))))) ?_
  rintro _ M Q E ⟨_, rfl, e, rfl, ho, h⟩ H rep
  refine ⟨M, rep, fun _ h => h, ?_⟩
  simp only [startD, List.map_cons, List.map_nil, List.length_cons, List.length_nil, Nat.reduceAdd, Nat.reduceSub, Nat.zero_add, List.replicate, List.cons_append, List.nil_append]; simp (config := {failIfUnchanged := false}) only [dC, dOp, dTest, dChain, dAnd, dOr, dNot, dAndV, dOrV, dNotV, dIf, dNil, dCons, dTup, dLst, dCB, d1, dNoPart, dPart, dSl, dCut, dNeg, dSorted, dSum, dAll, dAny, dInt, dAbs, dMax, dMin, dIsi, isT, dNext, dSeq, dBrk, dCont, dNever, dExpr, dRet, dRetN, dIfS, dAsg, dPutI, dI0, dI, dIsN, dNotN, dRng1, dRng2, dRngDn, dZipI, dYes, dCall, dLM, dAppend, dExtend, dReverse, dInsert, dAugI, dRg1, dRg2, dTupRg, dLstRg, dNewK, dNewT, ↓S0_, ↓S1_, ↓S2_, ↓S3_, ↓S4_, ↓S5_, ↓S6_, List.map_cons, List.map_nil, List.length_cons, List.length_nil, List.replicate, List.cons_append, List.nil_append, Nat.reduceAdd, Nat.reduceSub, Nat.zero_add, List.getElem?_cons_zero, List.getElem?_cons_succ, Option.some.injEq, exists_eq_left, exists_eq_left', List.set_cons_zero, List.set_cons_succ, wipeD, D.int.injEq, D.bl.injEq, D.str.injEq, D.ref.injEq, D.tup.injEq, D.ty.injEq, true_and, and_true, forall_const, forall_eq', forall_eq, mt_int, mt_bool, mt_str, mt_tuple, mt_list, mt_dict, st_int_int, st_int_bool, st_int_str, st_int_tuple, st_int_list, st_int_dict, st_bool_int, st_bool_bool, st_bool_str, st_bool_tuple, st_bool_list, st_bool_dict, st_str_int, st_str_bool, st_str_str, st_str_tuple, st_str_list, st_str_dict, st_tuple_int, st_tuple_bool, st_tuple_str, st_tuple_tuple, st_tuple_list, st_tuple_dict, st_list_int, st_list_bool, st_list_str, st_list_tuple, st_list_list, st_list_dict, st_dict_int, st_dict_bool, st_dict_str, st_dict_tuple, st_dict_list, st_dict_dict, eq_self, Bool.true_eq_false, Bool.false_eq_true, false_implies, true_implies, implies_true, decide_eq_true_eq, decide_eq_false_iff_not, Bool.not_true, Bool.not_false, Bool.not_eq_true, Bool.not_eq_false, Bool.not_eq_true', Bool.not_eq_false', not_true_eq_false, not_false_eq_true, false_and, and_false, or_false, false_or, reduceCtorEq, ↓exLSu, ↓exDKu, ↓exDKd, ↓exLSd, ↓exLu, ↓dIxRu, ↓dPutu, ↓dGetAu, ↓dEq_int, ↓dNe_int, ↓dEq_bl, ↓dNe_bl, ↓dEq_str, ↓dNe_str, ↓dAdd_int, ↓exAt10, ↓exIx10, ↓exAt20, ↓exIx20, ↓exAt21, ↓exIx21, ↓exAt30, ↓exIx30, ↓exAt31, ↓exIx31, ↓exAt32, ↓exIx32, ↓exAt40, ↓exIx40, ↓exAt41, ↓exIx41, ↓exAt42, ↓exIx42, ↓exAt43, ↓exIx43, ↓exAt50, ↓exIx50, ↓exAt51, ↓exIx51, ↓exAt52, ↓exIx52, ↓exAt53, ↓exIx53, ↓exAt54, ↓exIx54, ↓exAt60, ↓exIx60, ↓exAt61, ↓exIx61, ↓exAt62, ↓exIx62, ↓exAt63, ↓exIx63, ↓exAt64, ↓exIx64, ↓exAt65, ↓exIx65, up_up, false_or, or_false, ↓exAtM, ↓dFlag_bl, ↓exBl, ↓exInt, ↓exRef, ↓dVar0, ↓dAug0, ↓dSet0, ↓dTgN0, ↓dTgW0, ↓dVar1, ↓dAug1, ↓dSet1, ↓dTgN1, ↓dTgW1, ↓dVar2, ↓dAug2, ↓dSet2, ↓dTgN2, ↓dTgW2, ↓dVar3, ↓dAug3, ↓dSet3, ↓dTgN3, ↓dTgW3, ↓dVar4, ↓dAug4, ↓dSet4, ↓dTgN4, ↓dTgW4, ↓dVar5, ↓dAug5, ↓dSet5, ↓dTgN5, ↓dTgW5, ↓dVar6, ↓dAug6, ↓dSet6, ↓dTgN6, ↓dTgW6, ↓dVar7, ↓dAug7, ↓dSet7, ↓dTgN7, ↓dTgW7, ↓dVar8, ↓dAug8, ↓dSet8, ↓dTgN8, ↓dTgW8, ↓dVar9, ↓dAug9, ↓dSet9, ↓dTgN9, ↓dTgW9, ↓dVar10, ↓dAug10, ↓dSet10, ↓dTgN10, ↓dTgW10, ↓dVar11, ↓dAug11, ↓dSet11, ↓dTgN11, ↓dTgW11, ↓dVar12, ↓dAug12, ↓dSet12, ↓dTgN12, ↓dTgW12, ↓dVar13, ↓dAug13, ↓dSet13, ↓dTgN13, ↓dTgW13, ↓dVar14, ↓dAug14, ↓dSet14, ↓dTgN14, ↓dTgW14, ↓dVar15, ↓dAug15, ↓dSet15, ↓dTgN15, ↓dTgW15, ↓dVar16, ↓dAug16, ↓dSet16, ↓dTgN16, ↓dTgW16, ↓dVar17, ↓dAug17, ↓dSet17, ↓dTgN17, ↓dTgW17, ↓dVar18, ↓dAug18, ↓dSet18, ↓dTgN18, ↓dTgW18, ↓dVar19, ↓dAug19, ↓dSet19, ↓dTgN19, ↓dTgW19, ↓dTg_t2, ↓dTg_t3, ↓exGetM, ↓exSumU, nD, plD, rwD, ↓dAdd_tup, ↓dAdd_ref, dIx_tup, dIx_str, dIx_ref, dIx_kl, dListOf_tup, dListOf_kl, dListOf_ref, dLen_tup, dLen_str, dLen_kl, dLen_ref, dTupOf_tup, dTupOf_ref, dSeqI_x, sqX_tup, sqX_ref, sqX_str, dEnumI_x, enX_tup, enX_ref, dSrtSet, dSortA, dIsi2, isT2, Bool.or_true, Bool.true_or, Bool.or_false, Bool.or_self, dReprR, dReprT, dDGet2]
  refine ⟨e, rfl, ho, ?_⟩
  cases e with
  | put a =>
    simp (config := {failIfUnchanged := false}) only [dC, dOp, dTest, dChain, dAnd, dOr, dNot, dAndV, dOrV, dNotV, dIf, dNil, dCons, dTup, dLst, dCB, d1, dNoPart, dPart, dSl, dCut, dNeg, dSorted, dSum, dAll, dAny, dInt, dAbs, dMax, dMin, dIsi, isT, dNext, dSeq, dBrk, dCont, dNever, dExpr, dRet, dRetN, dIfS, dAsg, dPutI, dI0, dI, dIsN, dNotN, dRng1, dRng2, dRngDn, dZipI, dYes, dCall, dLM, dAppend, dExtend, dReverse, dInsert, dAugI, dRg1, dRg2, dTupRg, dLstRg, dNewK, dNewT, ↓S0_, ↓S1_, ↓S2_, ↓S3_, ↓S4_, ↓S5_, ↓S6_, List.map_cons, List.map_nil, List.length_cons, List.length_nil, List.replicate, List.cons_append, List.nil_append, Nat.reduceAdd, Nat.reduceSub, Nat.zero_add, List.getElem?_cons_zero, List.getElem?_cons_succ, Option.some.injEq, exists_eq_left, exists_eq_left', List.set_cons_zero, List.set_cons_succ, wipeD, D.int.injEq, D.bl.injEq, D.str.injEq, D.ref.injEq, D.tup.injEq, D.ty.injEq, true_and, and_true, forall_const, forall_eq', forall_eq, mt_int, mt_bool, mt_str, mt_tuple, mt_list, mt_dict, st_int_int, st_int_bool, st_int_str, st_int_tuple, st_int_list, st_int_dict, st_bool_int, st_bool_bool, st_bool_str, st_bool_tuple, st_bool_list, st_bool_dict, st_str_int, st_str_bool, st_str_str, st_str_tuple, st_str_list, st_str_dict, st_tuple_int, st_tuple_bool, st_tuple_str, st_tuple_tuple, st_tuple_list, st_tuple_dict, st_list_int, st_list_bool, st_list_str, st_list_tuple, st_list_list, st_list_dict, st_dict_int, st_dict_bool, st_dict_str, st_dict_tuple, st_dict_list, st_dict_dict, eq_self, Bool.true_eq_false, Bool.false_eq_true, false_implies, true_implies, implies_true, decide_eq_true_eq, decide_eq_false_iff_not, Bool.not_true, Bool.not_false, Bool.not_eq_true, Bool.not_eq_false, Bool.not_eq_true', Bool.not_eq_false', not_true_eq_false, not_false_eq_true, false_and, and_false, or_false, false_or, reduceCtorEq, ↓exLSu, ↓exDKu, ↓exDKd, ↓exLSd, ↓exLu, ↓dIxRu, ↓dPutu, ↓dGetAu, ↓dEq_int, ↓dNe_int, ↓dEq_bl, ↓dNe_bl, ↓dEq_str, ↓dNe_str, ↓dAdd_int, ↓exAt10, ↓exIx10, ↓exAt20, ↓exIx20, ↓exAt21, ↓exIx21, ↓exAt30, ↓exIx30, ↓exAt31, ↓exIx31, ↓exAt32, ↓exIx32, ↓exAt40, ↓exIx40, ↓exAt41, ↓exIx41, ↓exAt42, ↓exIx42, ↓exAt43, ↓exIx43, ↓exAt50, ↓exIx50, ↓exAt51, ↓exIx51, ↓exAt52, ↓exIx52, ↓exAt53, ↓exIx53, ↓exAt54, ↓exIx54, ↓exAt60, ↓exIx60, ↓exAt61, ↓exIx61, ↓exAt62, ↓exIx62, ↓exAt63, ↓exIx63, ↓exAt64, ↓exIx64, ↓exAt65, ↓exIx65, up_up, false_or, or_false, ↓exAtM, ↓dFlag_bl, ↓exBl, ↓exInt, ↓exRef, ↓dVar0, ↓dAug0, ↓dSet0, ↓dTgN0, ↓dTgW0, ↓dVar1, ↓dAug1, ↓dSet1, ↓dTgN1, ↓dTgW1, ↓dVar2, ↓dAug2, ↓dSet2, ↓dTgN2, ↓dTgW2, ↓dVar3, ↓dAug3, ↓dSet3, ↓dTgN3, ↓dTgW3, ↓dVar4, ↓dAug4, ↓dSet4, ↓dTgN4, ↓dTgW4, ↓dVar5, ↓dAug5, ↓dSet5, ↓dTgN5, ↓dTgW5, ↓dVar6, ↓dAug6, ↓dSet6, ↓dTgN6, ↓dTgW6, ↓dVar7, ↓dAug7, ↓dSet7, ↓dTgN7, ↓dTgW7, ↓dVar8, ↓dAug8, ↓dSet8, ↓dTgN8, ↓dTgW8, ↓dVar9, ↓dAug9, ↓dSet9, ↓dTgN9, ↓dTgW9, ↓dVar10, ↓dAug10, ↓dSet10, ↓dTgN10, ↓dTgW10, ↓dVar11, ↓dAug11, ↓dSet11, ↓dTgN11, ↓dTgW11, ↓dVar12, ↓dAug12, ↓dSet12, ↓dTgN12, ↓dTgW12, ↓dVar13, ↓dAug13, ↓dSet13, ↓dTgN13, ↓dTgW13, ↓dVar14, ↓dAug14, ↓dSet14, ↓dTgN14, ↓dTgW14, ↓dVar15, ↓dAug15, ↓dSet15, ↓dTgN15, ↓dTgW15, ↓dVar16, ↓dAug16, ↓dSet16, ↓dTgN16, ↓dTgW16, ↓dVar17, ↓dAug17, ↓dSet17, ↓dTgN17, ↓dTgW17, ↓dVar18, ↓dAug18, ↓dSet18, ↓dTgN18, ↓dTgW18, ↓dVar19, ↓dAug19, ↓dSet19, ↓dTgN19, ↓dTgW19, ↓dTg_t2, ↓dTg_t3, ↓exGetM, ↓exSumU, nD, plD, rwD, ↓dAdd_tup, ↓dAdd_ref, dIx_tup, dIx_str, dIx_ref, dIx_kl, dListOf_tup, dListOf_kl, dListOf_ref, dLen_tup, dLen_str, dLen_kl, dLen_ref, dTupOf_tup, dTupOf_ref, dSeqI_x, sqX_tup, sqX_ref, sqX_str, dEnumI_x, enX_tup, enX_ref, dSrtSet, dSortA, dIsi2, isT2, Bool.or_true, Bool.true_or, Bool.or_false, Bool.or_self, dReprR, dReprT, dDGet2, evD, sPP, sPM, sMP, sMM, decide_true]
    exact dn0 h
  | meet a b =>
    simp (config := {failIfUnchanged := false}) only [dC, dOp, dTest, dChain, dAnd, dOr, dNot, dAndV, dOrV, dNotV, dIf, dNil, dCons, dTup, dLst, dCB, d1, dNoPart, dPart, dSl, dCut, dNeg, dSorted, dSum, dAll, dAny, dInt, dAbs, dMax, dMin, dIsi, isT, dNext, dSeq, dBrk, dCont, dNever, dExpr, dRet, dRetN, dIfS, dAsg, dPutI, dI0, dI, dIsN, dNotN, dRng1, dRng2, dRngDn, dZipI, dYes, dCall, dLM, dAppend, dExtend, dReverse, dInsert, dAugI, dRg1, dRg2, dTupRg, dLstRg, dNewK, dNewT, ↓S0_, ↓S1_, ↓S2_, ↓S3_, ↓S4_, ↓S5_, ↓S6_, List.map_cons, List.map_nil, List.length_cons, List.length_nil, List.replicate, List.cons_append, List.nil_append, Nat.reduceAdd, Nat.reduceSub, Nat.zero_add, List.getElem?_cons_zero, List.getElem?_cons_succ, Option.some.injEq, exists_eq_left, exists_eq_left', List.set_cons_zero, List.set_cons_succ, wipeD, D.int.injEq, D.bl.injEq, D.str.injEq, D.ref.injEq, D.tup.injEq, D.ty.injEq, true_and, and_true, forall_const, forall_eq', forall_eq, mt_int, mt_bool, mt_str, mt_tuple, mt_list, mt_dict, st_int_int, st_int_bool, st_int_str, st_int_tuple, st_int_list, st_int_dict, st_bool_int, st_bool_bool, st_bool_str, st_bool_tuple, st_bool_list, st_bool_dict, st_str_int, st_str_bool, st_str_str, st_str_tuple, st_str_list, st_str_dict, st_tuple_int, st_tuple_bool, st_tuple_str, st_tuple_tuple, st_tuple_list, st_tuple_dict, st_list_int, st_list_bool, st_list_str, st_list_tuple, st_list_list, st_list_dict, st_dict_int, st_dict_bool, st_dict_str, st_dict_tuple, st_dict_list, st_dict_dict, eq_self, Bool.true_eq_false, Bool.false_eq_true, false_implies, true_implies, implies_true, decide_eq_true_eq, decide_eq_false_iff_not, Bool.not_true, Bool.not_false, Bool.not_eq_true, Bool.not_eq_false, Bool.not_eq_true', Bool.not_eq_false', not_true_eq_false, not_false_eq_true, false_and, and_false, or_false, false_or, reduceCtorEq, ↓exLSu, ↓exDKu, ↓exDKd, ↓exLSd, ↓exLu, ↓dIxRu, ↓dPutu, ↓dGetAu, ↓dEq_int, ↓dNe_int, ↓dEq_bl, ↓dNe_bl, ↓dEq_str, ↓dNe_str, ↓dAdd_int, ↓exAt10, ↓exIx10, ↓exAt20, ↓exIx20, ↓exAt21, ↓exIx21, ↓exAt30, ↓exIx30, ↓exAt31, ↓exIx31, ↓exAt32, ↓exIx32, ↓exAt40, ↓exIx40, ↓exAt41, ↓exIx41, ↓exAt42, ↓exIx42, ↓exAt43, ↓exIx43, ↓exAt50, ↓exIx50, ↓exAt51, ↓exIx51, ↓exAt52, ↓exIx52, ↓exAt53, ↓exIx53, ↓exAt54, ↓exIx54, ↓exAt60, ↓exIx60, ↓exAt61, ↓exIx61, ↓exAt62, ↓exIx62, ↓exAt63, ↓exIx63, ↓exAt64, ↓exIx64, ↓exAt65, ↓exIx65, up_up, false_or, or_false, ↓exAtM, ↓dFlag_bl, ↓exBl, ↓exInt, ↓exRef, ↓dVar0, ↓dAug0, ↓dSet0, ↓dTgN0, ↓dTgW0, ↓dVar1, ↓dAug1, ↓dSet1, ↓dTgN1, ↓dTgW1, ↓dVar2, ↓dAug2, ↓dSet2, ↓dTgN2, ↓dTgW2, ↓dVar3, ↓dAug3, ↓dSet3, ↓dTgN3, ↓dTgW3, ↓dVar4, ↓dAug4, ↓dSet4, ↓dTgN4, ↓dTgW4, ↓dVar5, ↓dAug5, ↓dSet5, ↓dTgN5, ↓dTgW5, ↓dVar6, ↓dAug6, ↓dSet6, ↓dTgN6, ↓dTgW6, ↓dVar7, ↓dAug7, ↓dSet7, ↓dTgN7, ↓dTgW7, ↓dVar8, ↓dAug8, ↓dSet8, ↓dTgN8, ↓dTgW8, ↓dVar9, ↓dAug9, ↓dSet9, ↓dTgN9, ↓dTgW9, ↓dVar10, ↓dAug10, ↓dSet10, ↓dTgN10, ↓dTgW10, ↓dVar11, ↓dAug11, ↓dSet11, ↓dTgN11, ↓dTgW11, ↓dVar12, ↓dAug12, ↓dSet12, ↓dTgN12, ↓dTgW12, ↓dVar13, ↓dAug13, ↓dSet13, ↓dTgN13, ↓dTgW13, ↓dVar14, ↓dAug14, ↓dSet14, ↓dTgN14, ↓dTgW14, ↓dVar15, ↓dAug15, ↓dSet15, ↓dTgN15, ↓dTgW15, ↓dVar16, ↓dAug16, ↓dSet16, ↓dTgN16, ↓dTgW16, ↓dVar17, ↓dAug17, ↓dSet17, ↓dTgN17, ↓dTgW17, ↓dVar18, ↓dAug18, ↓dSet18, ↓dTgN18, ↓dTgW18, ↓dVar19, ↓dAug19, ↓dSet19, ↓dTgN19, ↓dTgW19, ↓dTg_t2, ↓dTg_t3, ↓exGetM, ↓exSumU, nD, plD, rwD, ↓dAdd_tup, ↓dAdd_ref, dIx_tup, dIx_str, dIx_ref, dIx_kl, dListOf_tup, dListOf_kl, dListOf_ref, dLen_tup, dLen_str, dLen_kl, dLen_ref, dTupOf_tup, dTupOf_ref, dSeqI_x, sqX_tup, sqX_ref, sqX_str, dEnumI_x, enX_tup, enX_ref, dSrtSet, dSortA, dIsi2, isT2, Bool.or_true, Bool.true_or, Bool.or_false, Bool.or_self, dReprR, dReprT, dDGet2, evD, sPP, sPM, sMP, sMM, decide_false]
    exact dn0 h
theorem pr_check_day (G : Gv K mg) : Pr P w K mg base "check_day" 6 ["day"] (S1 fun x M Q => ∃ l, DayO M x l ∧ Q .non M) := by
  refine (pr3 (k := 5) G.d_check_day bi_check_day sc_check_day S1n (fun f cdv A outer s H E hr => (b_cons (s_if (PW3.pt (w_or (t_not (t_val (e_callP (pr_is_listed G) (hr.mono (by decide)) (by rfl) pass0 (a_cons (e_var 0) a_nil)))) (w_or1 (t_cmp od_gt (e_callB cd_len (by rfl) G.b_len rfl (a_cons (e_var 0) a_nil)) (e_gintP G.c_MOST_EVENTS (by rfl)))))) (b_one s_never) b_nil)
      (b_cons (s_if (t_cmp od_gt (e_callB cd_len (by rfl) G.b_len rfl (a_cons (e_lc (own := [("event", 2)]) rfl sc_check_day.nd (i_seq (e_var 0)) (blkOk_by (by rfl)) (fun _ _ _ _ _ => (g_nm 2 sc_check_day.nd)) (fun _ _ _ _ _ => (ts_one (t_val (e_callP (pr_is_put G) (hr.mono (by decide)) (by rfl) pass0 (a_cons (e_var 2) a_nil))))) (fun _ _ _ _ _ => (e_var 2))) a_nil)) (e_gintP G.c_MOST_ITEMS (by rfl))) (b_one s_never) b_nil)
      (b_one (s_for PassesOwn.never rfl (i_enum (by rfl) G.b_enumerate (a_cons (e_var 0) a_nil)) (g_t2 rfl (g_nm 1 sc_check_day.nd) (g_nm 2 sc_check_day.nd))
      (b_one (s_if (t_not (t_val (e_callP (pr_is_event G) (hr.mono (by decide)) (by rfl) pass0 (a_cons (e_var 2) a_nil)))) (b_one s_never) b_nil)))))))) ?_
  rintro _ M Q E ⟨x, rfl, l, hd, h⟩ H rep
  refine ⟨M, rep, fun _ h => h, ?_⟩
  have h60 := hd.len
  have h40 := hd.pt
  simp only [startD, List.map_cons, List.map_nil, List.length_cons, List.length_nil, Nat.reduceAdd, Nat.reduceSub, Nat.zero_add, List.replicate, List.cons_append, List.nil_append]; simp (config := {failIfUnchanged := false}) only [dC, dOp, dTest, dChain, dAnd, dOr, dNot, dAndV, dOrV, dNotV, dIf, dNil, dCons, dTup, dLst, dCB, d1, dNoPart, dPart, dSl, dCut, dNeg, dSorted, dSum, dAll, dAny, dInt, dAbs, dMax, dMin, dIsi, isT, dNext, dSeq, dBrk, dCont, dNever, dExpr, dRet, dRetN, dIfS, dAsg, dPutI, dI0, dI, dIsN, dNotN, dRng1, dRng2, dRngDn, dZipI, dYes, dCall, dLM, dAppend, dExtend, dReverse, dInsert, dAugI, dRg1, dRg2, dTupRg, dLstRg, dNewK, dNewT, ↓S0_, ↓S1_, ↓S2_, ↓S3_, ↓S4_, ↓S5_, ↓S6_, List.map_cons, List.map_nil, List.length_cons, List.length_nil, List.replicate, List.cons_append, List.nil_append, Nat.reduceAdd, Nat.reduceSub, Nat.zero_add, List.getElem?_cons_zero, List.getElem?_cons_succ, Option.some.injEq, exists_eq_left, exists_eq_left', List.set_cons_zero, List.set_cons_succ, wipeD, D.int.injEq, D.bl.injEq, D.str.injEq, D.ref.injEq, D.tup.injEq, D.ty.injEq, true_and, and_true, forall_const, forall_eq', forall_eq, mt_int, mt_bool, mt_str, mt_tuple, mt_list, mt_dict, st_int_int, st_int_bool, st_int_str, st_int_tuple, st_int_list, st_int_dict, st_bool_int, st_bool_bool, st_bool_str, st_bool_tuple, st_bool_list, st_bool_dict, st_str_int, st_str_bool, st_str_str, st_str_tuple, st_str_list, st_str_dict, st_tuple_int, st_tuple_bool, st_tuple_str, st_tuple_tuple, st_tuple_list, st_tuple_dict, st_list_int, st_list_bool, st_list_str, st_list_tuple, st_list_list, st_list_dict, st_dict_int, st_dict_bool, st_dict_str, st_dict_tuple, st_dict_list, st_dict_dict, eq_self, Bool.true_eq_false, Bool.false_eq_true, false_implies, true_implies, implies_true, decide_eq_true_eq, decide_eq_false_iff_not, Bool.not_true, Bool.not_false, Bool.not_eq_true, Bool.not_eq_false, Bool.not_eq_true', Bool.not_eq_false', not_true_eq_false, not_false_eq_true, false_and, and_false, or_false, false_or, reduceCtorEq, ↓exLSu, ↓exDKu, ↓exDKd, ↓exLSd, ↓exLu, ↓dIxRu, ↓dPutu, ↓dGetAu, ↓dEq_int, ↓dNe_int, ↓dEq_bl, ↓dNe_bl, ↓dEq_str, ↓dNe_str, ↓dAdd_int, ↓exAt10, ↓exIx10, ↓exAt20, ↓exIx20, ↓exAt21, ↓exIx21, ↓exAt30, ↓exIx30, ↓exAt31, ↓exIx31, ↓exAt32, ↓exIx32, ↓exAt40, ↓exIx40, ↓exAt41, ↓exIx41, ↓exAt42, ↓exIx42, ↓exAt43, ↓exIx43, ↓exAt50, ↓exIx50, ↓exAt51, ↓exIx51, ↓exAt52, ↓exIx52, ↓exAt53, ↓exIx53, ↓exAt54, ↓exIx54, ↓exAt60, ↓exIx60, ↓exAt61, ↓exIx61, ↓exAt62, ↓exIx62, ↓exAt63, ↓exIx63, ↓exAt64, ↓exIx64, ↓exAt65, ↓exIx65, up_up, false_or, or_false, ↓exAtM, ↓dFlag_bl, ↓exBl, ↓exInt, ↓exRef, ↓dVar0, ↓dAug0, ↓dSet0, ↓dTgN0, ↓dTgW0, ↓dVar1, ↓dAug1, ↓dSet1, ↓dTgN1, ↓dTgW1, ↓dVar2, ↓dAug2, ↓dSet2, ↓dTgN2, ↓dTgW2, ↓dVar3, ↓dAug3, ↓dSet3, ↓dTgN3, ↓dTgW3, ↓dVar4, ↓dAug4, ↓dSet4, ↓dTgN4, ↓dTgW4, ↓dVar5, ↓dAug5, ↓dSet5, ↓dTgN5, ↓dTgW5, ↓dVar6, ↓dAug6, ↓dSet6, ↓dTgN6, ↓dTgW6, ↓dVar7, ↓dAug7, ↓dSet7, ↓dTgN7, ↓dTgW7, ↓dVar8, ↓dAug8, ↓dSet8, ↓dTgN8, ↓dTgW8, ↓dVar9, ↓dAug9, ↓dSet9, ↓dTgN9, ↓dTgW9, ↓dVar10, ↓dAug10, ↓dSet10, ↓dTgN10, ↓dTgW10, ↓dVar11, ↓dAug11, ↓dSet11, ↓dTgN11, ↓dTgW11, ↓dVar12, ↓dAug12, ↓dSet12, ↓dTgN12, ↓dTgW12, ↓dVar13, ↓dAug13, ↓dSet13, ↓dTgN13, ↓dTgW13, ↓dVar14, ↓dAug14, ↓dSet14, ↓dTgN14, ↓dTgW14, ↓dVar15, ↓dAug15, ↓dSet15, ↓dTgN15, ↓dTgW15, ↓dVar16, ↓dAug16, ↓dSet16, ↓dTgN16, ↓dTgW16, ↓dVar17, ↓dAug17, ↓dSet17, ↓dTgN17, ↓dTgW17, ↓dVar18, ↓dAug18, ↓dSet18, ↓dTgN18, ↓dTgW18, ↓dVar19, ↓dAug19, ↓dSet19, ↓dTgN19, ↓dTgW19, ↓dTg_t2, ↓dTg_t3, ↓exGetM, ↓exSumU, nD, plD, rwD, ↓dAdd_tup, ↓dAdd_ref, dIx_tup, dIx_str, dIx_ref, dIx_kl, dListOf_tup, dListOf_kl, dListOf_ref, dLen_tup, dLen_str, dLen_kl, dLen_ref, dTupOf_tup, dTupOf_ref, dSeqI_x, sqX_tup, sqX_ref, sqX_str, dEnumI_x, enX_tup, enX_ref, dSrtSet, dSortA, dIsi2, isT2, Bool.or_true, Bool.true_or, Bool.or_false, Bool.or_self, dReprR, dReprT, dDGet2]
  refine ⟨_, hd.sq, lenOf_of hd.sq ?_⟩
  simp (config := {failIfUnchanged := false}) only [dC, dOp, dTest, dChain, dAnd, dOr, dNot, dAndV, dOrV, dNotV, dIf, dNil, dCons, dTup, dLst, dCB, d1, dNoPart, dPart, dSl, dCut, dNeg, dSorted, dSum, dAll, dAny, dInt, dAbs, dMax, dMin, dIsi, isT, dNext, dSeq, dBrk, dCont, dNever, dExpr, dRet, dRetN, dIfS, dAsg, dPutI, dI0, dI, dIsN, dNotN, dRng1, dRng2, dRngDn, dZipI, dYes, dCall, dLM, dAppend, dExtend, dReverse, dInsert, dAugI, dRg1, dRg2, dTupRg, dLstRg, dNewK, dNewT, ↓S0_, ↓S1_, ↓S2_, ↓S3_, ↓S4_, ↓S5_, ↓S6_, List.map_cons, List.map_nil, List.length_cons, List.length_nil, List.replicate, List.cons_append, List.nil_append, Nat.reduceAdd, Nat.reduceSub, Nat.zero_add, List.getElem?_cons_zero, List.getElem?_cons_succ, Option.some.injEq, exists_eq_left, exists_eq_left', List.set_cons_zero, List.set_cons_succ, wipeD, D.int.injEq, D.bl.injEq, D.str.injEq, D.ref.injEq, D.tup.injEq, D.ty.injEq, true_and, and_true, forall_const, forall_eq', forall_eq, mt_int, mt_bool, mt_str, mt_tuple, mt_list, mt_dict, st_int_int, st_int_bool, st_int_str, st_int_tuple, st_int_list, st_int_dict, st_bool_int, st_bool_bool, st_bool_str, st_bool_tuple, st_bool_list, st_bool_dict, st_str_int, st_str_bool, st_str_str, st_str_tuple, st_str_list, st_str_dict, st_tuple_int, st_tuple_bool, st_tuple_str, st_tuple_tuple, st_tuple_list, st_tuple_dict, st_list_int, st_list_bool, st_list_str, st_list_tuple, st_list_list, st_list_dict, st_dict_int, st_dict_bool, st_dict_str, st_dict_tuple, st_dict_list, st_dict_dict, eq_self, Bool.true_eq_false, Bool.false_eq_true, false_implies, true_implies, implies_true, decide_eq_true_eq, decide_eq_false_iff_not, Bool.not_true, Bool.not_false, Bool.not_eq_true, Bool.not_eq_false, Bool.not_eq_true', Bool.not_eq_false', not_true_eq_false, not_false_eq_true, false_and, and_false, or_false, false_or, reduceCtorEq, ↓exLSu, ↓exDKu, ↓exDKd, ↓exLSd, ↓exLu, ↓dIxRu, ↓dPutu, ↓dGetAu, ↓dEq_int, ↓dNe_int, ↓dEq_bl, ↓dNe_bl, ↓dEq_str, ↓dNe_str, ↓dAdd_int, ↓exAt10, ↓exIx10, ↓exAt20, ↓exIx20, ↓exAt21, ↓exIx21, ↓exAt30, ↓exIx30, ↓exAt31, ↓exIx31, ↓exAt32, ↓exIx32, ↓exAt40, ↓exIx40, ↓exAt41, ↓exIx41, ↓exAt42, ↓exIx42, ↓exAt43, ↓exIx43, ↓exAt50, ↓exIx50, ↓exAt51, ↓exIx51, ↓exAt52, ↓exIx52, ↓exAt53, ↓exIx53, ↓exAt54, ↓exIx54, ↓exAt60, ↓exIx60, ↓exAt61, ↓exIx61, ↓exAt62, ↓exIx62, ↓exAt63, ↓exIx63, ↓exAt64, ↓exIx64, ↓exAt65, ↓exIx65, up_up, false_or, or_false, ↓exAtM, ↓dFlag_bl, ↓exBl, ↓exInt, ↓exRef, ↓dVar0, ↓dAug0, ↓dSet0, ↓dTgN0, ↓dTgW0, ↓dVar1, ↓dAug1, ↓dSet1, ↓dTgN1, ↓dTgW1, ↓dVar2, ↓dAug2, ↓dSet2, ↓dTgN2, ↓dTgW2, ↓dVar3, ↓dAug3, ↓dSet3, ↓dTgN3, ↓dTgW3, ↓dVar4, ↓dAug4, ↓dSet4, ↓dTgN4, ↓dTgW4, ↓dVar5, ↓dAug5, ↓dSet5, ↓dTgN5, ↓dTgW5, ↓dVar6, ↓dAug6, ↓dSet6, ↓dTgN6, ↓dTgW6, ↓dVar7, ↓dAug7, ↓dSet7, ↓dTgN7, ↓dTgW7, ↓dVar8, ↓dAug8, ↓dSet8, ↓dTgN8, ↓dTgW8, ↓dVar9, ↓dAug9, ↓dSet9, ↓dTgN9, ↓dTgW9, ↓dVar10, ↓dAug10, ↓dSet10, ↓dTgN10, ↓dTgW10, ↓dVar11, ↓dAug11, ↓dSet11, ↓dTgN11, ↓dTgW11, ↓dVar12, ↓dAug12, ↓dSet12, ↓dTgN12, ↓dTgW12, ↓dVar13, ↓dAug13, ↓dSet13, ↓dTgN13, ↓dTgW13, ↓dVar14, ↓dAug14, ↓dSet14, ↓dTgN14, ↓dTgW14, ↓dVar15, ↓dAug15, ↓dSet15, ↓dTgN15, ↓dTgW15, ↓dVar16, ↓dAug16, ↓dSet16, ↓dTgN16, ↓dTgW16, ↓dVar17, ↓dAug17, ↓dSet17, ↓dTgN17, ↓dTgW17, ↓dVar18, ↓dAug18, ↓dSet18, ↓dTgN18, ↓dTgW18, ↓dVar19, ↓dAug19, ↓dSet19, ↓dTgN19, ↓dTgW19, ↓dTg_t2, ↓dTg_t3, ↓exGetM, ↓exSumU, nD, plD, rwD, ↓dAdd_tup, ↓dAdd_ref, dIx_tup, dIx_str, dIx_ref, dIx_kl, dListOf_tup, dListOf_kl, dListOf_ref, dLen_tup, dLen_str, dLen_kl, dLen_ref, dTupOf_tup, dTupOf_ref, dSeqI_x, sqX_tup, sqX_ref, sqX_str, dEnumI_x, enX_tup, enX_ref, dSrtSet, dSortA, dIsi2, isT2, Bool.or_true, Bool.true_or, Bool.or_false, Bool.or_self, dReprR, dReprT, dDGet2]
  rw [List.length_map]
  refine ⟨fun z => absurd z (by omega), fun _ => ?_⟩
  refine dLc_g fun F1 T1 U1 h1 t1 u1 => ?_; simp only [dLc, dC, dOp, dTest, dChain, dAnd, dOr, dNot, dAndV, dOrV, dNotV, dIf, dNil, dCons, dTup, dLst, dCB, d1, dNoPart, dPart, dSl, dCut, dNeg, dSorted, dSum, dAll, dAny, dInt, dAbs, dMax, dMin, dIsi, isT, dNext, dSeq, dBrk, dCont, dNever, dExpr, dRet, dRetN, dIfS, dAsg, dPutI, dI0, dI, dIsN, dNotN, dRng1, dRng2, dRngDn, dZipI, dYes, dCall, dLM, dAppend, dExtend, dReverse, dInsert, dAugI, dRg1, dRg2, dTupRg, dLstRg, dNewK, dNewT, ↓S0_, ↓S1_, ↓S2_, ↓S3_, ↓S4_, ↓S5_, ↓S6_, List.map_cons, List.map_nil, List.length_cons, List.length_nil, List.replicate, List.cons_append, List.nil_append, Nat.reduceAdd, Nat.reduceSub, Nat.zero_add, List.getElem?_cons_zero, List.getElem?_cons_succ, Option.some.injEq, exists_eq_left, exists_eq_left', List.set_cons_zero, List.set_cons_succ, wipeD, D.int.injEq, D.bl.injEq, D.str.injEq, D.ref.injEq, D.tup.injEq, D.ty.injEq, true_and, and_true, forall_const, forall_eq', forall_eq, mt_int, mt_bool, mt_str, mt_tuple, mt_list, mt_dict, st_int_int, st_int_bool, st_int_str, st_int_tuple, st_int_list, st_int_dict, st_bool_int, st_bool_bool, st_bool_str, st_bool_tuple, st_bool_list, st_bool_dict, st_str_int, st_str_bool, st_str_str, st_str_tuple, st_str_list, st_str_dict, st_tuple_int, st_tuple_bool, st_tuple_str, st_tuple_tuple, st_tuple_list, st_tuple_dict, st_list_int, st_list_bool, st_list_str, st_list_tuple, st_list_list, st_list_dict, st_dict_int, st_dict_bool, st_dict_str, st_dict_tuple, st_dict_list, st_dict_dict, eq_self, Bool.true_eq_false, Bool.false_eq_true, false_implies, true_implies, implies_true, decide_eq_true_eq, decide_eq_false_iff_not, Bool.not_true, Bool.not_false, Bool.not_eq_true, Bool.not_eq_false, Bool.not_eq_true', Bool.not_eq_false', not_true_eq_false, not_false_eq_true, false_and, and_false, or_false, false_or, reduceCtorEq, ↓exLSu, ↓exDKu, ↓exDKd, ↓exLSd, ↓exLu, ↓dIxRu, ↓dPutu, ↓dGetAu, ↓dEq_int, ↓dNe_int, ↓dEq_bl, ↓dNe_bl, ↓dEq_str, ↓dNe_str, ↓dAdd_int, ↓exAt10, ↓exIx10, ↓exAt20, ↓exIx20, ↓exAt21, ↓exIx21, ↓exAt30, ↓exIx30, ↓exAt31, ↓exIx31, ↓exAt32, ↓exIx32, ↓exAt40, ↓exIx40, ↓exAt41, ↓exIx41, ↓exAt42, ↓exIx42, ↓exAt43, ↓exIx43, ↓exAt50, ↓exIx50, ↓exAt51, ↓exIx51, ↓exAt52, ↓exIx52, ↓exAt53, ↓exIx53, ↓exAt54, ↓exIx54, ↓exAt60, ↓exIx60, ↓exAt61, ↓exIx61, ↓exAt62, ↓exIx62, ↓exAt63, ↓exIx63, ↓exAt64, ↓exIx64, ↓exAt65, ↓exIx65, up_up, false_or, or_false, ↓exAtM, ↓dFlag_bl, ↓exBl, ↓exInt, ↓exRef, ↓dVar0, ↓dAug0, ↓dSet0, ↓dTgN0, ↓dTgW0, ↓dVar1, ↓dAug1, ↓dSet1, ↓dTgN1, ↓dTgW1, ↓dVar2, ↓dAug2, ↓dSet2, ↓dTgN2, ↓dTgW2, ↓dVar3, ↓dAug3, ↓dSet3, ↓dTgN3, ↓dTgW3, ↓dVar4, ↓dAug4, ↓dSet4, ↓dTgN4, ↓dTgW4, ↓dVar5, ↓dAug5, ↓dSet5, ↓dTgN5, ↓dTgW5, ↓dVar6, ↓dAug6, ↓dSet6, ↓dTgN6, ↓dTgW6, ↓dVar7, ↓dAug7, ↓dSet7, ↓dTgN7, ↓dTgW7, ↓dVar8, ↓dAug8, ↓dSet8, ↓dTgN8, ↓dTgW8, ↓dVar9, ↓dAug9, ↓dSet9, ↓dTgN9, ↓dTgW9, ↓dVar10, ↓dAug10, ↓dSet10, ↓dTgN10, ↓dTgW10, ↓dVar11, ↓dAug11, ↓dSet11, ↓dTgN11, ↓dTgW11, ↓dVar12, ↓dAug12, ↓dSet12, ↓dTgN12, ↓dTgW12, ↓dVar13, ↓dAug13, ↓dSet13, ↓dTgN13, ↓dTgW13, ↓dVar14, ↓dAug14, ↓dSet14, ↓dTgN14, ↓dTgW14, ↓dVar15, ↓dAug15, ↓dSet15, ↓dTgN15, ↓dTgW15, ↓dVar16, ↓dAug16, ↓dSet16, ↓dTgN16, ↓dTgW16, ↓dVar17, ↓dAug17, ↓dSet17, ↓dTgN17, ↓dTgW17, ↓dVar18, ↓dAug18, ↓dSet18, ↓dTgN18, ↓dTgW18, ↓dVar19, ↓dAug19, ↓dSet19, ↓dTgN19, ↓dTgW19, ↓dTg_t2, ↓dTg_t3, ↓exGetM, ↓exSumU, nD, plD, rwD, ↓dAdd_tup, ↓dAdd_ref, dIx_tup, dIx_str, dIx_ref, dIx_kl, dListOf_tup, dListOf_kl, dListOf_ref, dLen_tup, dLen_str, dLen_kl, dLen_ref, dTupOf_tup, dTupOf_ref, dSeqI_x, sqX_tup, sqX_ref, sqX_str, dEnumI_x, enX_tup, enX_ref, dSrtSet, dSortA, dIsi2, isT2, Bool.or_true, Bool.true_or, Bool.or_false, Bool.or_self, dReprR, dReprT, dDGet2]
  refine sqX_of hd.sq Sub.refl fun g hg => ⟨by rw [List.length_map]; exact Nat.le_of_lt (small1000 (by omega)), lcF evD evD Ev.isPut l rfl (fun l1 e t pre acc P' e1 y1 y2 => ?_) ⟨hg _ Sub.refl, fun q hq => ?_⟩⟩
  · refine ⟨hg _ Sub.refl, ?_⟩
    subst t1; subst u1
    simp (config := {failIfUnchanged := false}) only [dC, dOp, dTest, dChain, dAnd, dOr, dNot, dAndV, dOrV, dNotV, dIf, dNil, dCons, dTup, dLst, dCB, d1, dNoPart, dPart, dSl, dCut, dNeg, dSorted, dSum, dAll, dAny, dInt, dAbs, dMax, dMin, dIsi, isT, dNext, dSeq, dBrk, dCont, dNever, dExpr, dRet, dRetN, dIfS, dAsg, dPutI, dI0, dI, dIsN, dNotN, dRng1, dRng2, dRngDn, dZipI, dYes, dCall, dLM, dAppend, dExtend, dReverse, dInsert, dAugI, dRg1, dRg2, dTupRg, dLstRg, dNewK, dNewT, ↓S0_, ↓S1_, ↓S2_, ↓S3_, ↓S4_, ↓S5_, ↓S6_, List.map_cons, List.map_nil, List.length_cons, List.length_nil, List.replicate, List.cons_append, List.nil_append, Nat.reduceAdd, Nat.reduceSub, Nat.zero_add, List.getElem?_cons_zero, List.getElem?_cons_succ, Option.some.injEq, exists_eq_left, exists_eq_left', List.set_cons_zero, List.set_cons_succ, wipeD, D.int.injEq, D.bl.injEq, D.str.injEq, D.ref.injEq, D.tup.injEq, D.ty.injEq, true_and, and_true, forall_const, forall_eq', forall_eq, mt_int, mt_bool, mt_str, mt_tuple, mt_list, mt_dict, st_int_int, st_int_bool, st_int_str, st_int_tuple, st_int_list, st_int_dict, st_bool_int, st_bool_bool, st_bool_str, st_bool_tuple, st_bool_list, st_bool_dict, st_str_int, st_str_bool, st_str_str, st_str_tuple, st_str_list, st_str_dict, st_tuple_int, st_tuple_bool, st_tuple_str, st_tuple_tuple, st_tuple_list, st_tuple_dict, st_list_int, st_list_bool, st_list_str, st_list_tuple, st_list_list, st_list_dict, st_dict_int, st_dict_bool, st_dict_str, st_dict_tuple, st_dict_list, st_dict_dict, eq_self, Bool.true_eq_false, Bool.false_eq_true, false_implies, true_implies, implies_true, decide_eq_true_eq, decide_eq_false_iff_not, Bool.not_true, Bool.not_false, Bool.not_eq_true, Bool.not_eq_false, Bool.not_eq_true', Bool.not_eq_false', not_true_eq_false, not_false_eq_true, false_and, and_false, or_false, false_or, reduceCtorEq, ↓exLSu, ↓exDKu, ↓exDKd, ↓exLSd, ↓exLu, ↓dIxRu, ↓dPutu, ↓dGetAu, ↓dEq_int, ↓dNe_int, ↓dEq_bl, ↓dNe_bl, ↓dEq_str, ↓dNe_str, ↓dAdd_int, ↓exAt10, ↓exIx10, ↓exAt20, ↓exIx20, ↓exAt21, ↓exIx21, ↓exAt30, ↓exIx30, ↓exAt31, ↓exIx31, ↓exAt32, ↓exIx32, ↓exAt40, ↓exIx40, ↓exAt41, ↓exIx41, ↓exAt42, ↓exIx42, ↓exAt43, ↓exIx43, ↓exAt50, ↓exIx50, ↓exAt51, ↓exIx51, ↓exAt52, ↓exIx52, ↓exAt53, ↓exIx53, ↓exAt54, ↓exIx54, ↓exAt60, ↓exIx60, ↓exAt61, ↓exIx61, ↓exAt62, ↓exIx62, ↓exAt63, ↓exIx63, ↓exAt64, ↓exIx64, ↓exAt65, ↓exIx65, up_up, false_or, or_false, ↓exAtM, ↓dFlag_bl, ↓exBl, ↓exInt, ↓exRef, ↓dVar0, ↓dAug0, ↓dSet0, ↓dTgN0, ↓dTgW0, ↓dVar1, ↓dAug1, ↓dSet1, ↓dTgN1, ↓dTgW1, ↓dVar2, ↓dAug2, ↓dSet2, ↓dTgN2, ↓dTgW2, ↓dVar3, ↓dAug3, ↓dSet3, ↓dTgN3, ↓dTgW3, ↓dVar4, ↓dAug4, ↓dSet4, ↓dTgN4, ↓dTgW4, ↓dVar5, ↓dAug5, ↓dSet5, ↓dTgN5, ↓dTgW5, ↓dVar6, ↓dAug6, ↓dSet6, ↓dTgN6, ↓dTgW6, ↓dVar7, ↓dAug7, ↓dSet7, ↓dTgN7, ↓dTgW7, ↓dVar8, ↓dAug8, ↓dSet8, ↓dTgN8, ↓dTgW8, ↓dVar9, ↓dAug9, ↓dSet9, ↓dTgN9, ↓dTgW9, ↓dVar10, ↓dAug10, ↓dSet10, ↓dTgN10, ↓dTgW10, ↓dVar11, ↓dAug11, ↓dSet11, ↓dTgN11, ↓dTgW11, ↓dVar12, ↓dAug12, ↓dSet12, ↓dTgN12, ↓dTgW12, ↓dVar13, ↓dAug13, ↓dSet13, ↓dTgN13, ↓dTgW13, ↓dVar14, ↓dAug14, ↓dSet14, ↓dTgN14, ↓dTgW14, ↓dVar15, ↓dAug15, ↓dSet15, ↓dTgN15, ↓dTgW15, ↓dVar16, ↓dAug16, ↓dSet16, ↓dTgN16, ↓dTgW16, ↓dVar17, ↓dAug17, ↓dSet17, ↓dTgN17, ↓dTgW17, ↓dVar18, ↓dAug18, ↓dSet18, ↓dTgN18, ↓dTgW18, ↓dVar19, ↓dAug19, ↓dSet19, ↓dTgN19, ↓dTgW19, ↓dTg_t2, ↓dTg_t3, ↓exGetM, ↓exSumU, nD, plD, rwD, ↓dAdd_tup, ↓dAdd_ref, dIx_tup, dIx_str, dIx_ref, dIx_kl, dListOf_tup, dListOf_kl, dListOf_ref, dLen_tup, dLen_str, dLen_kl, dLen_ref, dTupOf_tup, dTupOf_ref, dSeqI_x, sqX_tup, sqX_ref, sqX_str, dEnumI_x, enX_tup, enX_ref, dSrtSet, dSortA, dIsi2, isT2, Bool.or_true, Bool.true_or, Bool.or_false, Bool.or_self, dReprR, dReprT, dDGet2]
    exact ⟨e, rfl, hd.ok e (by rw [e1]; simp), fun z => sb0 (y1 z), fun z => sb0 (y2 z)⟩
  rw [h1]; clear h1 t1 u1
  have s1 : Sub (up M q (.lst ((l.filter Ev.isPut).map evD))) M := Sub.new hq (by intro _ z; cases z)
  refine lenOf_of (sqL up_same) ?_
  simp (config := {failIfUnchanged := false}) only [dC, dOp, dTest, dChain, dAnd, dOr, dNot, dAndV, dOrV, dNotV, dIf, dNil, dCons, dTup, dLst, dCB, d1, dNoPart, dPart, dSl, dCut, dNeg, dSorted, dSum, dAll, dAny, dInt, dAbs, dMax, dMin, dIsi, isT, dNext, dSeq, dBrk, dCont, dNever, dExpr, dRet, dRetN, dIfS, dAsg, dPutI, dI0, dI, dIsN, dNotN, dRng1, dRng2, dRngDn, dZipI, dYes, dCall, dLM, dAppend, dExtend, dReverse, dInsert, dAugI, dRg1, dRg2, dTupRg, dLstRg, dNewK, dNewT, ↓S0_, ↓S1_, ↓S2_, ↓S3_, ↓S4_, ↓S5_, ↓S6_, List.map_cons, List.map_nil, List.length_cons, List.length_nil, List.replicate, List.cons_append, List.nil_append, Nat.reduceAdd, Nat.reduceSub, Nat.zero_add, List.getElem?_cons_zero, List.getElem?_cons_succ, Option.some.injEq, exists_eq_left, exists_eq_left', List.set_cons_zero, List.set_cons_succ, wipeD, D.int.injEq, D.bl.injEq, D.str.injEq, D.ref.injEq, D.tup.injEq, D.ty.injEq, true_and, and_true, forall_const, forall_eq', forall_eq, mt_int, mt_bool, mt_str, mt_tuple, mt_list, mt_dict, st_int_int, st_int_bool, st_int_str, st_int_tuple, st_int_list, st_int_dict, st_bool_int, st_bool_bool, st_bool_str, st_bool_tuple, st_bool_list, st_bool_dict, st_str_int, st_str_bool, st_str_str, st_str_tuple, st_str_list, st_str_dict, st_tuple_int, st_tuple_bool, st_tuple_str, st_tuple_tuple, st_tuple_list, st_tuple_dict, st_list_int, st_list_bool, st_list_str, st_list_tuple, st_list_list, st_list_dict, st_dict_int, st_dict_bool, st_dict_str, st_dict_tuple, st_dict_list, st_dict_dict, eq_self, Bool.true_eq_false, Bool.false_eq_true, false_implies, true_implies, implies_true, decide_eq_true_eq, decide_eq_false_iff_not, Bool.not_true, Bool.not_false, Bool.not_eq_true, Bool.not_eq_false, Bool.not_eq_true', Bool.not_eq_false', not_true_eq_false, not_false_eq_true, false_and, and_false, or_false, false_or, reduceCtorEq, ↓exLSu, ↓exDKu, ↓exDKd, ↓exLSd, ↓exLu, ↓dIxRu, ↓dPutu, ↓dGetAu, ↓dEq_int, ↓dNe_int, ↓dEq_bl, ↓dNe_bl, ↓dEq_str, ↓dNe_str, ↓dAdd_int, ↓exAt10, ↓exIx10, ↓exAt20, ↓exIx20, ↓exAt21, ↓exIx21, ↓exAt30, ↓exIx30, ↓exAt31, ↓exIx31, ↓exAt32, ↓exIx32, ↓exAt40, ↓exIx40, ↓exAt41, ↓exIx41, ↓exAt42, ↓exIx42, ↓exAt43, ↓exIx43, ↓exAt50, ↓exIx50, ↓exAt51, ↓exIx51, ↓exAt52, ↓exIx52, ↓exAt53, ↓exIx53, ↓exAt54, ↓exIx54, ↓exAt60, ↓exIx60, ↓exAt61, ↓exIx61, ↓exAt62, ↓exIx62, ↓exAt63, ↓exIx63, ↓exAt64, ↓exIx64, ↓exAt65, ↓exIx65, up_up, false_or, or_false, ↓exAtM, ↓dFlag_bl, ↓exBl, ↓exInt, ↓exRef, ↓dVar0, ↓dAug0, ↓dSet0, ↓dTgN0, ↓dTgW0, ↓dVar1, ↓dAug1, ↓dSet1, ↓dTgN1, ↓dTgW1, ↓dVar2, ↓dAug2, ↓dSet2, ↓dTgN2, ↓dTgW2, ↓dVar3, ↓dAug3, ↓dSet3, ↓dTgN3, ↓dTgW3, ↓dVar4, ↓dAug4, ↓dSet4, ↓dTgN4, ↓dTgW4, ↓dVar5, ↓dAug5, ↓dSet5, ↓dTgN5, ↓dTgW5, ↓dVar6, ↓dAug6, ↓dSet6, ↓dTgN6, ↓dTgW6, ↓dVar7, ↓dAug7, ↓dSet7, ↓dTgN7, ↓dTgW7, ↓dVar8, ↓dAug8, ↓dSet8, ↓dTgN8, ↓dTgW8, ↓dVar9, ↓dAug9, ↓dSet9, ↓dTgN9, ↓dTgW9, ↓dVar10, ↓dAug10, ↓dSet10, ↓dTgN10, ↓dTgW10, ↓dVar11, ↓dAug11, ↓dSet11, ↓dTgN11, ↓dTgW11, ↓dVar12, ↓dAug12, ↓dSet12, ↓dTgN12, ↓dTgW12, ↓dVar13, ↓dAug13, ↓dSet13, ↓dTgN13, ↓dTgW13, ↓dVar14, ↓dAug14, ↓dSet14, ↓dTgN14, ↓dTgW14, ↓dVar15, ↓dAug15, ↓dSet15, ↓dTgN15, ↓dTgW15, ↓dVar16, ↓dAug16, ↓dSet16, ↓dTgN16, ↓dTgW16, ↓dVar17, ↓dAug17, ↓dSet17, ↓dTgN17, ↓dTgW17, ↓dVar18, ↓dAug18, ↓dSet18, ↓dTgN18, ↓dTgW18, ↓dVar19, ↓dAug19, ↓dSet19, ↓dTgN19, ↓dTgW19, ↓dTg_t2, ↓dTg_t3, ↓exGetM, ↓exSumU, nD, plD, rwD, ↓dAdd_tup, ↓dAdd_ref, dIx_tup, dIx_str, dIx_ref, dIx_kl, dListOf_tup, dListOf_kl, dListOf_ref, dLen_tup, dLen_str, dLen_kl, dLen_ref, dTupOf_tup, dTupOf_ref, dSeqI_x, sqX_tup, sqX_ref, sqX_str, dEnumI_x, enX_tup, enX_ref, dSrtSet, dSortA, dIsi2, isT2, Bool.or_true, Bool.true_or, Bool.or_false, Bool.or_self, dReprR, dReprT, dDGet2]
  rw [List.length_map]
  have h40 : (l.filter Ev.isPut).length ≤ 40 := h40
  refine ⟨fun z => absurd z (by omega), fun _ => ?_⟩
  refine dFor_g fun F2 T2 h2 t2 => ?_; simp only [dFor, dC, dOp, dTest, dChain, dAnd, dOr, dNot, dAndV, dOrV, dNotV, dIf, dNil, dCons, dTup, dLst, dCB, d1, dNoPart, dPart, dSl, dCut, dNeg, dSorted, dSum, dAll, dAny, dInt, dAbs, dMax, dMin, dIsi, isT, dNext, dSeq, dBrk, dCont, dNever, dExpr, dRet, dRetN, dIfS, dAsg, dPutI, dI0, dI, dIsN, dNotN, dRng1, dRng2, dRngDn, dZipI, dYes, dCall, dLM, dAppend, dExtend, dReverse, dInsert, dAugI, dRg1, dRg2, dTupRg, dLstRg, dNewK, dNewT, ↓S0_, ↓S1_, ↓S2_, ↓S3_, ↓S4_, ↓S5_, ↓S6_, List.map_cons, List.map_nil, List.length_cons, List.length_nil, List.replicate, List.cons_append, List.nil_append, Nat.reduceAdd, Nat.reduceSub, Nat.zero_add, List.getElem?_cons_zero, List.getElem?_cons_succ, Option.some.injEq, exists_eq_left, exists_eq_left', List.set_cons_zero, List.set_cons_succ, wipeD, D.int.injEq, D.bl.injEq, D.str.injEq, D.ref.injEq, D.tup.injEq, D.ty.injEq, true_and, and_true, forall_const, forall_eq', forall_eq, mt_int, mt_bool, mt_str, mt_tuple, mt_list, mt_dict, st_int_int, st_int_bool, st_int_str, st_int_tuple, st_int_list, st_int_dict, st_bool_int, st_bool_bool, st_bool_str, st_bool_tuple, st_bool_list, st_bool_dict, st_str_int, st_str_bool, st_str_str, st_str_tuple, st_str_list, st_str_dict, st_tuple_int, st_tuple_bool, st_tuple_str, st_tuple_tuple, st_tuple_list, st_tuple_dict, st_list_int, st_list_bool, st_list_str, st_list_tuple, st_list_list, st_list_dict, st_dict_int, st_dict_bool, st_dict_str, st_dict_tuple, st_dict_list, st_dict_dict, eq_self, Bool.true_eq_false, Bool.false_eq_true, false_implies, true_implies, implies_true, decide_eq_true_eq, decide_eq_false_iff_not, Bool.not_true, Bool.not_false, Bool.not_eq_true, Bool.not_eq_false, Bool.not_eq_true', Bool.not_eq_false', not_true_eq_false, not_false_eq_true, false_and, and_false, or_false, false_or, reduceCtorEq, ↓exLSu, ↓exDKu, ↓exDKd, ↓exLSd, ↓exLu, ↓dIxRu, ↓dPutu, ↓dGetAu, ↓dEq_int, ↓dNe_int, ↓dEq_bl, ↓dNe_bl, ↓dEq_str, ↓dNe_str, ↓dAdd_int, ↓exAt10, ↓exIx10, ↓exAt20, ↓exIx20, ↓exAt21, ↓exIx21, ↓exAt30, ↓exIx30, ↓exAt31, ↓exIx31, ↓exAt32, ↓exIx32, ↓exAt40, ↓exIx40, ↓exAt41, ↓exIx41, ↓exAt42, ↓exIx42, ↓exAt43, ↓exIx43, ↓exAt50, ↓exIx50, ↓exAt51, ↓exIx51, ↓exAt52, ↓exIx52, ↓exAt53, ↓exIx53, ↓exAt54, ↓exIx54, ↓exAt60, ↓exIx60, ↓exAt61, ↓exIx61, ↓exAt62, ↓exIx62, ↓exAt63, ↓exIx63, ↓exAt64, ↓exIx64, ↓exAt65, ↓exIx65, up_up, false_or, or_false, ↓exAtM, ↓dFlag_bl, ↓exBl, ↓exInt, ↓exRef, ↓dVar0, ↓dAug0, ↓dSet0, ↓dTgN0, ↓dTgW0, ↓dVar1, ↓dAug1, ↓dSet1, ↓dTgN1, ↓dTgW1, ↓dVar2, ↓dAug2, ↓dSet2, ↓dTgN2, ↓dTgW2, ↓dVar3, ↓dAug3, ↓dSet3, ↓dTgN3, ↓dTgW3, ↓dVar4, ↓dAug4, ↓dSet4, ↓dTgN4, ↓dTgW4, ↓dVar5, ↓dAug5, ↓dSet5, ↓dTgN5, ↓dTgW5, ↓dVar6, ↓dAug6, ↓dSet6, ↓dTgN6, ↓dTgW6, ↓dVar7, ↓dAug7, ↓dSet7, ↓dTgN7, ↓dTgW7, ↓dVar8, ↓dAug8, ↓dSet8, ↓dTgN8, ↓dTgW8, ↓dVar9, ↓dAug9, ↓dSet9, ↓dTgN9, ↓dTgW9, ↓dVar10, ↓dAug10, ↓dSet10, ↓dTgN10, ↓dTgW10, ↓dVar11, ↓dAug11, ↓dSet11, ↓dTgN11, ↓dTgW11, ↓dVar12, ↓dAug12, ↓dSet12, ↓dTgN12, ↓dTgW12, ↓dVar13, ↓dAug13, ↓dSet13, ↓dTgN13, ↓dTgW13, ↓dVar14, ↓dAug14, ↓dSet14, ↓dTgN14, ↓dTgW14, ↓dVar15, ↓dAug15, ↓dSet15, ↓dTgN15, ↓dTgW15, ↓dVar16, ↓dAug16, ↓dSet16, ↓dTgN16, ↓dTgW16, ↓dVar17, ↓dAug17, ↓dSet17, ↓dTgN17, ↓dTgW17, ↓dVar18, ↓dAug18, ↓dSet18, ↓dTgN18, ↓dTgW18, ↓dVar19, ↓dAug19, ↓dSet19, ↓dTgN19, ↓dTgW19, ↓dTg_t2, ↓dTg_t3, ↓exGetM, ↓exSumU, nD, plD, rwD, ↓dAdd_tup, ↓dAdd_ref, dIx_tup, dIx_str, dIx_ref, dIx_kl, dListOf_tup, dListOf_kl, dListOf_ref, dLen_tup, dLen_str, dLen_kl, dLen_ref, dTupOf_tup, dTupOf_ref, dSeqI_x, sqX_tup, sqX_ref, sqX_str, dEnumI_x, enX_tup, enX_ref, dSrtSet, dSortA, dIsi2, isT2, Bool.or_true, Bool.true_or, Bool.or_false, Bool.or_self, dReprR, dReprT, dDGet2]
  refine enX_of hd.sq s1 fun g hg => ?_
  refine forN (fun i δ M' => Sub M' M ∧ ∃ a b, δ = [some x, a, b]) ⟨s1, _, _, rfl⟩ ?_ ?_
  · rintro i z δ' M' pre P' hz ⟨s2, a, b, rfl⟩ hP
    obtain ⟨y, hy, rfl⟩ := enumD_get hz
    rw [List.getElem?_map] at hy
    obtain ⟨e, he, rfl⟩ := Option.map_eq_some_iff.mp hy
    refine ⟨hg _ s2, ?_⟩
    subst t2
    simp (config := {failIfUnchanged := false}) only [dC, dOp, dTest, dChain, dAnd, dOr, dNot, dAndV, dOrV, dNotV, dIf, dNil, dCons, dTup, dLst, dCB, d1, dNoPart, dPart, dSl, dCut, dNeg, dSorted, dSum, dAll, dAny, dInt, dAbs, dMax, dMin, dIsi, isT, dNext, dSeq, dBrk, dCont, dNever, dExpr, dRet, dRetN, dIfS, dAsg, dPutI, dI0, dI, dIsN, dNotN, dRng1, dRng2, dRngDn, dZipI, dYes, dCall, dLM, dAppend, dExtend, dReverse, dInsert, dAugI, dRg1, dRg2, dTupRg, dLstRg, dNewK, dNewT, ↓S0_, ↓S1_, ↓S2_, ↓S3_, ↓S4_, ↓S5_, ↓S6_, List.map_cons, List.map_nil, List.length_cons, List.length_nil, List.replicate, List.cons_append, List.nil_append, Nat.reduceAdd, Nat.reduceSub, Nat.zero_add, List.getElem?_cons_zero, List.getElem?_cons_succ, Option.some.injEq, exists_eq_left, exists_eq_left', List.set_cons_zero, List.set_cons_succ, wipeD, D.int.injEq, D.bl.injEq, D.str.injEq, D.ref.injEq, D.tup.injEq, D.ty.injEq, true_and, and_true, forall_const, forall_eq', forall_eq, mt_int, mt_bool, mt_str, mt_tuple, mt_list, mt_dict, st_int_int, st_int_bool, st_int_str, st_int_tuple, st_int_list, st_int_dict, st_bool_int, st_bool_bool, st_bool_str, st_bool_tuple, st_bool_list, st_bool_dict, st_str_int, st_str_bool, st_str_str, st_str_tuple, st_str_list, st_str_dict, st_tuple_int, st_tuple_bool, st_tuple_str, st_tuple_tuple, st_tuple_list, st_tuple_dict, st_list_int, st_list_bool, st_list_str, st_list_tuple, st_list_list, st_list_dict, st_dict_int, st_dict_bool, st_dict_str, st_dict_tuple, st_dict_list, st_dict_dict, eq_self, Bool.true_eq_false, Bool.false_eq_true, false_implies, true_implies, implies_true, decide_eq_true_eq, decide_eq_false_iff_not, Bool.not_true, Bool.not_false, Bool.not_eq_true, Bool.not_eq_false, Bool.not_eq_true', Bool.not_eq_false', not_true_eq_false, not_false_eq_true, false_and, and_false, or_false, false_or, reduceCtorEq, ↓exLSu, ↓exDKu, ↓exDKd, ↓exLSd, ↓exLu, ↓dIxRu, ↓dPutu, ↓dGetAu, ↓dEq_int, ↓dNe_int, ↓dEq_bl, ↓dNe_bl, ↓dEq_str, ↓dNe_str, ↓dAdd_int, ↓exAt10, ↓exIx10, ↓exAt20, ↓exIx20, ↓exAt21, ↓exIx21, ↓exAt30, ↓exIx30, ↓exAt31, ↓exIx31, ↓exAt32, ↓exIx32, ↓exAt40, ↓exIx40, ↓exAt41, ↓exIx41, ↓exAt42, ↓exIx42, ↓exAt43, ↓exIx43, ↓exAt50, ↓exIx50, ↓exAt51, ↓exIx51, ↓exAt52, ↓exIx52, ↓exAt53, ↓exIx53, ↓exAt54, ↓exIx54, ↓exAt60, ↓exIx60, ↓exAt61, ↓exIx61, ↓exAt62, ↓exIx62, ↓exAt63, ↓exIx63, ↓exAt64, ↓exIx64, ↓exAt65, ↓exIx65, up_up, false_or, or_false, ↓exAtM, ↓dFlag_bl, ↓exBl, ↓exInt, ↓exRef, ↓dVar0, ↓dAug0, ↓dSet0, ↓dTgN0, ↓dTgW0, ↓dVar1, ↓dAug1, ↓dSet1, ↓dTgN1, ↓dTgW1, ↓dVar2, ↓dAug2, ↓dSet2, ↓dTgN2, ↓dTgW2, ↓dVar3, ↓dAug3, ↓dSet3, ↓dTgN3, ↓dTgW3, ↓dVar4, ↓dAug4, ↓dSet4, ↓dTgN4, ↓dTgW4, ↓dVar5, ↓dAug5, ↓dSet5, ↓dTgN5, ↓dTgW5, ↓dVar6, ↓dAug6, ↓dSet6, ↓dTgN6, ↓dTgW6, ↓dVar7, ↓dAug7, ↓dSet7, ↓dTgN7, ↓dTgW7, ↓dVar8, ↓dAug8, ↓dSet8, ↓dTgN8, ↓dTgW8, ↓dVar9, ↓dAug9, ↓dSet9, ↓dTgN9, ↓dTgW9, ↓dVar10, ↓dAug10, ↓dSet10, ↓dTgN10, ↓dTgW10, ↓dVar11, ↓dAug11, ↓dSet11, ↓dTgN11, ↓dTgW11, ↓dVar12, ↓dAug12, ↓dSet12, ↓dTgN12, ↓dTgW12, ↓dVar13, ↓dAug13, ↓dSet13, ↓dTgN13, ↓dTgW13, ↓dVar14, ↓dAug14, ↓dSet14, ↓dTgN14, ↓dTgW14, ↓dVar15, ↓dAug15, ↓dSet15, ↓dTgN15, ↓dTgW15, ↓dVar16, ↓dAug16, ↓dSet16, ↓dTgN16, ↓dTgW16, ↓dVar17, ↓dAug17, ↓dSet17, ↓dTgN17, ↓dTgW17, ↓dVar18, ↓dAug18, ↓dSet18, ↓dTgN18, ↓dTgW18, ↓dVar19, ↓dAug19, ↓dSet19, ↓dTgN19, ↓dTgW19, ↓dTg_t2, ↓dTg_t3, ↓exGetM, ↓exSumU, nD, plD, rwD, ↓dAdd_tup, ↓dAdd_ref, dIx_tup, dIx_str, dIx_ref, dIx_kl, dListOf_tup, dListOf_kl, dListOf_ref, dLen_tup, dLen_str, dLen_kl, dLen_ref, dTupOf_tup, dTupOf_ref, dSeqI_x, sqX_tup, sqX_ref, sqX_str, dEnumI_x, enX_tup, enX_ref, dSrtSet, dSortA, dIsi2, isT2, Bool.or_true, Bool.true_or, Bool.or_false, Bool.or_self, dReprR, dReprT, dDGet2]
    exact ⟨e, rfl, hd.ok e (List.mem_of_getElem? he), sb0 (hP _ _ ⟨s2, _, _, rfl⟩)⟩
  · rintro δ' M' ⟨s2, a, b, rfl⟩
    refine ⟨hg _ s2, ?_⟩
    rw [h2]
    simp (config := {failIfUnchanged := false}) only [dC, dOp, dTest, dChain, dAnd, dOr, dNot, dAndV, dOrV, dNotV, dIf, dNil, dCons, dTup, dLst, dCB, d1, dNoPart, dPart, dSl, dCut, dNeg, dSorted, dSum, dAll, dAny, dInt, dAbs, dMax, dMin, dIsi, isT, dNext, dSeq, dBrk, dCont, dNever, dExpr, dRet, dRetN, dIfS, dAsg, dPutI, dI0, dI, dIsN, dNotN, dRng1, dRng2, dRngDn, dZipI, dYes, dCall, dLM, dAppend, dExtend, dReverse, dInsert, dAugI, dRg1, dRg2, dTupRg, dLstRg, dNewK, dNewT, ↓S0_, ↓S1_, ↓S2_, ↓S3_, ↓S4_, ↓S5_, ↓S6_, List.map_cons, List.map_nil, List.length_cons, List.length_nil, List.replicate, List.cons_append, List.nil_append, Nat.reduceAdd, Nat.reduceSub, Nat.zero_add, List.getElem?_cons_zero, List.getElem?_cons_succ, Option.some.injEq, exists_eq_left, exists_eq_left', List.set_cons_zero, List.set_cons_succ, wipeD, D.int.injEq, D.bl.injEq, D.str.injEq, D.ref.injEq, D.tup.injEq, D.ty.injEq, true_and, and_true, forall_const, forall_eq', forall_eq, mt_int, mt_bool, mt_str, mt_tuple, mt_list, mt_dict, st_int_int, st_int_bool, st_int_str, st_int_tuple, st_int_list, st_int_dict, st_bool_int, st_bool_bool, st_bool_str, st_bool_tuple, st_bool_list, st_bool_dict, st_str_int, st_str_bool, st_str_str, st_str_tuple, st_str_list, st_str_dict, st_tuple_int, st_tuple_bool, st_tuple_str, st_tuple_tuple, st_tuple_list, st_tuple_dict, st_list_int, st_list_bool, st_list_str, st_list_tuple, st_list_list, st_list_dict, st_dict_int, st_dict_bool, st_dict_str, st_dict_tuple, st_dict_list, st_dict_dict, eq_self, Bool.true_eq_false, Bool.false_eq_true, false_implies, true_implies, implies_true, decide_eq_true_eq, decide_eq_false_iff_not, Bool.not_true, Bool.not_false, Bool.not_eq_true, Bool.not_eq_false, Bool.not_eq_true', Bool.not_eq_false', not_true_eq_false, not_false_eq_true, false_and, and_false, or_false, false_or, reduceCtorEq, ↓exLSu, ↓exDKu, ↓exDKd, ↓exLSd, ↓exLu, ↓dIxRu, ↓dPutu, ↓dGetAu, ↓dEq_int, ↓dNe_int, ↓dEq_bl, ↓dNe_bl, ↓dEq_str, ↓dNe_str, ↓dAdd_int, ↓exAt10, ↓exIx10, ↓exAt20, ↓exIx20, ↓exAt21, ↓exIx21, ↓exAt30, ↓exIx30, ↓exAt31, ↓exIx31, ↓exAt32, ↓exIx32, ↓exAt40, ↓exIx40, ↓exAt41, ↓exIx41, ↓exAt42, ↓exIx42, ↓exAt43, ↓exIx43, ↓exAt50, ↓exIx50, ↓exAt51, ↓exIx51, ↓exAt52, ↓exIx52, ↓exAt53, ↓exIx53, ↓exAt54, ↓exIx54, ↓exAt60, ↓exIx60, ↓exAt61, ↓exIx61, ↓exAt62, ↓exIx62, ↓exAt63, ↓exIx63, ↓exAt64, ↓exIx64, ↓exAt65, ↓exIx65, up_up, false_or, or_false, ↓exAtM, ↓dFlag_bl, ↓exBl, ↓exInt, ↓exRef, ↓dVar0, ↓dAug0, ↓dSet0, ↓dTgN0, ↓dTgW0, ↓dVar1, ↓dAug1, ↓dSet1, ↓dTgN1, ↓dTgW1, ↓dVar2, ↓dAug2, ↓dSet2, ↓dTgN2, ↓dTgW2, ↓dVar3, ↓dAug3, ↓dSet3, ↓dTgN3, ↓dTgW3, ↓dVar4, ↓dAug4, ↓dSet4, ↓dTgN4, ↓dTgW4, ↓dVar5, ↓dAug5, ↓dSet5, ↓dTgN5, ↓dTgW5, ↓dVar6, ↓dAug6, ↓dSet6, ↓dTgN6, ↓dTgW6, ↓dVar7, ↓dAug7, ↓dSet7, ↓dTgN7, ↓dTgW7, ↓dVar8, ↓dAug8, ↓dSet8, ↓dTgN8, ↓dTgW8, ↓dVar9, ↓dAug9, ↓dSet9, ↓dTgN9, ↓dTgW9, ↓dVar10, ↓dAug10, ↓dSet10, ↓dTgN10, ↓dTgW10, ↓dVar11, ↓dAug11, ↓dSet11, ↓dTgN11, ↓dTgW11, ↓dVar12, ↓dAug12, ↓dSet12, ↓dTgN12, ↓dTgW12, ↓dVar13, ↓dAug13, ↓dSet13, ↓dTgN13, ↓dTgW13, ↓dVar14, ↓dAug14, ↓dSet14, ↓dTgN14, ↓dTgW14, ↓dVar15, ↓dAug15, ↓dSet15, ↓dTgN15, ↓dTgW15, ↓dVar16, ↓dAug16, ↓dSet16, ↓dTgN16, ↓dTgW16, ↓dVar17, ↓dAug17, ↓dSet17, ↓dTgN17, ↓dTgW17, ↓dVar18, ↓dAug18, ↓dSet18, ↓dTgN18, ↓dTgW18, ↓dVar19, ↓dAug19, ↓dSet19, ↓dTgN19, ↓dTgW19, ↓dTg_t2, ↓dTg_t3, ↓exGetM, ↓exSumU, nD, plD, rwD, ↓dAdd_tup, ↓dAdd_ref, dIx_tup, dIx_str, dIx_ref, dIx_kl, dListOf_tup, dListOf_kl, dListOf_ref, dLen_tup, dLen_str, dLen_kl, dLen_ref, dTupOf_tup, dTupOf_ref, dSeqI_x, sqX_tup, sqX_ref, sqX_str, dEnumI_x, enX_tup, enX_ref, dSrtSet, dSortA, dIsi2, isT2, Bool.or_true, Bool.true_or, Bool.or_false, Bool.or_self, dReprR, dReprT, dDGet2]
    exact s2.dn h
end
theorem put_len1 {κ : Type} [DecidableEq κ] (l : List (κ × D)) (k : κ) (v : D) : (putKD l k v).length ≤ l.length + 1 := by
  unfold putKD
  split
  · rw [List.length_map]; omega
  · rw [List.length_append]; exact Nat.le_refl _
/-- what each hand knows, in a dict -/
def HK (kvs : List (Key × D)) (k : Nat → List Nat) : Prop := ∀ h : Nat, (valD kvs (.inl (h : Int) : Key)).getD (.tup []) = rwD (k h)
theorem HK.put {kvs : List (Key × D)} {k : Nat → List Nat} (h : HK kvs k) (a : Nat) (v : List Nat) : HK (putKD kvs (.inl (a : Int)) (rwD v)) (kn k a v) := fun x => by
  rw [valD_put]
  unfold kn
  by_cases e : x = a
  · subst e; rw [if_pos rfl, if_pos rfl]; rfl
  · rw [if_neg (by intro z; injection z with z; omega), if_neg e]
    exact h x
section
variable {P : Program} {w : World} {K : PySem.W.Frag} {mg : Str → Option Value} {base : Heap}
theorem pr_plan_of_day (G : Gv K mg) : Pr P w K mg base "plan_of_day" 1 ["day"] (S1 fun x M Q => ∃ l, DayO M x l ∧ Q (plD (plO l)) M) := by
  refine (pr3 (k := 0) G.d_plan_of_day bi_plan_of_day sc_plan_of_day S1n (fun f cdv A outer s H E hr => (b_cons (s_set 1 sc_plan_of_day.nd e_newK)
      (b_cons (s_set 2 sc_plan_of_day.nd (e_lst a_nil))
      (b_cons (s_for PassesOwn.never rfl (i_seq (e_var 0)) (g_nm 3 sc_plan_of_day.nd)
      (b_one (s_if (t_cmp (od_eq (hu3 hr)) (e_ix (ixd (hu_of hr)) (e_var 3) e_int) e_str) (b_cons (s_set 4 sc_plan_of_day.nd (e_dget2 (hu_of hr) (e_var 1) (e_ix (ixd (hu_of hr)) (e_var 3) e_int) (e_tup a_nil)))
      (b_cons (s_put (put3 (hu_of hr)) (e_var 1) (e_ix (ixd (hu_of hr)) (e_var 3) e_int) (e_op od_add (e_var 4) (e_tup (a_cons (e_callB cd_len (by rfl) G.b_len rfl (a_cons (e_var 2) a_nil)) a_nil))))
      (b_one (s_expr (e_lm PySem.F.slot_list_append PySem.F.type_list_append m_append (e_var 2) (a_cons (e_var 4) a_nil)))))) (b_cons (s_set 5 sc_plan_of_day.nd e_newK)
      (b_cons (s_for PassesOwn.never rfl (i_seq (e_op od_add (e_dget2 (hu_of hr) (e_var 1) (e_ix (ixd (hu_of hr)) (e_var 3) e_int) (e_tup a_nil)) (e_dget2 (hu_of hr) (e_var 1) (e_ix (ixd (hu_of hr)) (e_var 3) e_int) (e_tup a_nil)))) (g_nm 6 sc_plan_of_day.nd)
      (b_one (s_put (put3 (hu_of hr)) (e_var 5) (e_var 6) e_bl)))
      (b_cons (s_put (put3 (hu_of hr)) (e_var 1) (e_ix (ixd (hu_of hr)) (e_var 3) e_int) (e_callTy cd_tuple (by rfl) G.b_tuple rfl (a_cons (e_callB cd_sorted (by rfl) G.b_sorted rfl (a_cons (e_callTy (cd_list rfl) (by rfl) G.b_list rfl (a_cons (e_var 5) a_nil)) a_nil)) a_nil)))
      (b_one (s_put (put3 (hu_of hr)) (e_var 1) (e_ix (ixd (hu_of hr)) (e_var 3) e_int) (e_ix (ixd (hu_of hr)) (e_var 1) (e_ix (ixd (hu_of hr)) (e_var 3) e_int))))))))))
      (b_one (s_ret (e_callTy cd_tuple (by rfl) G.b_tuple rfl (a_cons (e_var 2) a_nil))))))))) ?_
  rintro _ M Q E ⟨x, rfl, l, hd, h⟩ H rep
  refine ⟨M, rep, fun _ h => h, ?_⟩
  have h60 := hd.len
  have h40 := hd.pt
  simp only [startD, List.map_cons, List.map_nil, List.length_cons, List.length_nil, Nat.reduceAdd, Nat.reduceSub, Nat.zero_add, List.replicate, List.cons_append, List.nil_append]; simp (config := {failIfUnchanged := false}) only [dC, dOp, dTest, dChain, dAnd, dOr, dNot, dAndV, dOrV, dNotV, dIf, dNil, dCons, dTup, dLst, dCB, d1, dNoPart, dPart, dSl, dCut, dNeg, dSorted, dSum, dAll, dAny, dInt, dAbs, dMax, dMin, dIsi, isT, dNext, dSeq, dBrk, dCont, dNever, dExpr, dRet, dRetN, dIfS, dAsg, dPutI, dI0, dI, dIsN, dNotN, dRng1, dRng2, dRngDn, dZipI, dYes, dCall, dLM, dAppend, dExtend, dReverse, dInsert, dAugI, dRg1, dRg2, dTupRg, dLstRg, dNewK, dNewT, ↓S0_, ↓S1_, ↓S2_, ↓S3_, ↓S4_, ↓S5_, ↓S6_, List.map_cons, List.map_nil, List.length_cons, List.length_nil, List.replicate, List.cons_append, List.nil_append, Nat.reduceAdd, Nat.reduceSub, Nat.zero_add, List.getElem?_cons_zero, List.getElem?_cons_succ, Option.some.injEq, exists_eq_left, exists_eq_left', List.set_cons_zero, List.set_cons_succ, wipeD, D.int.injEq, D.bl.injEq, D.str.injEq, D.ref.injEq, D.tup.injEq, D.ty.injEq, true_and, and_true, forall_const, forall_eq', forall_eq, mt_int, mt_bool, mt_str, mt_tuple, mt_list, mt_dict, st_int_int, st_int_bool, st_int_str, st_int_tuple, st_int_list, st_int_dict, st_bool_int, st_bool_bool, st_bool_str, st_bool_tuple, st_bool_list, st_bool_dict, st_str_int, st_str_bool, st_str_str, st_str_tuple, st_str_list, st_str_dict, st_tuple_int, st_tuple_bool, st_tuple_str, st_tuple_tuple, st_tuple_list, st_tuple_dict, st_list_int, st_list_bool, st_list_str, st_list_tuple, st_list_list, st_list_dict, st_dict_int, st_dict_bool, st_dict_str, st_dict_tuple, st_dict_list, st_dict_dict, eq_self, Bool.true_eq_false, Bool.false_eq_true, false_implies, true_implies, implies_true, decide_eq_true_eq, decide_eq_false_iff_not, Bool.not_true, Bool.not_false, Bool.not_eq_true, Bool.not_eq_false, Bool.not_eq_true', Bool.not_eq_false', not_true_eq_false, not_false_eq_true, false_and, and_false, or_false, false_or, reduceCtorEq, ↓exLSu, ↓exDKu, ↓exDKd, ↓exLSd, ↓exLu, ↓dIxRu, ↓dPutu, ↓dGetAu, ↓dEq_int, ↓dNe_int, ↓dEq_bl, ↓dNe_bl, ↓dEq_str, ↓dNe_str, ↓dAdd_int, ↓exAt10, ↓exIx10, ↓exAt20, ↓exIx20, ↓exAt21, ↓exIx21, ↓exAt30, ↓exIx30, ↓exAt31, ↓exIx31, ↓exAt32, ↓exIx32, ↓exAt40, ↓exIx40, ↓exAt41, ↓exIx41, ↓exAt42, ↓exIx42, ↓exAt43, ↓exIx43, ↓exAt50, ↓exIx50, ↓exAt51, ↓exIx51, ↓exAt52, ↓exIx52, ↓exAt53, ↓exIx53, ↓exAt54, ↓exIx54, ↓exAt60, ↓exIx60, ↓exAt61, ↓exIx61, ↓exAt62, ↓exIx62, ↓exAt63, ↓exIx63, ↓exAt64, ↓exIx64, ↓exAt65, ↓exIx65, up_up, false_or, or_false, ↓exAtM, ↓dFlag_bl, ↓exBl, ↓exInt, ↓exRef, ↓dVar0, ↓dAug0, ↓dSet0, ↓dTgN0, ↓dTgW0, ↓dVar1, ↓dAug1, ↓dSet1, ↓dTgN1, ↓dTgW1, ↓dVar2, ↓dAug2, ↓dSet2, ↓dTgN2, ↓dTgW2, ↓dVar3, ↓dAug3, ↓dSet3, ↓dTgN3, ↓dTgW3, ↓dVar4, ↓dAug4, ↓dSet4, ↓dTgN4, ↓dTgW4, ↓dVar5, ↓dAug5, ↓dSet5, ↓dTgN5, ↓dTgW5, ↓dVar6, ↓dAug6, ↓dSet6, ↓dTgN6, ↓dTgW6, ↓dVar7, ↓dAug7, ↓dSet7, ↓dTgN7, ↓dTgW7, ↓dVar8, ↓dAug8, ↓dSet8, ↓dTgN8, ↓dTgW8, ↓dVar9, ↓dAug9, ↓dSet9, ↓dTgN9, ↓dTgW9, ↓dVar10, ↓dAug10, ↓dSet10, ↓dTgN10, ↓dTgW10, ↓dVar11, ↓dAug11, ↓dSet11, ↓dTgN11, ↓dTgW11, ↓dVar12, ↓dAug12, ↓dSet12, ↓dTgN12, ↓dTgW12, ↓dVar13, ↓dAug13, ↓dSet13, ↓dTgN13, ↓dTgW13, ↓dVar14, ↓dAug14, ↓dSet14, ↓dTgN14, ↓dTgW14, ↓dVar15, ↓dAug15, ↓dSet15, ↓dTgN15, ↓dTgW15, ↓dVar16, ↓dAug16, ↓dSet16, ↓dTgN16, ↓dTgW16, ↓dVar17, ↓dAug17, ↓dSet17, ↓dTgN17, ↓dTgW17, ↓dVar18, ↓dAug18, ↓dSet18, ↓dTgN18, ↓dTgW18, ↓dVar19, ↓dAug19, ↓dSet19, ↓dTgN19, ↓dTgW19, ↓dTg_t2, ↓dTg_t3, ↓exGetM, ↓exSumU, nD, plD, rwD, ↓dAdd_tup, ↓dAdd_ref, dIx_tup, dIx_str, dIx_ref, dIx_kl, dListOf_tup, dListOf_kl, dListOf_ref, dLen_tup, dLen_str, dLen_kl, dLen_ref, dTupOf_tup, dTupOf_ref, dSeqI_x, sqX_tup, sqX_ref, sqX_str, dEnumI_x, enX_tup, enX_ref, dSrtSet, dSortA, dIsi2, isT2, Bool.or_true, Bool.true_or, Bool.or_false, Bool.or_self, dReprR, dReprT, dDGet2]
  intro p hp q hq
  have npq : p ≠ q := by rintro rfl; rw [up_same] at hq; cases hq
  have hq0 : M q = none := by rw [up_ne npq.symm] at hq; exact hq
  refine dFor_g fun F1 T1 h1 t1 => ?_; simp only [dFor, dC, dOp, dTest, dChain, dAnd, dOr, dNot, dAndV, dOrV, dNotV, dIf, dNil, dCons, dTup, dLst, dCB, d1, dNoPart, dPart, dSl, dCut, dNeg, dSorted, dSum, dAll, dAny, dInt, dAbs, dMax, dMin, dIsi, isT, dNext, dSeq, dBrk, dCont, dNever, dExpr, dRet, dRetN, dIfS, dAsg, dPutI, dI0, dI, dIsN, dNotN, dRng1, dRng2, dRngDn, dZipI, dYes, dCall, dLM, dAppend, dExtend, dReverse, dInsert, dAugI, dRg1, dRg2, dTupRg, dLstRg, dNewK, dNewT, ↓S0_, ↓S1_, ↓S2_, ↓S3_, ↓S4_, ↓S5_, ↓S6_, List.map_cons, List.map_nil, List.length_cons, List.length_nil, List.replicate, List.cons_append, List.nil_append, Nat.reduceAdd, Nat.reduceSub, Nat.zero_add, List.getElem?_cons_zero, List.getElem?_cons_succ, Option.some.injEq, exists_eq_left, exists_eq_left', List.set_cons_zero, List.set_cons_succ, wipeD, D.int.injEq, D.bl.injEq, D.str.injEq, D.ref.injEq, D.tup.injEq, D.ty.injEq, true_and, and_true, forall_const, forall_eq', forall_eq, mt_int, mt_bool, mt_str, mt_tuple, mt_list, mt_dict, st_int_int, st_int_bool, st_int_str, st_int_tuple, st_int_list, st_int_dict, st_bool_int, st_bool_bool, st_bool_str, st_bool_tuple, st_bool_list, st_bool_dict, st_str_int, st_str_bool, st_str_str, st_str_tuple, st_str_list, st_str_dict, st_tuple_int, st_tuple_bool, st_tuple_str, st_tuple_tuple, st_tuple_list, st_tuple_dict, st_list_int, st_list_bool, st_list_str, st_list_tuple, st_list_list, st_list_dict, st_dict_int, st_dict_bool, st_dict_str, st_dict_tuple, st_dict_list, st_dict_dict, eq_self, Bool.true_eq_false, Bool.false_eq_true, false_implies, true_implies, implies_true, decide_eq_true_eq, decide_eq_false_iff_not, Bool.not_true, Bool.not_false, Bool.not_eq_true, Bool.not_eq_false, Bool.not_eq_true', Bool.not_eq_false', not_true_eq_false, not_false_eq_true, false_and, and_false, or_false, false_or, reduceCtorEq, ↓exLSu, ↓exDKu, ↓exDKd, ↓exLSd, ↓exLu, ↓dIxRu, ↓dPutu, ↓dGetAu, ↓dEq_int, ↓dNe_int, ↓dEq_bl, ↓dNe_bl, ↓dEq_str, ↓dNe_str, ↓dAdd_int, ↓exAt10, ↓exIx10, ↓exAt20, ↓exIx20, ↓exAt21, ↓exIx21, ↓exAt30, ↓exIx30, ↓exAt31, ↓exIx31, ↓exAt32, ↓exIx32, ↓exAt40, ↓exIx40, ↓exAt41, ↓exIx41, ↓exAt42, ↓exIx42, ↓exAt43, ↓exIx43, ↓exAt50, ↓exIx50, ↓exAt51, ↓exIx51, ↓exAt52, ↓exIx52, ↓exAt53, ↓exIx53, ↓exAt54, ↓exIx54, ↓exAt60, ↓exIx60, ↓exAt61, ↓exIx61, ↓exAt62, ↓exIx62, ↓exAt63, ↓exIx63, ↓exAt64, ↓exIx64, ↓exAt65, ↓exIx65, up_up, false_or, or_false, ↓exAtM, ↓dFlag_bl, ↓exBl, ↓exInt, ↓exRef, ↓dVar0, ↓dAug0, ↓dSet0, ↓dTgN0, ↓dTgW0, ↓dVar1, ↓dAug1, ↓dSet1, ↓dTgN1, ↓dTgW1, ↓dVar2, ↓dAug2, ↓dSet2, ↓dTgN2, ↓dTgW2, ↓dVar3, ↓dAug3, ↓dSet3, ↓dTgN3, ↓dTgW3, ↓dVar4, ↓dAug4, ↓dSet4, ↓dTgN4, ↓dTgW4, ↓dVar5, ↓dAug5, ↓dSet5, ↓dTgN5, ↓dTgW5, ↓dVar6, ↓dAug6, ↓dSet6, ↓dTgN6, ↓dTgW6, ↓dVar7, ↓dAug7, ↓dSet7, ↓dTgN7, ↓dTgW7, ↓dVar8, ↓dAug8, ↓dSet8, ↓dTgN8, ↓dTgW8, ↓dVar9, ↓dAug9, ↓dSet9, ↓dTgN9, ↓dTgW9, ↓dVar10, ↓dAug10, ↓dSet10, ↓dTgN10, ↓dTgW10, ↓dVar11, ↓dAug11, ↓dSet11, ↓dTgN11, ↓dTgW11, ↓dVar12, ↓dAug12, ↓dSet12, ↓dTgN12, ↓dTgW12, ↓dVar13, ↓dAug13, ↓dSet13, ↓dTgN13, ↓dTgW13, ↓dVar14, ↓dAug14, ↓dSet14, ↓dTgN14, ↓dTgW14, ↓dVar15, ↓dAug15, ↓dSet15, ↓dTgN15, ↓dTgW15, ↓dVar16, ↓dAug16, ↓dSet16, ↓dTgN16, ↓dTgW16, ↓dVar17, ↓dAug17, ↓dSet17, ↓dTgN17, ↓dTgW17, ↓dVar18, ↓dAug18, ↓dSet18, ↓dTgN18, ↓dTgW18, ↓dVar19, ↓dAug19, ↓dSet19, ↓dTgN19, ↓dTgW19, ↓dTg_t2, ↓dTg_t3, ↓exGetM, ↓exSumU, nD, plD, rwD, ↓dAdd_tup, ↓dAdd_ref, dIx_tup, dIx_str, dIx_ref, dIx_kl, dListOf_tup, dListOf_kl, dListOf_ref, dLen_tup, dLen_str, dLen_kl, dLen_ref, dTupOf_tup, dTupOf_ref, dSeqI_x, sqX_tup, sqX_ref, sqX_str, dEnumI_x, enX_tup, enX_ref, dSrtSet, dSortA, dIsi2, isT2, Bool.or_true, Bool.true_or, Bool.or_false, Bool.or_self, dReprR, dReprT, dDGet2]
  have s1 : Sub (up (up M p (.dK [])) q (.lst [])) M := sub_at (Sub.new hp (by intro _ z; cases z)) hq0 (by intro _ z; cases z)
  refine sqX_of hd.sq s1 fun g hg => ?_
  refine forL evD l (fun l1 δ M' => Sub M' M ∧ (∃ kvs, M' p = some (.dK kvs) ∧ kvs.length ≤ 2 * l1.length ∧ HK kvs (st0.run l1).k) ∧ M' q = some (.lst ((plO l1).map rwD)) ∧ ∃ a b c d, δ = [some x, some (.ref p), some (.ref q), a, b, c, d]) rfl ⟨s1, ⟨[], by rw [up_ne npq, up_same], Nat.zero_le _, fun _ => rfl⟩, up_same, _, _, _, _, rfl⟩ ?_ ?_
  · rintro l1 e t δ' M1 pre P' e1 ⟨s2, ⟨kvs, hp1, lk, hk⟩, hq1, a, b, c, d, rfl⟩ hP
    have w := wf0.run l1
    have wa := w.asc
    have hl1 : l1.length < 60 := by have := congrArg List.length e1; rw [List.length_append, List.length_cons] at this; omega
    have hp1' : puts l1 ≤ 40 := by
      have := congrArg puts e1
      rw [puts_app] at this; omega
    have hpl := plO_len l1
    have kl : ∀ h, ((st0.run l1).k h).length ≤ (plO l1).length := fun h => nd_len ((wa h).imp fun z => Nat.ne_of_lt z) (w.lt h)
    have kla := kl
    refine ⟨hg _ s2, ?_⟩
    subst t1
    cases e with
    | put a =>
      simp (config := {failIfUnchanged := false}) only [dC, dOp, dTest, dChain, dAnd, dOr, dNot, dAndV, dOrV, dNotV, dIf, dNil, dCons, dTup, dLst, dCB, d1, dNoPart, dPart, dSl, dCut, dNeg, dSorted, dSum, dAll, dAny, dInt, dAbs, dMax, dMin, dIsi, isT, dNext, dSeq, dBrk, dCont, dNever, dExpr, dRet, dRetN, dIfS, dAsg, dPutI, dI0, dI, dIsN, dNotN, dRng1, dRng2, dRngDn, dZipI, dYes, dCall, dLM, dAppend, dExtend, dReverse, dInsert, dAugI, dRg1, dRg2, dTupRg, dLstRg, dNewK, dNewT, ↓S0_, ↓S1_, ↓S2_, ↓S3_, ↓S4_, ↓S5_, ↓S6_, List.map_cons, List.map_nil, List.length_cons, List.length_nil, List.replicate, List.cons_append, List.nil_append, Nat.reduceAdd, Nat.reduceSub, Nat.zero_add, List.getElem?_cons_zero, List.getElem?_cons_succ, Option.some.injEq, exists_eq_left, exists_eq_left', List.set_cons_zero, List.set_cons_succ, wipeD, D.int.injEq, D.bl.injEq, D.str.injEq, D.ref.injEq, D.tup.injEq, D.ty.injEq, true_and, and_true, forall_const, forall_eq', forall_eq, mt_int, mt_bool, mt_str, mt_tuple, mt_list, mt_dict, st_int_int, st_int_bool, st_int_str, st_int_tuple, st_int_list, st_int_dict, st_bool_int, st_bool_bool, st_bool_str, st_bool_tuple, st_bool_list, st_bool_dict, st_str_int, st_str_bool, st_str_str, st_str_tuple, st_str_list, st_str_dict, st_tuple_int, st_tuple_bool, st_tuple_str, st_tuple_tuple, st_tuple_list, st_tuple_dict, st_list_int, st_list_bool, st_list_str, st_list_tuple, st_list_list, st_list_dict, st_dict_int, st_dict_bool, st_dict_str, st_dict_tuple, st_dict_list, st_dict_dict, eq_self, Bool.true_eq_false, Bool.false_eq_true, false_implies, true_implies, implies_true, decide_eq_true_eq, decide_eq_false_iff_not, Bool.not_true, Bool.not_false, Bool.not_eq_true, Bool.not_eq_false, Bool.not_eq_true', Bool.not_eq_false', not_true_eq_false, not_false_eq_true, false_and, and_false, or_false, false_or, reduceCtorEq, ↓exLSu, ↓exDKu, ↓exDKd, ↓exLSd, ↓exLu, ↓dIxRu, ↓dPutu, ↓dGetAu, ↓dEq_int, ↓dNe_int, ↓dEq_bl, ↓dNe_bl, ↓dEq_str, ↓dNe_str, ↓dAdd_int, ↓exAt10, ↓exIx10, ↓exAt20, ↓exIx20, ↓exAt21, ↓exIx21, ↓exAt30, ↓exIx30, ↓exAt31, ↓exIx31, ↓exAt32, ↓exIx32, ↓exAt40, ↓exIx40, ↓exAt41, ↓exIx41, ↓exAt42, ↓exIx42, ↓exAt43, ↓exIx43, ↓exAt50, ↓exIx50, ↓exAt51, ↓exIx51, ↓exAt52, ↓exIx52, ↓exAt53, ↓exIx53, ↓exAt54, ↓exIx54, ↓exAt60, ↓exIx60, ↓exAt61, ↓exIx61, ↓exAt62, ↓exIx62, ↓exAt63, ↓exIx63, ↓exAt64, ↓exIx64, ↓exAt65, ↓exIx65, up_up, false_or, or_false, ↓exAtM, ↓dFlag_bl, ↓exBl, ↓exInt, ↓exRef, ↓dVar0, ↓dAug0, ↓dSet0, ↓dTgN0, ↓dTgW0, ↓dVar1, ↓dAug1, ↓dSet1, ↓dTgN1, ↓dTgW1, ↓dVar2, ↓dAug2, ↓dSet2, ↓dTgN2, ↓dTgW2, ↓dVar3, ↓dAug3, ↓dSet3, ↓dTgN3, ↓dTgW3, ↓dVar4, ↓dAug4, ↓dSet4, ↓dTgN4, ↓dTgW4, ↓dVar5, ↓dAug5, ↓dSet5, ↓dTgN5, ↓dTgW5, ↓dVar6, ↓dAug6, ↓dSet6, ↓dTgN6, ↓dTgW6, ↓dVar7, ↓dAug7, ↓dSet7, ↓dTgN7, ↓dTgW7, ↓dVar8, ↓dAug8, ↓dSet8, ↓dTgN8, ↓dTgW8, ↓dVar9, ↓dAug9, ↓dSet9, ↓dTgN9, ↓dTgW9, ↓dVar10, ↓dAug10, ↓dSet10, ↓dTgN10, ↓dTgW10, ↓dVar11, ↓dAug11, ↓dSet11, ↓dTgN11, ↓dTgW11, ↓dVar12, ↓dAug12, ↓dSet12, ↓dTgN12, ↓dTgW12, ↓dVar13, ↓dAug13, ↓dSet13, ↓dTgN13, ↓dTgW13, ↓dVar14, ↓dAug14, ↓dSet14, ↓dTgN14, ↓dTgW14, ↓dVar15, ↓dAug15, ↓dSet15, ↓dTgN15, ↓dTgW15, ↓dVar16, ↓dAug16, ↓dSet16, ↓dTgN16, ↓dTgW16, ↓dVar17, ↓dAug17, ↓dSet17, ↓dTgN17, ↓dTgW17, ↓dVar18, ↓dAug18, ↓dSet18, ↓dTgN18, ↓dTgW18, ↓dVar19, ↓dAug19, ↓dSet19, ↓dTgN19, ↓dTgW19, ↓dTg_t2, ↓dTg_t3, ↓exGetM, ↓exSumU, nD, plD, rwD, ↓dAdd_tup, ↓dAdd_ref, dIx_tup, dIx_str, dIx_ref, dIx_kl, dListOf_tup, dListOf_kl, dListOf_ref, dLen_tup, dLen_str, dLen_kl, dLen_ref, dTupOf_tup, dTupOf_ref, dSeqI_x, sqX_tup, sqX_ref, sqX_str, dEnumI_x, enX_tup, enX_ref, dSrtSet, dSortA, dIsi2, isT2, Bool.or_true, Bool.true_or, Bool.or_false, Bool.or_self, dReprR, dReprT, dDGet2, evD, sPP, sPM, sMP, sMM, ↓exLS hq1, ↓exDKh hq1]
      refine ⟨.inl ⟨_, .inl hp1⟩, .inl ⟨kvs, (.inl (a : Int) : Key), rfl, .inl hp1, ?_⟩⟩
      rw [hk a]
      simp (config := {failIfUnchanged := false}) only [dC, dOp, dTest, dChain, dAnd, dOr, dNot, dAndV, dOrV, dNotV, dIf, dNil, dCons, dTup, dLst, dCB, d1, dNoPart, dPart, dSl, dCut, dNeg, dSorted, dSum, dAll, dAny, dInt, dAbs, dMax, dMin, dIsi, isT, dNext, dSeq, dBrk, dCont, dNever, dExpr, dRet, dRetN, dIfS, dAsg, dPutI, dI0, dI, dIsN, dNotN, dRng1, dRng2, dRngDn, dZipI, dYes, dCall, dLM, dAppend, dExtend, dReverse, dInsert, dAugI, dRg1, dRg2, dTupRg, dLstRg, dNewK, dNewT, ↓S0_, ↓S1_, ↓S2_, ↓S3_, ↓S4_, ↓S5_, ↓S6_, List.map_cons, List.map_nil, List.length_cons, List.length_nil, List.replicate, List.cons_append, List.nil_append, Nat.reduceAdd, Nat.reduceSub, Nat.zero_add, List.getElem?_cons_zero, List.getElem?_cons_succ, Option.some.injEq, exists_eq_left, exists_eq_left', List.set_cons_zero, List.set_cons_succ, wipeD, D.int.injEq, D.bl.injEq, D.str.injEq, D.ref.injEq, D.tup.injEq, D.ty.injEq, true_and, and_true, forall_const, forall_eq', forall_eq, mt_int, mt_bool, mt_str, mt_tuple, mt_list, mt_dict, st_int_int, st_int_bool, st_int_str, st_int_tuple, st_int_list, st_int_dict, st_bool_int, st_bool_bool, st_bool_str, st_bool_tuple, st_bool_list, st_bool_dict, st_str_int, st_str_bool, st_str_str, st_str_tuple, st_str_list, st_str_dict, st_tuple_int, st_tuple_bool, st_tuple_str, st_tuple_tuple, st_tuple_list, st_tuple_dict, st_list_int, st_list_bool, st_list_str, st_list_tuple, st_list_list, st_list_dict, st_dict_int, st_dict_bool, st_dict_str, st_dict_tuple, st_dict_list, st_dict_dict, eq_self, Bool.true_eq_false, Bool.false_eq_true, false_implies, true_implies, implies_true, decide_eq_true_eq, decide_eq_false_iff_not, Bool.not_true, Bool.not_false, Bool.not_eq_true, Bool.not_eq_false, Bool.not_eq_true', Bool.not_eq_false', not_true_eq_false, not_false_eq_true, false_and, and_false, or_false, false_or, reduceCtorEq, ↓exLSu, ↓exDKu, ↓exDKd, ↓exLSd, ↓exLu, ↓dIxRu, ↓dPutu, ↓dGetAu, ↓dEq_int, ↓dNe_int, ↓dEq_bl, ↓dNe_bl, ↓dEq_str, ↓dNe_str, ↓dAdd_int, ↓exAt10, ↓exIx10, ↓exAt20, ↓exIx20, ↓exAt21, ↓exIx21, ↓exAt30, ↓exIx30, ↓exAt31, ↓exIx31, ↓exAt32, ↓exIx32, ↓exAt40, ↓exIx40, ↓exAt41, ↓exIx41, ↓exAt42, ↓exIx42, ↓exAt43, ↓exIx43, ↓exAt50, ↓exIx50, ↓exAt51, ↓exIx51, ↓exAt52, ↓exIx52, ↓exAt53, ↓exIx53, ↓exAt54, ↓exIx54, ↓exAt60, ↓exIx60, ↓exAt61, ↓exIx61, ↓exAt62, ↓exIx62, ↓exAt63, ↓exIx63, ↓exAt64, ↓exIx64, ↓exAt65, ↓exIx65, up_up, false_or, or_false, ↓exAtM, ↓dFlag_bl, ↓exBl, ↓exInt, ↓exRef, ↓dVar0, ↓dAug0, ↓dSet0, ↓dTgN0, ↓dTgW0, ↓dVar1, ↓dAug1, ↓dSet1, ↓dTgN1, ↓dTgW1, ↓dVar2, ↓dAug2, ↓dSet2, ↓dTgN2, ↓dTgW2, ↓dVar3, ↓dAug3, ↓dSet3, ↓dTgN3, ↓dTgW3, ↓dVar4, ↓dAug4, ↓dSet4, ↓dTgN4, ↓dTgW4, ↓dVar5, ↓dAug5, ↓dSet5, ↓dTgN5, ↓dTgW5, ↓dVar6, ↓dAug6, ↓dSet6, ↓dTgN6, ↓dTgW6, ↓dVar7, ↓dAug7, ↓dSet7, ↓dTgN7, ↓dTgW7, ↓dVar8, ↓dAug8, ↓dSet8, ↓dTgN8, ↓dTgW8, ↓dVar9, ↓dAug9, ↓dSet9, ↓dTgN9, ↓dTgW9, ↓dVar10, ↓dAug10, ↓dSet10, ↓dTgN10, ↓dTgW10, ↓dVar11, ↓dAug11, ↓dSet11, ↓dTgN11, ↓dTgW11, ↓dVar12, ↓dAug12, ↓dSet12, ↓dTgN12, ↓dTgW12, ↓dVar13, ↓dAug13, ↓dSet13, ↓dTgN13, ↓dTgW13, ↓dVar14, ↓dAug14, ↓dSet14, ↓dTgN14, ↓dTgW14, ↓dVar15, ↓dAug15, ↓dSet15, ↓dTgN15, ↓dTgW15, ↓dVar16, ↓dAug16, ↓dSet16, ↓dTgN16, ↓dTgW16, ↓dVar17, ↓dAug17, ↓dSet17, ↓dTgN17, ↓dTgW17, ↓dVar18, ↓dAug18, ↓dSet18, ↓dTgN18, ↓dTgW18, ↓dVar19, ↓dAug19, ↓dSet19, ↓dTgN19, ↓dTgW19, ↓dTg_t2, ↓dTg_t3, ↓exGetM, ↓exSumU, nD, plD, rwD, ↓dAdd_tup, ↓dAdd_ref, dIx_tup, dIx_str, dIx_ref, dIx_kl, dListOf_tup, dListOf_kl, dListOf_ref, dLen_tup, dLen_str, dLen_kl, dLen_ref, dTupOf_tup, dTupOf_ref, dSeqI_x, sqX_tup, sqX_ref, sqX_str, dEnumI_x, enX_tup, enX_ref, dSrtSet, dSortA, dIsi2, isT2, Bool.or_true, Bool.true_or, Bool.or_false, Bool.or_self, dReprR, dReprT, dDGet2]
      have kl := kl a
      refine ⟨by rw [List.length_map]; exact small1000 (by omega), p, rfl, .inr (.inl ⟨_, (.inl (a : Int) : Key), rfl, hp1, small1000 (by omega), ?_⟩)⟩
      rw [show (D.tup ((((st0.run l1).k a).map nD) ++ [D.int (((plO l1).map rwD).length : Int)])) = rwD ((st0.run l1).k a ++ [(plO l1).length]) by rw [List.length_map, rwD, List.map_append]; rfl]
      have s3 := sub_at (r := p) (o := .dK (putKD kvs (.inl (a : Int) : Key) (rwD ((st0.run l1).k a ++ [(plO l1).length])))) s2 hp (by intro _ z; cases z)
      have hq3 : up M1 p (.dK (putKD kvs (.inl (a : Int) : Key) (rwD ((st0.run l1).k a ++ [(plO l1).length])))) q = some (.lst ((plO l1).map rwD)) := by rw [up_ne npq.symm]; exact hq1
      refine ⟨⟨q, _, rfl, .inl hq3⟩, _, hq3, by rw [List.length_map]; exact small1000 (by omega), sb0 (hP _ _ ⟨sub_at s3 hq0 (by intro _ z; cases z), ⟨_, by rw [up_ne npq, up_same], ?_, ?_⟩, ?_, _, _, _, _, rfl⟩)⟩
      · have := put_len1 kvs (.inl (a : Int) : Key) (rwD ((st0.run l1).k a ++ [(plO l1).length]))
        rw [List.length_append, List.length_singleton]
        omega
      · rw [run_snoc]
        exact hk.put a _
      · rw [up_same]
        unfold plO
        rw [run_snoc]
        show _ = some (O.lst (((st0.run l1).R ++ [(st0.run l1).k a]).map rwD))
        rw [List.map_append]; rfl
    | meet a b =>
      simp (config := {failIfUnchanged := false}) only [dC, dOp, dTest, dChain, dAnd, dOr, dNot, dAndV, dOrV, dNotV, dIf, dNil, dCons, dTup, dLst, dCB, d1, dNoPart, dPart, dSl, dCut, dNeg, dSorted, dSum, dAll, dAny, dInt, dAbs, dMax, dMin, dIsi, isT, dNext, dSeq, dBrk, dCont, dNever, dExpr, dRet, dRetN, dIfS, dAsg, dPutI, dI0, dI, dIsN, dNotN, dRng1, dRng2, dRngDn, dZipI, dYes, dCall, dLM, dAppend, dExtend, dReverse, dInsert, dAugI, dRg1, dRg2, dTupRg, dLstRg, dNewK, dNewT, ↓S0_, ↓S1_, ↓S2_, ↓S3_, ↓S4_, ↓S5_, ↓S6_, List.map_cons, List.map_nil, List.length_cons, List.length_nil, List.replicate, List.cons_append, List.nil_append, Nat.reduceAdd, Nat.reduceSub, Nat.zero_add, List.getElem?_cons_zero, List.getElem?_cons_succ, Option.some.injEq, exists_eq_left, exists_eq_left', List.set_cons_zero, List.set_cons_succ, wipeD, D.int.injEq, D.bl.injEq, D.str.injEq, D.ref.injEq, D.tup.injEq, D.ty.injEq, true_and, and_true, forall_const, forall_eq', forall_eq, mt_int, mt_bool, mt_str, mt_tuple, mt_list, mt_dict, st_int_int, st_int_bool, st_int_str, st_int_tuple, st_int_list, st_int_dict, st_bool_int, st_bool_bool, st_bool_str, st_bool_tuple, st_bool_list, st_bool_dict, st_str_int, st_str_bool, st_str_str, st_str_tuple, st_str_list, st_str_dict, st_tuple_int, st_tuple_bool, st_tuple_str, st_tuple_tuple, st_tuple_list, st_tuple_dict, st_list_int, st_list_bool, st_list_str, st_list_tuple, st_list_list, st_list_dict, st_dict_int, st_dict_bool, st_dict_str, st_dict_tuple, st_dict_list, st_dict_dict, eq_self, Bool.true_eq_false, Bool.false_eq_true, false_implies, true_implies, implies_true, decide_eq_true_eq, decide_eq_false_iff_not, Bool.not_true, Bool.not_false, Bool.not_eq_true, Bool.not_eq_false, Bool.not_eq_true', Bool.not_eq_false', not_true_eq_false, not_false_eq_true, false_and, and_false, or_false, false_or, reduceCtorEq, ↓exLSu, ↓exDKu, ↓exDKd, ↓exLSd, ↓exLu, ↓dIxRu, ↓dPutu, ↓dGetAu, ↓dEq_int, ↓dNe_int, ↓dEq_bl, ↓dNe_bl, ↓dEq_str, ↓dNe_str, ↓dAdd_int, ↓exAt10, ↓exIx10, ↓exAt20, ↓exIx20, ↓exAt21, ↓exIx21, ↓exAt30, ↓exIx30, ↓exAt31, ↓exIx31, ↓exAt32, ↓exIx32, ↓exAt40, ↓exIx40, ↓exAt41, ↓exIx41, ↓exAt42, ↓exIx42, ↓exAt43, ↓exIx43, ↓exAt50, ↓exIx50, ↓exAt51, ↓exIx51, ↓exAt52, ↓exIx52, ↓exAt53, ↓exIx53, ↓exAt54, ↓exIx54, ↓exAt60, ↓exIx60, ↓exAt61, ↓exIx61, ↓exAt62, ↓exIx62, ↓exAt63, ↓exIx63, ↓exAt64, ↓exIx64, ↓exAt65, ↓exIx65, up_up, false_or, or_false, ↓exAtM, ↓dFlag_bl, ↓exBl, ↓exInt, ↓exRef, ↓dVar0, ↓dAug0, ↓dSet0, ↓dTgN0, ↓dTgW0, ↓dVar1, ↓dAug1, ↓dSet1, ↓dTgN1, ↓dTgW1, ↓dVar2, ↓dAug2, ↓dSet2, ↓dTgN2, ↓dTgW2, ↓dVar3, ↓dAug3, ↓dSet3, ↓dTgN3, ↓dTgW3, ↓dVar4, ↓dAug4, ↓dSet4, ↓dTgN4, ↓dTgW4, ↓dVar5, ↓dAug5, ↓dSet5, ↓dTgN5, ↓dTgW5, ↓dVar6, ↓dAug6, ↓dSet6, ↓dTgN6, ↓dTgW6, ↓dVar7, ↓dAug7, ↓dSet7, ↓dTgN7, ↓dTgW7, ↓dVar8, ↓dAug8, ↓dSet8, ↓dTgN8, ↓dTgW8, ↓dVar9, ↓dAug9, ↓dSet9, ↓dTgN9, ↓dTgW9, ↓dVar10, ↓dAug10, ↓dSet10, ↓dTgN10, ↓dTgW10, ↓dVar11, ↓dAug11, ↓dSet11, ↓dTgN11, ↓dTgW11, ↓dVar12, ↓dAug12, ↓dSet12, ↓dTgN12, ↓dTgW12, ↓dVar13, ↓dAug13, ↓dSet13, ↓dTgN13, ↓dTgW13, ↓dVar14, ↓dAug14, ↓dSet14, ↓dTgN14, ↓dTgW14, ↓dVar15, ↓dAug15, ↓dSet15, ↓dTgN15, ↓dTgW15, ↓dVar16, ↓dAug16, ↓dSet16, ↓dTgN16, ↓dTgW16, ↓dVar17, ↓dAug17, ↓dSet17, ↓dTgN17, ↓dTgW17, ↓dVar18, ↓dAug18, ↓dSet18, ↓dTgN18, ↓dTgW18, ↓dVar19, ↓dAug19, ↓dSet19, ↓dTgN19, ↓dTgW19, ↓dTg_t2, ↓dTg_t3, ↓exGetM, ↓exSumU, nD, plD, rwD, ↓dAdd_tup, ↓dAdd_ref, dIx_tup, dIx_str, dIx_ref, dIx_kl, dListOf_tup, dListOf_kl, dListOf_ref, dLen_tup, dLen_str, dLen_kl, dLen_ref, dTupOf_tup, dTupOf_ref, dSeqI_x, sqX_tup, sqX_ref, sqX_str, dEnumI_x, enX_tup, enX_ref, dSrtSet, dSortA, dIsi2, isT2, Bool.or_true, Bool.true_or, Bool.or_false, Bool.or_self, dReprR, dReprT, dDGet2, evD, sPP, sPM, sMP, sMM]
      intro r hr
      have hr0 : M r = none := s2.free hr
      have npr : p ≠ r := by rintro rfl; rw [hp1] at hr; cases hr
      have nqr : q ≠ r := by rintro rfl; rw [hq1] at hr; cases hr
      have s3 : Sub (up M1 r (.dK [])) M := (Sub.new hr (by intro _ z; cases z)).trans s2
      have hp3 : up M1 r (.dK []) p = some (.dK kvs) := by rw [up_ne npr]; exact hp1
      have hq3 : up M1 r (.dK []) q = some (.lst ((plO l1).map rwD)) := by rw [up_ne nqr]; exact hq1
      refine dFor_g fun F2 T2 h2 t2 => ?_; simp only [dFor, dC, dOp, dTest, dChain, dAnd, dOr, dNot, dAndV, dOrV, dNotV, dIf, dNil, dCons, dTup, dLst, dCB, d1, dNoPart, dPart, dSl, dCut, dNeg, dSorted, dSum, dAll, dAny, dInt, dAbs, dMax, dMin, dIsi, isT, dNext, dSeq, dBrk, dCont, dNever, dExpr, dRet, dRetN, dIfS, dAsg, dPutI, dI0, dI, dIsN, dNotN, dRng1, dRng2, dRngDn, dZipI, dYes, dCall, dLM, dAppend, dExtend, dReverse, dInsert, dAugI, dRg1, dRg2, dTupRg, dLstRg, dNewK, dNewT, ↓S0_, ↓S1_, ↓S2_, ↓S3_, ↓S4_, ↓S5_, ↓S6_, List.map_cons, List.map_nil, List.length_cons, List.length_nil, List.replicate, List.cons_append, List.nil_append, Nat.reduceAdd, Nat.reduceSub, Nat.zero_add, List.getElem?_cons_zero, List.getElem?_cons_succ, Option.some.injEq, exists_eq_left, exists_eq_left', List.set_cons_zero, List.set_cons_succ, wipeD, D.int.injEq, D.bl.injEq, D.str.injEq, D.ref.injEq, D.tup.injEq, D.ty.injEq, true_and, and_true, forall_const, forall_eq', forall_eq, mt_int, mt_bool, mt_str, mt_tuple, mt_list, mt_dict, st_int_int, st_int_bool, st_int_str, st_int_tuple, st_int_list, st_int_dict, st_bool_int, st_bool_bool, st_bool_str, st_bool_tuple, st_bool_list, st_bool_dict, st_str_int, st_str_bool, st_str_str, st_str_tuple, st_str_list, st_str_dict, st_tuple_int, st_tuple_bool, st_tuple_str, st_tuple_tuple, st_tuple_list, st_tuple_dict, st_list_int, st_list_bool, st_list_str, st_list_tuple, st_list_list, st_list_dict, st_dict_int, st_dict_bool, st_dict_str, st_dict_tuple, st_dict_list, st_dict_dict, eq_self, Bool.true_eq_false, Bool.false_eq_true, false_implies, true_implies, implies_true, decide_eq_true_eq, decide_eq_false_iff_not, Bool.not_true, Bool.not_false, Bool.not_eq_true, Bool.not_eq_false, Bool.not_eq_true', Bool.not_eq_false', not_true_eq_false, not_false_eq_true, false_and, and_false, or_false, false_or, reduceCtorEq, ↓exLSu, ↓exDKu, ↓exDKd, ↓exLSd, ↓exLu, ↓dIxRu, ↓dPutu, ↓dGetAu, ↓dEq_int, ↓dNe_int, ↓dEq_bl, ↓dNe_bl, ↓dEq_str, ↓dNe_str, ↓dAdd_int, ↓exAt10, ↓exIx10, ↓exAt20, ↓exIx20, ↓exAt21, ↓exIx21, ↓exAt30, ↓exIx30, ↓exAt31, ↓exIx31, ↓exAt32, ↓exIx32, ↓exAt40, ↓exIx40, ↓exAt41, ↓exIx41, ↓exAt42, ↓exIx42, ↓exAt43, ↓exIx43, ↓exAt50, ↓exIx50, ↓exAt51, ↓exIx51, ↓exAt52, ↓exIx52, ↓exAt53, ↓exIx53, ↓exAt54, ↓exIx54, ↓exAt60, ↓exIx60, ↓exAt61, ↓exIx61, ↓exAt62, ↓exIx62, ↓exAt63, ↓exIx63, ↓exAt64, ↓exIx64, ↓exAt65, ↓exIx65, up_up, false_or, or_false, ↓exAtM, ↓dFlag_bl, ↓exBl, ↓exInt, ↓exRef, ↓dVar0, ↓dAug0, ↓dSet0, ↓dTgN0, ↓dTgW0, ↓dVar1, ↓dAug1, ↓dSet1, ↓dTgN1, ↓dTgW1, ↓dVar2, ↓dAug2, ↓dSet2, ↓dTgN2, ↓dTgW2, ↓dVar3, ↓dAug3, ↓dSet3, ↓dTgN3, ↓dTgW3, ↓dVar4, ↓dAug4, ↓dSet4, ↓dTgN4, ↓dTgW4, ↓dVar5, ↓dAug5, ↓dSet5, ↓dTgN5, ↓dTgW5, ↓dVar6, ↓dAug6, ↓dSet6, ↓dTgN6, ↓dTgW6, ↓dVar7, ↓dAug7, ↓dSet7, ↓dTgN7, ↓dTgW7, ↓dVar8, ↓dAug8, ↓dSet8, ↓dTgN8, ↓dTgW8, ↓dVar9, ↓dAug9, ↓dSet9, ↓dTgN9, ↓dTgW9, ↓dVar10, ↓dAug10, ↓dSet10, ↓dTgN10, ↓dTgW10, ↓dVar11, ↓dAug11, ↓dSet11, ↓dTgN11, ↓dTgW11, ↓dVar12, ↓dAug12, ↓dSet12, ↓dTgN12, ↓dTgW12, ↓dVar13, ↓dAug13, ↓dSet13, ↓dTgN13, ↓dTgW13, ↓dVar14, ↓dAug14, ↓dSet14, ↓dTgN14, ↓dTgW14, ↓dVar15, ↓dAug15, ↓dSet15, ↓dTgN15, ↓dTgW15, ↓dVar16, ↓dAug16, ↓dSet16, ↓dTgN16, ↓dTgW16, ↓dVar17, ↓dAug17, ↓dSet17, ↓dTgN17, ↓dTgW17, ↓dVar18, ↓dAug18, ↓dSet18, ↓dTgN18, ↓dTgW18, ↓dVar19, ↓dAug19, ↓dSet19, ↓dTgN19, ↓dTgW19, ↓dTg_t2, ↓dTg_t3, ↓exGetM, ↓exSumU, nD, plD, rwD, ↓dAdd_tup, ↓dAdd_ref, dIx_tup, dIx_str, dIx_ref, dIx_kl, dListOf_tup, dListOf_kl, dListOf_ref, dLen_tup, dLen_str, dLen_kl, dLen_ref, dTupOf_tup, dTupOf_ref, dSeqI_x, sqX_tup, sqX_ref, sqX_str, dEnumI_x, enX_tup, enX_ref, dSrtSet, dSortA, dIsi2, isT2, Bool.or_true, Bool.true_or, Bool.or_false, Bool.or_self, dReprR, dReprT, dDGet2]
      refine ⟨.inl ⟨_, .inl hp3⟩, .inl ⟨kvs, (.inl (a : Int) : Key), rfl, .inl hp3, .inl ⟨_, .inl hp3⟩, .inl ⟨kvs, (.inl (b : Int) : Key), rfl, .inl hp3, ?_⟩⟩⟩
      rw [hk a, hk b]
      simp (config := {failIfUnchanged := false}) only [dC, dOp, dTest, dChain, dAnd, dOr, dNot, dAndV, dOrV, dNotV, dIf, dNil, dCons, dTup, dLst, dCB, d1, dNoPart, dPart, dSl, dCut, dNeg, dSorted, dSum, dAll, dAny, dInt, dAbs, dMax, dMin, dIsi, isT, dNext, dSeq, dBrk, dCont, dNever, dExpr, dRet, dRetN, dIfS, dAsg, dPutI, dI0, dI, dIsN, dNotN, dRng1, dRng2, dRngDn, dZipI, dYes, dCall, dLM, dAppend, dExtend, dReverse, dInsert, dAugI, dRg1, dRg2, dTupRg, dLstRg, dNewK, dNewT, ↓S0_, ↓S1_, ↓S2_, ↓S3_, ↓S4_, ↓S5_, ↓S6_, List.map_cons, List.map_nil, List.length_cons, List.length_nil, List.replicate, List.cons_append, List.nil_append, Nat.reduceAdd, Nat.reduceSub, Nat.zero_add, List.getElem?_cons_zero, List.getElem?_cons_succ, Option.some.injEq, exists_eq_left, exists_eq_left', List.set_cons_zero, List.set_cons_succ, wipeD, D.int.injEq, D.bl.injEq, D.str.injEq, D.ref.injEq, D.tup.injEq, D.ty.injEq, true_and, and_true, forall_const, forall_eq', forall_eq, mt_int, mt_bool, mt_str, mt_tuple, mt_list, mt_dict, st_int_int, st_int_bool, st_int_str, st_int_tuple, st_int_list, st_int_dict, st_bool_int, st_bool_bool, st_bool_str, st_bool_tuple, st_bool_list, st_bool_dict, st_str_int, st_str_bool, st_str_str, st_str_tuple, st_str_list, st_str_dict, st_tuple_int, st_tuple_bool, st_tuple_str, st_tuple_tuple, st_tuple_list, st_tuple_dict, st_list_int, st_list_bool, st_list_str, st_list_tuple, st_list_list, st_list_dict, st_dict_int, st_dict_bool, st_dict_str, st_dict_tuple, st_dict_list, st_dict_dict, eq_self, Bool.true_eq_false, Bool.false_eq_true, false_implies, true_implies, implies_true, decide_eq_true_eq, decide_eq_false_iff_not, Bool.not_true, Bool.not_false, Bool.not_eq_true, Bool.not_eq_false, Bool.not_eq_true', Bool.not_eq_false', not_true_eq_false, not_false_eq_true, false_and, and_false, or_false, false_or, reduceCtorEq, ↓exLSu, ↓exDKu, ↓exDKd, ↓exLSd, ↓exLu, ↓dIxRu, ↓dPutu, ↓dGetAu, ↓dEq_int, ↓dNe_int, ↓dEq_bl, ↓dNe_bl, ↓dEq_str, ↓dNe_str, ↓dAdd_int, ↓exAt10, ↓exIx10, ↓exAt20, ↓exIx20, ↓exAt21, ↓exIx21, ↓exAt30, ↓exIx30, ↓exAt31, ↓exIx31, ↓exAt32, ↓exIx32, ↓exAt40, ↓exIx40, ↓exAt41, ↓exIx41, ↓exAt42, ↓exIx42, ↓exAt43, ↓exIx43, ↓exAt50, ↓exIx50, ↓exAt51, ↓exIx51, ↓exAt52, ↓exIx52, ↓exAt53, ↓exIx53, ↓exAt54, ↓exIx54, ↓exAt60, ↓exIx60, ↓exAt61, ↓exIx61, ↓exAt62, ↓exIx62, ↓exAt63, ↓exIx63, ↓exAt64, ↓exIx64, ↓exAt65, ↓exIx65, up_up, false_or, or_false, ↓exAtM, ↓dFlag_bl, ↓exBl, ↓exInt, ↓exRef, ↓dVar0, ↓dAug0, ↓dSet0, ↓dTgN0, ↓dTgW0, ↓dVar1, ↓dAug1, ↓dSet1, ↓dTgN1, ↓dTgW1, ↓dVar2, ↓dAug2, ↓dSet2, ↓dTgN2, ↓dTgW2, ↓dVar3, ↓dAug3, ↓dSet3, ↓dTgN3, ↓dTgW3, ↓dVar4, ↓dAug4, ↓dSet4, ↓dTgN4, ↓dTgW4, ↓dVar5, ↓dAug5, ↓dSet5, ↓dTgN5, ↓dTgW5, ↓dVar6, ↓dAug6, ↓dSet6, ↓dTgN6, ↓dTgW6, ↓dVar7, ↓dAug7, ↓dSet7, ↓dTgN7, ↓dTgW7, ↓dVar8, ↓dAug8, ↓dSet8, ↓dTgN8, ↓dTgW8, ↓dVar9, ↓dAug9, ↓dSet9, ↓dTgN9, ↓dTgW9, ↓dVar10, ↓dAug10, ↓dSet10, ↓dTgN10, ↓dTgW10, ↓dVar11, ↓dAug11, ↓dSet11, ↓dTgN11, ↓dTgW11, ↓dVar12, ↓dAug12, ↓dSet12, ↓dTgN12, ↓dTgW12, ↓dVar13, ↓dAug13, ↓dSet13, ↓dTgN13, ↓dTgW13, ↓dVar14, ↓dAug14, ↓dSet14, ↓dTgN14, ↓dTgW14, ↓dVar15, ↓dAug15, ↓dSet15, ↓dTgN15, ↓dTgW15, ↓dVar16, ↓dAug16, ↓dSet16, ↓dTgN16, ↓dTgW16, ↓dVar17, ↓dAug17, ↓dSet17, ↓dTgN17, ↓dTgW17, ↓dVar18, ↓dAug18, ↓dSet18, ↓dTgN18, ↓dTgW18, ↓dVar19, ↓dAug19, ↓dSet19, ↓dTgN19, ↓dTgW19, ↓dTg_t2, ↓dTg_t3, ↓exGetM, ↓exSumU, nD, plD, rwD, ↓dAdd_tup, ↓dAdd_ref, dIx_tup, dIx_str, dIx_ref, dIx_kl, dListOf_tup, dListOf_kl, dListOf_ref, dLen_tup, dLen_str, dLen_kl, dLen_ref, dTupOf_tup, dTupOf_ref, dSeqI_x, sqX_tup, sqX_ref, sqX_str, dEnumI_x, enX_tup, enX_ref, dSrtSet, dSortA, dIsi2, isT2, Bool.or_true, Bool.true_or, Bool.or_false, Bool.or_self, dReprR, dReprT, dDGet2, sqX_tup]
      have bd : ∀ y ∈ (st0.run l1).k a ++ (st0.run l1).k b, y < (plO l1).length := fun y hy => (List.mem_append.mp hy).elim (w.lt a y) (w.lt b y)
      have dl : ∀ L : List Nat, (dkN L).length = L.length := fun L => by unfold dkN; rw [List.length_map]
      have ka := kl a
      have kb := kl b
      refine ⟨by rw [List.length_map, List.length_map]; exact Nat.le_of_lt (small1000 (by omega)), forL nD ((st0.run l1).k a ++ (st0.run l1).k b) (fun l2 δ M' => ∃ L : List Nat, L.Nodup ∧ (∀ y, y ∈ L ↔ y ∈ l2) ∧ Sub M' M ∧ M' p = some (.dK kvs) ∧ M' q = some (.lst ((plO l1).map rwD)) ∧ M' r = some (.dK (dkN L)) ∧ ∃ x1 x2, δ = [some x, some (.ref p), some (.ref q), some (evD (.meet a b)), x1, some (.ref r), x2]) (by rw [List.map_append]) ⟨[], List.nodup_nil, fun y => Iff.rfl, s3, hp3, hq3, up_same, _, _, rfl⟩ ?_ ?_⟩
      · rintro l2 y t2' δ' M3 pre2 P2 e2 ⟨L, nd, hm, s4, hp4, hq4, hr4, x1, x2, rfl⟩ hP2
        have hL := nd_len nd (i := (plO l1).length) fun z hz => bd z (by rw [e2]; simp [(hm z).mp hz])
        subst t2
        simp (config := {failIfUnchanged := false}) only [dC, dOp, dTest, dChain, dAnd, dOr, dNot, dAndV, dOrV, dNotV, dIf, dNil, dCons, dTup, dLst, dCB, d1, dNoPart, dPart, dSl, dCut, dNeg, dSorted, dSum, dAll, dAny, dInt, dAbs, dMax, dMin, dIsi, isT, dNext, dSeq, dBrk, dCont, dNever, dExpr, dRet, dRetN, dIfS, dAsg, dPutI, dI0, dI, dIsN, dNotN, dRng1, dRng2, dRngDn, dZipI, dYes, dCall, dLM, dAppend, dExtend, dReverse, dInsert, dAugI, dRg1, dRg2, dTupRg, dLstRg, dNewK, dNewT, ↓S0_, ↓S1_, ↓S2_, ↓S3_, ↓S4_, ↓S5_, ↓S6_, List.map_cons, List.map_nil, List.length_cons, List.length_nil, List.replicate, List.cons_append, List.nil_append, Nat.reduceAdd, Nat.reduceSub, Nat.zero_add, List.getElem?_cons_zero, List.getElem?_cons_succ, Option.some.injEq, exists_eq_left, exists_eq_left', List.set_cons_zero, List.set_cons_succ, wipeD, D.int.injEq, D.bl.injEq, D.str.injEq, D.ref.injEq, D.tup.injEq, D.ty.injEq, true_and, and_true, forall_const, forall_eq', forall_eq, mt_int, mt_bool, mt_str, mt_tuple, mt_list, mt_dict, st_int_int, st_int_bool, st_int_str, st_int_tuple, st_int_list, st_int_dict, st_bool_int, st_bool_bool, st_bool_str, st_bool_tuple, st_bool_list, st_bool_dict, st_str_int, st_str_bool, st_str_str, st_str_tuple, st_str_list, st_str_dict, st_tuple_int, st_tuple_bool, st_tuple_str, st_tuple_tuple, st_tuple_list, st_tuple_dict, st_list_int, st_list_bool, st_list_str, st_list_tuple, st_list_list, st_list_dict, st_dict_int, st_dict_bool, st_dict_str, st_dict_tuple, st_dict_list, st_dict_dict, eq_self, Bool.true_eq_false, Bool.false_eq_true, false_implies, true_implies, implies_true, decide_eq_true_eq, decide_eq_false_iff_not, Bool.not_true, Bool.not_false, Bool.not_eq_true, Bool.not_eq_false, Bool.not_eq_true', Bool.not_eq_false', not_true_eq_false, not_false_eq_true, false_and, and_false, or_false, false_or, reduceCtorEq, ↓exLSu, ↓exDKu, ↓exDKd, ↓exLSd, ↓exLu, ↓dIxRu, ↓dPutu, ↓dGetAu, ↓dEq_int, ↓dNe_int, ↓dEq_bl, ↓dNe_bl, ↓dEq_str, ↓dNe_str, ↓dAdd_int, ↓exAt10, ↓exIx10, ↓exAt20, ↓exIx20, ↓exAt21, ↓exIx21, ↓exAt30, ↓exIx30, ↓exAt31, ↓exIx31, ↓exAt32, ↓exIx32, ↓exAt40, ↓exIx40, ↓exAt41, ↓exIx41, ↓exAt42, ↓exIx42, ↓exAt43, ↓exIx43, ↓exAt50, ↓exIx50, ↓exAt51, ↓exIx51, ↓exAt52, ↓exIx52, ↓exAt53, ↓exIx53, ↓exAt54, ↓exIx54, ↓exAt60, ↓exIx60, ↓exAt61, ↓exIx61, ↓exAt62, ↓exIx62, ↓exAt63, ↓exIx63, ↓exAt64, ↓exIx64, ↓exAt65, ↓exIx65, up_up, false_or, or_false, ↓exAtM, ↓dFlag_bl, ↓exBl, ↓exInt, ↓exRef, ↓dVar0, ↓dAug0, ↓dSet0, ↓dTgN0, ↓dTgW0, ↓dVar1, ↓dAug1, ↓dSet1, ↓dTgN1, ↓dTgW1, ↓dVar2, ↓dAug2, ↓dSet2, ↓dTgN2, ↓dTgW2, ↓dVar3, ↓dAug3, ↓dSet3, ↓dTgN3, ↓dTgW3, ↓dVar4, ↓dAug4, ↓dSet4, ↓dTgN4, ↓dTgW4, ↓dVar5, ↓dAug5, ↓dSet5, ↓dTgN5, ↓dTgW5, ↓dVar6, ↓dAug6, ↓dSet6, ↓dTgN6, ↓dTgW6, ↓dVar7, ↓dAug7, ↓dSet7, ↓dTgN7, ↓dTgW7, ↓dVar8, ↓dAug8, ↓dSet8, ↓dTgN8, ↓dTgW8, ↓dVar9, ↓dAug9, ↓dSet9, ↓dTgN9, ↓dTgW9, ↓dVar10, ↓dAug10, ↓dSet10, ↓dTgN10, ↓dTgW10, ↓dVar11, ↓dAug11, ↓dSet11, ↓dTgN11, ↓dTgW11, ↓dVar12, ↓dAug12, ↓dSet12, ↓dTgN12, ↓dTgW12, ↓dVar13, ↓dAug13, ↓dSet13, ↓dTgN13, ↓dTgW13, ↓dVar14, ↓dAug14, ↓dSet14, ↓dTgN14, ↓dTgW14, ↓dVar15, ↓dAug15, ↓dSet15, ↓dTgN15, ↓dTgW15, ↓dVar16, ↓dAug16, ↓dSet16, ↓dTgN16, ↓dTgW16, ↓dVar17, ↓dAug17, ↓dSet17, ↓dTgN17, ↓dTgW17, ↓dVar18, ↓dAug18, ↓dSet18, ↓dTgN18, ↓dTgW18, ↓dVar19, ↓dAug19, ↓dSet19, ↓dTgN19, ↓dTgW19, ↓dTg_t2, ↓dTg_t3, ↓exGetM, ↓exSumU, nD, plD, rwD, ↓dAdd_tup, ↓dAdd_ref, dIx_tup, dIx_str, dIx_ref, dIx_kl, dListOf_tup, dListOf_kl, dListOf_ref, dLen_tup, dLen_str, dLen_kl, dLen_ref, dTupOf_tup, dTupOf_ref, dSeqI_x, sqX_tup, sqX_ref, sqX_str, dEnumI_x, enX_tup, enX_ref, dSrtSet, dSortA, dIsi2, isT2, Bool.or_true, Bool.true_or, Bool.or_false, Bool.or_self, dReprR, dReprT, dDGet2]
        refine ⟨r, rfl, .inr (.inl ⟨_, (.inl (y : Int) : Key), rfl, hr4, by rw [dl]; exact small1000 (by omega), ?_⟩)⟩
        rw [put_dkN]
        refine sb0 (hP2 _ _ ⟨addN L y, addN_nd nd, fun z => ?_, sub_at s4 hr0 (by intro _ z; cases z), by rw [up_ne npr]; exact hp4, by rw [up_ne nqr]; exact hq4, up_same, _, _, rfl⟩)
        rw [addN_mem, hm z, List.mem_append, List.mem_singleton]
      · rintro δ' M3 ⟨L, nd, hm, s4, hp4, hq4, hr4, x1, x2, rfl⟩
        have hL := nd_len nd (i := (plO l1).length) fun z hz => bd z ((hm z).mp hz)
        rw [h2]
        simp (config := {failIfUnchanged := false}) only [dC, dOp, dTest, dChain, dAnd, dOr, dNot, dAndV, dOrV, dNotV, dIf, dNil, dCons, dTup, dLst, dCB, d1, dNoPart, dPart, dSl, dCut, dNeg, dSorted, dSum, dAll, dAny, dInt, dAbs, dMax, dMin, dIsi, isT, dNext, dSeq, dBrk, dCont, dNever, dExpr, dRet, dRetN, dIfS, dAsg, dPutI, dI0, dI, dIsN, dNotN, dRng1, dRng2, dRngDn, dZipI, dYes, dCall, dLM, dAppend, dExtend, dReverse, dInsert, dAugI, dRg1, dRg2, dTupRg, dLstRg, dNewK, dNewT, ↓S0_, ↓S1_, ↓S2_, ↓S3_, ↓S4_, ↓S5_, ↓S6_, List.map_cons, List.map_nil, List.length_cons, List.length_nil, List.replicate, List.cons_append, List.nil_append, Nat.reduceAdd, Nat.reduceSub, Nat.zero_add, List.getElem?_cons_zero, List.getElem?_cons_succ, Option.some.injEq, exists_eq_left, exists_eq_left', List.set_cons_zero, List.set_cons_succ, wipeD, D.int.injEq, D.bl.injEq, D.str.injEq, D.ref.injEq, D.tup.injEq, D.ty.injEq, true_and, and_true, forall_const, forall_eq', forall_eq, mt_int, mt_bool, mt_str, mt_tuple, mt_list, mt_dict, st_int_int, st_int_bool, st_int_str, st_int_tuple, st_int_list, st_int_dict, st_bool_int, st_bool_bool, st_bool_str, st_bool_tuple, st_bool_list, st_bool_dict, st_str_int, st_str_bool, st_str_str, st_str_tuple, st_str_list, st_str_dict, st_tuple_int, st_tuple_bool, st_tuple_str, st_tuple_tuple, st_tuple_list, st_tuple_dict, st_list_int, st_list_bool, st_list_str, st_list_tuple, st_list_list, st_list_dict, st_dict_int, st_dict_bool, st_dict_str, st_dict_tuple, st_dict_list, st_dict_dict, eq_self, Bool.true_eq_false, Bool.false_eq_true, false_implies, true_implies, implies_true, decide_eq_true_eq, decide_eq_false_iff_not, Bool.not_true, Bool.not_false, Bool.not_eq_true, Bool.not_eq_false, Bool.not_eq_true', Bool.not_eq_false', not_true_eq_false, not_false_eq_true, false_and, and_false, or_false, false_or, reduceCtorEq, ↓exLSu, ↓exDKu, ↓exDKd, ↓exLSd, ↓exLu, ↓dIxRu, ↓dPutu, ↓dGetAu, ↓dEq_int, ↓dNe_int, ↓dEq_bl, ↓dNe_bl, ↓dEq_str, ↓dNe_str, ↓dAdd_int, ↓exAt10, ↓exIx10, ↓exAt20, ↓exIx20, ↓exAt21, ↓exIx21, ↓exAt30, ↓exIx30, ↓exAt31, ↓exIx31, ↓exAt32, ↓exIx32, ↓exAt40, ↓exIx40, ↓exAt41, ↓exIx41, ↓exAt42, ↓exIx42, ↓exAt43, ↓exIx43, ↓exAt50, ↓exIx50, ↓exAt51, ↓exIx51, ↓exAt52, ↓exIx52, ↓exAt53, ↓exIx53, ↓exAt54, ↓exIx54, ↓exAt60, ↓exIx60, ↓exAt61, ↓exIx61, ↓exAt62, ↓exIx62, ↓exAt63, ↓exIx63, ↓exAt64, ↓exIx64, ↓exAt65, ↓exIx65, up_up, false_or, or_false, ↓exAtM, ↓dFlag_bl, ↓exBl, ↓exInt, ↓exRef, ↓dVar0, ↓dAug0, ↓dSet0, ↓dTgN0, ↓dTgW0, ↓dVar1, ↓dAug1, ↓dSet1, ↓dTgN1, ↓dTgW1, ↓dVar2, ↓dAug2, ↓dSet2, ↓dTgN2, ↓dTgW2, ↓dVar3, ↓dAug3, ↓dSet3, ↓dTgN3, ↓dTgW3, ↓dVar4, ↓dAug4, ↓dSet4, ↓dTgN4, ↓dTgW4, ↓dVar5, ↓dAug5, ↓dSet5, ↓dTgN5, ↓dTgW5, ↓dVar6, ↓dAug6, ↓dSet6, ↓dTgN6, ↓dTgW6, ↓dVar7, ↓dAug7, ↓dSet7, ↓dTgN7, ↓dTgW7, ↓dVar8, ↓dAug8, ↓dSet8, ↓dTgN8, ↓dTgW8, ↓dVar9, ↓dAug9, ↓dSet9, ↓dTgN9, ↓dTgW9, ↓dVar10, ↓dAug10, ↓dSet10, ↓dTgN10, ↓dTgW10, ↓dVar11, ↓dAug11, ↓dSet11, ↓dTgN11, ↓dTgW11, ↓dVar12, ↓dAug12, ↓dSet12, ↓dTgN12, ↓dTgW12, ↓dVar13, ↓dAug13, ↓dSet13, ↓dTgN13, ↓dTgW13, ↓dVar14, ↓dAug14, ↓dSet14, ↓dTgN14, ↓dTgW14, ↓dVar15, ↓dAug15, ↓dSet15, ↓dTgN15, ↓dTgW15, ↓dVar16, ↓dAug16, ↓dSet16, ↓dTgN16, ↓dTgW16, ↓dVar17, ↓dAug17, ↓dSet17, ↓dTgN17, ↓dTgW17, ↓dVar18, ↓dAug18, ↓dSet18, ↓dTgN18, ↓dTgW18, ↓dVar19, ↓dAug19, ↓dSet19, ↓dTgN19, ↓dTgW19, ↓dTg_t2, ↓dTg_t3, ↓exGetM, ↓exSumU, nD, plD, rwD, ↓dAdd_tup, ↓dAdd_ref, dIx_tup, dIx_str, dIx_ref, dIx_kl, dListOf_tup, dListOf_kl, dListOf_ref, dLen_tup, dLen_str, dLen_kl, dLen_ref, dTupOf_tup, dTupOf_ref, dSeqI_x, sqX_tup, sqX_ref, sqX_str, dEnumI_x, enX_tup, enX_ref, dSrtSet, dSortA, dIsi2, isT2, Bool.or_true, Bool.true_or, Bool.or_false, Bool.or_self, dReprR, dReprT, dDGet2, evD]
        obtain ⟨R, eR, asc, pR⟩ := srtN nd
        have ek : (dkN L).map (fun kv => kD kv.1) = (L.map fun n : Nat => (n : Int)).map D.int := by
          unfold dkN; rw [List.map_map, List.map_map]; rfl
        refine .inr ⟨_, .inl hr4, fun q7 hq7 => ⟨L.map fun n : Nat => (n : Int), .inl (by rw [up_same, ek]), fun q8 hq8 => ?_⟩⟩
        rw [eR, nD_ints]
        have eM : R = mrg (plO l1).length ((st0.run l1).k a) ((st0.run l1).k b) := asc_ext asc mrg_asc fun y => by
          rw [pR.mem_iff, hm y, List.mem_append]; exact (mrg_mem (n := (st0.run l1).R.length) (w.lt a) (w.lt b)).symm
        have s7 : Sub (up M3 q7 (.lst ((dkN L).map fun kv => kD kv.1))) M3 := Sub.new hq7 (by intro _ z; cases z)
        have s8 : Sub (up (up M3 q7 (.lst ((dkN L).map fun kv => kD kv.1))) q8 (.lst (R.map nD))) M3 := (Sub.new hq8 (by intro _ z; cases z)).trans s7
        have hp8 := s8.1 _ _ hp4
        have hq8' := s8.1 _ _ hq4
        have s9 := s8.trans s4
        generalize up (up M3 q7 (.lst ((dkN L).map fun kv => kD kv.1))) q8 (.lst (R.map nD)) = M8 at *
        subst eM
        have st : (st0.run (l1 ++ [.meet a b])).k = kn (kn (st0.run l1).k a (mrg (plO l1).length ((st0.run l1).k a) ((st0.run l1).k b))) b (mrg (plO l1).length ((st0.run l1).k a) ((st0.run l1).k b)) := by rw [run_snoc]; rfl
        have sp : plO (l1 ++ [.meet a b]) = plO l1 := by unfold plO; rw [run_snoc]; rfl
        generalize mrg (plO l1).length ((st0.run l1).k a) ((st0.run l1).k b) = R at *
        have hk1 := hk.put a R
        have h1a := put_len1 kvs (.inl (a : Int) : Key) (rwD R)
        refine ⟨p, rfl, .inr (.inl ⟨_, (.inl (a : Int) : Key), rfl, hp8, small1000 (by omega), .inr (.inl ⟨_, (.inl (a : Int) : Key), rwD R, rfl, .inl up_same, by rw [valD_put, if_pos rfl]; rfl, ?_⟩)⟩)⟩
        have h2a := put_len1 (putKD kvs (.inl (a : Int) : Key) (rwD R)) (.inl (b : Int) : Key) (rwD R)
        refine ⟨p, rfl, .inr (.inl ⟨_, (.inl (b : Int) : Key), rfl, up_same, small1000 (by show (putKD kvs (.inl (a : Int) : Key) (rwD R)).length ≤ 1000; omega), sb0 (hP _ _ ⟨?_, ⟨_, up_same, ?_, ?_⟩, ?_, _, _, _, _, rfl⟩)⟩)⟩
        · rw [up_up]; exact sub_at s9 hp (by intro _ z; cases z)
        · show (putKD (putKD kvs (.inl (a : Int) : Key) (rwD R)) (.inl (b : Int) : Key) (rwD R)).length ≤ _
          rw [List.length_append, List.length_singleton]; omega
        · rw [st]; exact hk1.put b R
        · rw [up_ne npq.symm, up_ne npq.symm, sp]; exact hq8'
  · rintro δ' M1 ⟨s2, ⟨kvs, hp1, lk, hk⟩, hq1, a, b, c, d, rfl⟩
    refine ⟨hg _ s2, ?_⟩
    rw [h1]
    simp (config := {failIfUnchanged := false}) only [dC, dOp, dTest, dChain, dAnd, dOr, dNot, dAndV, dOrV, dNotV, dIf, dNil, dCons, dTup, dLst, dCB, d1, dNoPart, dPart, dSl, dCut, dNeg, dSorted, dSum, dAll, dAny, dInt, dAbs, dMax, dMin, dIsi, isT, dNext, dSeq, dBrk, dCont, dNever, dExpr, dRet, dRetN, dIfS, dAsg, dPutI, dI0, dI, dIsN, dNotN, dRng1, dRng2, dRngDn, dZipI, dYes, dCall, dLM, dAppend, dExtend, dReverse, dInsert, dAugI, dRg1, dRg2, dTupRg, dLstRg, dNewK, dNewT, ↓S0_, ↓S1_, ↓S2_, ↓S3_, ↓S4_, ↓S5_, ↓S6_, List.map_cons, List.map_nil, List.length_cons, List.length_nil, List.replicate, List.cons_append, List.nil_append, Nat.reduceAdd, Nat.reduceSub, Nat.zero_add, List.getElem?_cons_zero, List.getElem?_cons_succ, Option.some.injEq, exists_eq_left, exists_eq_left', List.set_cons_zero, List.set_cons_succ, wipeD, D.int.injEq, D.bl.injEq, D.str.injEq, D.ref.injEq, D.tup.injEq, D.ty.injEq, true_and, and_true, forall_const, forall_eq', forall_eq, mt_int, mt_bool, mt_str, mt_tuple, mt_list, mt_dict, st_int_int, st_int_bool, st_int_str, st_int_tuple, st_int_list, st_int_dict, st_bool_int, st_bool_bool, st_bool_str, st_bool_tuple, st_bool_list, st_bool_dict, st_str_int, st_str_bool, st_str_str, st_str_tuple, st_str_list, st_str_dict, st_tuple_int, st_tuple_bool, st_tuple_str, st_tuple_tuple, st_tuple_list, st_tuple_dict, st_list_int, st_list_bool, st_list_str, st_list_tuple, st_list_list, st_list_dict, st_dict_int, st_dict_bool, st_dict_str, st_dict_tuple, st_dict_list, st_dict_dict, eq_self, Bool.true_eq_false, Bool.false_eq_true, false_implies, true_implies, implies_true, decide_eq_true_eq, decide_eq_false_iff_not, Bool.not_true, Bool.not_false, Bool.not_eq_true, Bool.not_eq_false, Bool.not_eq_true', Bool.not_eq_false', not_true_eq_false, not_false_eq_true, false_and, and_false, or_false, false_or, reduceCtorEq, ↓exLSu, ↓exDKu, ↓exDKd, ↓exLSd, ↓exLu, ↓dIxRu, ↓dPutu, ↓dGetAu, ↓dEq_int, ↓dNe_int, ↓dEq_bl, ↓dNe_bl, ↓dEq_str, ↓dNe_str, ↓dAdd_int, ↓exAt10, ↓exIx10, ↓exAt20, ↓exIx20, ↓exAt21, ↓exIx21, ↓exAt30, ↓exIx30, ↓exAt31, ↓exIx31, ↓exAt32, ↓exIx32, ↓exAt40, ↓exIx40, ↓exAt41, ↓exIx41, ↓exAt42, ↓exIx42, ↓exAt43, ↓exIx43, ↓exAt50, ↓exIx50, ↓exAt51, ↓exIx51, ↓exAt52, ↓exIx52, ↓exAt53, ↓exIx53, ↓exAt54, ↓exIx54, ↓exAt60, ↓exIx60, ↓exAt61, ↓exIx61, ↓exAt62, ↓exIx62, ↓exAt63, ↓exIx63, ↓exAt64, ↓exIx64, ↓exAt65, ↓exIx65, up_up, false_or, or_false, ↓exAtM, ↓dFlag_bl, ↓exBl, ↓exInt, ↓exRef, ↓dVar0, ↓dAug0, ↓dSet0, ↓dTgN0, ↓dTgW0, ↓dVar1, ↓dAug1, ↓dSet1, ↓dTgN1, ↓dTgW1, ↓dVar2, ↓dAug2, ↓dSet2, ↓dTgN2, ↓dTgW2, ↓dVar3, ↓dAug3, ↓dSet3, ↓dTgN3, ↓dTgW3, ↓dVar4, ↓dAug4, ↓dSet4, ↓dTgN4, ↓dTgW4, ↓dVar5, ↓dAug5, ↓dSet5, ↓dTgN5, ↓dTgW5, ↓dVar6, ↓dAug6, ↓dSet6, ↓dTgN6, ↓dTgW6, ↓dVar7, ↓dAug7, ↓dSet7, ↓dTgN7, ↓dTgW7, ↓dVar8, ↓dAug8, ↓dSet8, ↓dTgN8, ↓dTgW8, ↓dVar9, ↓dAug9, ↓dSet9, ↓dTgN9, ↓dTgW9, ↓dVar10, ↓dAug10, ↓dSet10, ↓dTgN10, ↓dTgW10, ↓dVar11, ↓dAug11, ↓dSet11, ↓dTgN11, ↓dTgW11, ↓dVar12, ↓dAug12, ↓dSet12, ↓dTgN12, ↓dTgW12, ↓dVar13, ↓dAug13, ↓dSet13, ↓dTgN13, ↓dTgW13, ↓dVar14, ↓dAug14, ↓dSet14, ↓dTgN14, ↓dTgW14, ↓dVar15, ↓dAug15, ↓dSet15, ↓dTgN15, ↓dTgW15, ↓dVar16, ↓dAug16, ↓dSet16, ↓dTgN16, ↓dTgW16, ↓dVar17, ↓dAug17, ↓dSet17, ↓dTgN17, ↓dTgW17, ↓dVar18, ↓dAug18, ↓dSet18, ↓dTgN18, ↓dTgW18, ↓dVar19, ↓dAug19, ↓dSet19, ↓dTgN19, ↓dTgW19, ↓dTg_t2, ↓dTg_t3, ↓exGetM, ↓exSumU, nD, plD, rwD, ↓dAdd_tup, ↓dAdd_ref, dIx_tup, dIx_str, dIx_ref, dIx_kl, dListOf_tup, dListOf_kl, dListOf_ref, dLen_tup, dLen_str, dLen_kl, dLen_ref, dTupOf_tup, dTupOf_ref, dSeqI_x, sqX_tup, sqX_ref, sqX_str, dEnumI_x, enX_tup, enX_ref, dSrtSet, dSortA, dIsi2, isT2, Bool.or_true, Bool.true_or, Bool.or_false, Bool.or_self, dReprR, dReprT, dDGet2, ↓exLS hq1]
    exact s2.dn h
end
theorem rm_sl (l : List Ev) (i : Nat) : (rm l i).Sublist l := by
  unfold rm
  rw [← List.eraseIdx_eq_take_drop_succ]
  exact List.eraseIdx_sublist _ _
theorem puts_sl {a b : List Ev} (h : a.Sublist b) : puts a ≤ puts b := (h.filter _).length_le
section
variable {P : Program} {w : World} {K : PySem.W.Frag} {mg : Str → Option Value} {base : Heap}
end
theorem Pool.sub {M M' : Hd} {x : D} (h : Pool M x) (s : Sub M' M) : Pool M' x := by
  obtain ⟨p, rfl, r, h1, h2⟩ := h
  exact ⟨p, rfl, r, s.1 _ _ h1, s.1 _ _ h2⟩
/-! ### the law's own chains of a day -/
def KL (M : Hd) (f g : Addr) (k : Nat → List Nat) : Prop := ∃ ds : List D, M f = some (.lst ds) ∧ ds.length = 16 ∧ ∀ h < 16, ∃ a, ds[h]? = some (.ref a) ∧ M a = some (.lst ((k h).map nD)) ∧ a ≠ f ∧ a ≠ g
theorem KL.sub {M M' : Hd} {f g : Addr} {k : Nat → List Nat} (h : KL M f g k) (s : Sub M' M) : KL M' f g k := by
  obtain ⟨ds, h1, h2, h3⟩ := h
  refine ⟨ds, s.1 _ _ h1, h2, fun x hx => ?_⟩
  obtain ⟨a, e1, e2, e3⟩ := h3 x hx
  exact ⟨a, e1, s.1 _ _ e2, e3⟩
theorem KL.other {M : Hd} {f g : Addr} {k : Nat → List Nat} (h : KL M f g k) (n : f ≠ g) (o : O) : KL (up M g o) f g k := by
  obtain ⟨ds, h1, h2, h3⟩ := h
  refine ⟨ds, by rw [up_ne n]; exact h1, h2, fun x hx => ?_⟩
  obtain ⟨a, e1, e2, e3, e4⟩ := h3 x hx
  exact ⟨a, e1, by rw [up_ne e4]; exact e2, e3, e4⟩
theorem KL.put {M : Hd} {f g w : Addr} {k : Nat → List Nat} {ds : List D} (h1 : M f = some (.lst ds)) (h2 : ds.length = 16) (h3 : ∀ h < 16, ∃ a, ds[h]? = some (.ref a) ∧ M a = some (.lst ((k h).map nD)) ∧ a ≠ f ∧ a ≠ g) {i : Nat} {v : List Nat} (hw : M w = some (.lst (v.map nD))) (nf : w ≠ f) (ng : w ≠ g) : KL (up M f (.lst (ds.set i (.ref w)))) f g (kn k i v) := by
  refine ⟨_, up_same, by rw [List.length_set]; exact h2, fun x hx => ?_⟩
  unfold kn
  by_cases e : x = i
  · subst e
    rw [if_pos rfl, List.getElem?_set_self (by omega)]
    exact ⟨w, rfl, by rw [up_ne nf]; exact hw, nf, ng⟩
  · rw [if_neg e, List.getElem?_set_ne (fun z => e z.symm)]
    obtain ⟨a, e1, e2, e3, e4⟩ := h3 x hx
    exact ⟨a, e1, by rw [up_ne e3]; exact e2, e3, e4⟩
section
variable {P : Program} {w : World} {K : PySem.W.Frag} {mg : Str → Option Value} {base : Heap}
theorem pr__law_chains (G : Gv K mg) : Pr P w K mg base "_law_chains" 1 ["_law_events"] (S1 fun x M Q => ∃ l, DayO M x l ∧ Q (nD (chO l)) M) := by
  refine (pr3 (k := 0) G.d__law_chains bi__law_chains sc__law_chains S1n (fun f cdv A outer s H E hr => (b_cons (s_setLc 1 (own := [("_law_hand", 4)]) rfl sc__law_chains.nd (sw_true rfl rfl rfl (by decide +kernel)) (i_rng1 (by rfl) G.b_range (a_cons e_int a_nil)) (blkOk_by (by rfl)) (fun _ _ _ _ _ => (g_nm 4 sc__law_chains.nd)) (fun _ _ _ _ _ => ts_nil) (fun _ _ _ _ _ => (e_lst a_nil)))
      (b_cons (s_set 2 sc__law_chains.nd (e_lst a_nil))
      (b_cons (s_for PassesOwn.never rfl (i_seq (e_var 0)) (g_nm 3 sc__law_chains.nd)
      (b_one (s_if (t_cmp (od_eq (hu3 hr)) (e_ix (ixd (hu_of hr)) (e_var 3) e_int) e_str) (b_cons (s_expr (e_lm PySem.F.slot_list_append PySem.F.type_list_append m_append (e_var 2) (a_cons (e_op od_add e_int (e_callB (cd_sum rfl) (by rfl) G.b_sum rfl (a_cons (e_lc (own := [("_law_item", 6)]) rfl sc__law_chains.nd (i_seq (e_ix (ixd (hu_of hr)) (e_var 1) (e_ix (ixd (hu_of hr)) (e_var 3) e_int))) (blkOk_by (by rfl)) (fun _ _ _ _ _ => (g_nm 6 sc__law_chains.nd)) (fun _ _ _ _ _ => ts_nil) (fun _ _ _ _ _ => (e_ix (ixd (hu_of hr)) (e_var 2) (e_var 6)))) a_nil))) a_nil)))
      (b_one (s_put (put3 (hu_of hr)) (e_var 1) (e_ix (ixd (hu_of hr)) (e_var 3) e_int) (e_op od_add (e_ix (ixd (hu_of hr)) (e_var 1) (e_ix (ixd (hu_of hr)) (e_var 3) e_int)) (e_lst (a_cons (e_op od_sub (e_callB cd_len (by rfl) G.b_len rfl (a_cons (e_var 2) a_nil)) e_int) a_nil)))))) (b_cons (s_set 5 sc__law_chains.nd (e_srtSet rfl (by rfl) G.b_sorted (by rfl) G.b_set (e_op od_add (e_ix (ixd (hu_of hr)) (e_var 1) (e_ix (ixd (hu_of hr)) (e_var 3) e_int)) (e_ix (ixd (hu_of hr)) (e_var 1) (e_ix (ixd (hu_of hr)) (e_var 3) e_int)))))
      (b_cons (s_put (put3 (hu_of hr)) (e_var 1) (e_ix (ixd (hu_of hr)) (e_var 3) e_int) (e_var 5))
      (b_one (s_put (put3 (hu_of hr)) (e_var 1) (e_ix (ixd (hu_of hr)) (e_var 3) e_int) (e_var 5))))))))
      (b_one (s_ret (e_callB (cd_sum rfl) (by rfl) G.b_sum rfl (a_cons (e_var 2) a_nil))))))))) ?_
  rintro _ M Q E ⟨x, rfl, l, hd, h⟩ H rep
  refine ⟨M, rep, fun _ h => h, ?_⟩
  have h60 := hd.len
  have h40 := hd.pt
  simp only [startD, List.map_cons, List.map_nil, List.length_cons, List.length_nil, Nat.reduceAdd, Nat.reduceSub, Nat.zero_add, List.replicate, List.cons_append, List.nil_append]; simp (config := {failIfUnchanged := false}) only [dC, dOp, dTest, dChain, dAnd, dOr, dNot, dAndV, dOrV, dNotV, dIf, dNil, dCons, dTup, dLst, dCB, d1, dNoPart, dPart, dSl, dCut, dNeg, dSorted, dSum, dAll, dAny, dInt, dAbs, dMax, dMin, dIsi, isT, dNext, dSeq, dBrk, dCont, dNever, dExpr, dRet, dRetN, dIfS, dAsg, dPutI, dI0, dI, dIsN, dNotN, dRng1, dRng2, dRngDn, dZipI, dYes, dCall, dLM, dAppend, dExtend, dReverse, dInsert, dAugI, dRg1, dRg2, dTupRg, dLstRg, dNewK, dNewT, ↓S0_, ↓S1_, ↓S2_, ↓S3_, ↓S4_, ↓S5_, ↓S6_, List.map_cons, List.map_nil, List.length_cons, List.length_nil, List.replicate, List.cons_append, List.nil_append, Nat.reduceAdd, Nat.reduceSub, Nat.zero_add, List.getElem?_cons_zero, List.getElem?_cons_succ, Option.some.injEq, exists_eq_left, exists_eq_left', List.set_cons_zero, List.set_cons_succ, wipeD, D.int.injEq, D.bl.injEq, D.str.injEq, D.ref.injEq, D.tup.injEq, D.ty.injEq, true_and, and_true, forall_const, forall_eq', forall_eq, mt_int, mt_bool, mt_str, mt_tuple, mt_list, mt_dict, st_int_int, st_int_bool, st_int_str, st_int_tuple, st_int_list, st_int_dict, st_bool_int, st_bool_bool, st_bool_str, st_bool_tuple, st_bool_list, st_bool_dict, st_str_int, st_str_bool, st_str_str, st_str_tuple, st_str_list, st_str_dict, st_tuple_int, st_tuple_bool, st_tuple_str, st_tuple_tuple, st_tuple_list, st_tuple_dict, st_list_int, st_list_bool, st_list_str, st_list_tuple, st_list_list, st_list_dict, st_dict_int, st_dict_bool, st_dict_str, st_dict_tuple, st_dict_list, st_dict_dict, eq_self, Bool.true_eq_false, Bool.false_eq_true, false_implies, true_implies, implies_true, decide_eq_true_eq, decide_eq_false_iff_not, Bool.not_true, Bool.not_false, Bool.not_eq_true, Bool.not_eq_false, Bool.not_eq_true', Bool.not_eq_false', not_true_eq_false, not_false_eq_true, false_and, and_false, or_false, false_or, reduceCtorEq, ↓exLSu, ↓exDKu, ↓exDKd, ↓exLSd, ↓exLu, ↓dIxRu, ↓dPutu, ↓dGetAu, ↓dEq_int, ↓dNe_int, ↓dEq_bl, ↓dNe_bl, ↓dEq_str, ↓dNe_str, ↓dAdd_int, ↓exAt10, ↓exIx10, ↓exAt20, ↓exIx20, ↓exAt21, ↓exIx21, ↓exAt30, ↓exIx30, ↓exAt31, ↓exIx31, ↓exAt32, ↓exIx32, ↓exAt40, ↓exIx40, ↓exAt41, ↓exIx41, ↓exAt42, ↓exIx42, ↓exAt43, ↓exIx43, ↓exAt50, ↓exIx50, ↓exAt51, ↓exIx51, ↓exAt52, ↓exIx52, ↓exAt53, ↓exIx53, ↓exAt54, ↓exIx54, ↓exAt60, ↓exIx60, ↓exAt61, ↓exIx61, ↓exAt62, ↓exIx62, ↓exAt63, ↓exIx63, ↓exAt64, ↓exIx64, ↓exAt65, ↓exIx65, up_up, false_or, or_false, ↓exAtM, ↓dFlag_bl, ↓exBl, ↓exInt, ↓exRef, ↓dVar0, ↓dAug0, ↓dSet0, ↓dTgN0, ↓dTgW0, ↓dVar1, ↓dAug1, ↓dSet1, ↓dTgN1, ↓dTgW1, ↓dVar2, ↓dAug2, ↓dSet2, ↓dTgN2, ↓dTgW2, ↓dVar3, ↓dAug3, ↓dSet3, ↓dTgN3, ↓dTgW3, ↓dVar4, ↓dAug4, ↓dSet4, ↓dTgN4, ↓dTgW4, ↓dVar5, ↓dAug5, ↓dSet5, ↓dTgN5, ↓dTgW5, ↓dVar6, ↓dAug6, ↓dSet6, ↓dTgN6, ↓dTgW6, ↓dVar7, ↓dAug7, ↓dSet7, ↓dTgN7, ↓dTgW7, ↓dVar8, ↓dAug8, ↓dSet8, ↓dTgN8, ↓dTgW8, ↓dVar9, ↓dAug9, ↓dSet9, ↓dTgN9, ↓dTgW9, ↓dVar10, ↓dAug10, ↓dSet10, ↓dTgN10, ↓dTgW10, ↓dVar11, ↓dAug11, ↓dSet11, ↓dTgN11, ↓dTgW11, ↓dVar12, ↓dAug12, ↓dSet12, ↓dTgN12, ↓dTgW12, ↓dVar13, ↓dAug13, ↓dSet13, ↓dTgN13, ↓dTgW13, ↓dVar14, ↓dAug14, ↓dSet14, ↓dTgN14, ↓dTgW14, ↓dVar15, ↓dAug15, ↓dSet15, ↓dTgN15, ↓dTgW15, ↓dVar16, ↓dAug16, ↓dSet16, ↓dTgN16, ↓dTgW16, ↓dVar17, ↓dAug17, ↓dSet17, ↓dTgN17, ↓dTgW17, ↓dVar18, ↓dAug18, ↓dSet18, ↓dTgN18, ↓dTgW18, ↓dVar19, ↓dAug19, ↓dSet19, ↓dTgN19, ↓dTgW19, ↓dTg_t2, ↓dTg_t3, ↓exGetM, ↓exSumU, nD, plD, rwD, ↓dAdd_tup, ↓dAdd_ref, dIx_tup, dIx_str, dIx_ref, dIx_kl, dListOf_tup, dListOf_kl, dListOf_ref, dLen_tup, dLen_str, dLen_kl, dLen_ref, dTupOf_tup, dTupOf_ref, dSeqI_x, sqX_tup, sqX_ref, sqX_str, dEnumI_x, enX_tup, enX_ref, dSrtSet, dSortA, dIsi2, isT2, Bool.or_true, Bool.true_or, Bool.or_false, Bool.or_self, dReprR, dReprT, dDGet2]
  refine dLc_g fun F1 T1 U1 h1 t1 u1 => ?_; simp only [dLc, dC, dOp, dTest, dChain, dAnd, dOr, dNot, dAndV, dOrV, dNotV, dIf, dNil, dCons, dTup, dLst, dCB, d1, dNoPart, dPart, dSl, dCut, dNeg, dSorted, dSum, dAll, dAny, dInt, dAbs, dMax, dMin, dIsi, isT, dNext, dSeq, dBrk, dCont, dNever, dExpr, dRet, dRetN, dIfS, dAsg, dPutI, dI0, dI, dIsN, dNotN, dRng1, dRng2, dRngDn, dZipI, dYes, dCall, dLM, dAppend, dExtend, dReverse, dInsert, dAugI, dRg1, dRg2, dTupRg, dLstRg, dNewK, dNewT, ↓S0_, ↓S1_, ↓S2_, ↓S3_, ↓S4_, ↓S5_, ↓S6_, List.map_cons, List.map_nil, List.length_cons, List.length_nil, List.replicate, List.cons_append, List.nil_append, Nat.reduceAdd, Nat.reduceSub, Nat.zero_add, List.getElem?_cons_zero, List.getElem?_cons_succ, Option.some.injEq, exists_eq_left, exists_eq_left', List.set_cons_zero, List.set_cons_succ, wipeD, D.int.injEq, D.bl.injEq, D.str.injEq, D.ref.injEq, D.tup.injEq, D.ty.injEq, true_and, and_true, forall_const, forall_eq', forall_eq, mt_int, mt_bool, mt_str, mt_tuple, mt_list, mt_dict, st_int_int, st_int_bool, st_int_str, st_int_tuple, st_int_list, st_int_dict, st_bool_int, st_bool_bool, st_bool_str, st_bool_tuple, st_bool_list, st_bool_dict, st_str_int, st_str_bool, st_str_str, st_str_tuple, st_str_list, st_str_dict, st_tuple_int, st_tuple_bool, st_tuple_str, st_tuple_tuple, st_tuple_list, st_tuple_dict, st_list_int, st_list_bool, st_list_str, st_list_tuple, st_list_list, st_list_dict, st_dict_int, st_dict_bool, st_dict_str, st_dict_tuple, st_dict_list, st_dict_dict, eq_self, Bool.true_eq_false, Bool.false_eq_true, false_implies, true_implies, implies_true, decide_eq_true_eq, decide_eq_false_iff_not, Bool.not_true, Bool.not_false, Bool.not_eq_true, Bool.not_eq_false, Bool.not_eq_true', Bool.not_eq_false', not_true_eq_false, not_false_eq_true, false_and, and_false, or_false, false_or, reduceCtorEq, ↓exLSu, ↓exDKu, ↓exDKd, ↓exLSd, ↓exLu, ↓dIxRu, ↓dPutu, ↓dGetAu, ↓dEq_int, ↓dNe_int, ↓dEq_bl, ↓dNe_bl, ↓dEq_str, ↓dNe_str, ↓dAdd_int, ↓exAt10, ↓exIx10, ↓exAt20, ↓exIx20, ↓exAt21, ↓exIx21, ↓exAt30, ↓exIx30, ↓exAt31, ↓exIx31, ↓exAt32, ↓exIx32, ↓exAt40, ↓exIx40, ↓exAt41, ↓exIx41, ↓exAt42, ↓exIx42, ↓exAt43, ↓exIx43, ↓exAt50, ↓exIx50, ↓exAt51, ↓exIx51, ↓exAt52, ↓exIx52, ↓exAt53, ↓exIx53, ↓exAt54, ↓exIx54, ↓exAt60, ↓exIx60, ↓exAt61, ↓exIx61, ↓exAt62, ↓exIx62, ↓exAt63, ↓exIx63, ↓exAt64, ↓exIx64, ↓exAt65, ↓exIx65, up_up, false_or, or_false, ↓exAtM, ↓dFlag_bl, ↓exBl, ↓exInt, ↓exRef, ↓dVar0, ↓dAug0, ↓dSet0, ↓dTgN0, ↓dTgW0, ↓dVar1, ↓dAug1, ↓dSet1, ↓dTgN1, ↓dTgW1, ↓dVar2, ↓dAug2, ↓dSet2, ↓dTgN2, ↓dTgW2, ↓dVar3, ↓dAug3, ↓dSet3, ↓dTgN3, ↓dTgW3, ↓dVar4, ↓dAug4, ↓dSet4, ↓dTgN4, ↓dTgW4, ↓dVar5, ↓dAug5, ↓dSet5, ↓dTgN5, ↓dTgW5, ↓dVar6, ↓dAug6, ↓dSet6, ↓dTgN6, ↓dTgW6, ↓dVar7, ↓dAug7, ↓dSet7, ↓dTgN7, ↓dTgW7, ↓dVar8, ↓dAug8, ↓dSet8, ↓dTgN8, ↓dTgW8, ↓dVar9, ↓dAug9, ↓dSet9, ↓dTgN9, ↓dTgW9, ↓dVar10, ↓dAug10, ↓dSet10, ↓dTgN10, ↓dTgW10, ↓dVar11, ↓dAug11, ↓dSet11, ↓dTgN11, ↓dTgW11, ↓dVar12, ↓dAug12, ↓dSet12, ↓dTgN12, ↓dTgW12, ↓dVar13, ↓dAug13, ↓dSet13, ↓dTgN13, ↓dTgW13, ↓dVar14, ↓dAug14, ↓dSet14, ↓dTgN14, ↓dTgW14, ↓dVar15, ↓dAug15, ↓dSet15, ↓dTgN15, ↓dTgW15, ↓dVar16, ↓dAug16, ↓dSet16, ↓dTgN16, ↓dTgW16, ↓dVar17, ↓dAug17, ↓dSet17, ↓dTgN17, ↓dTgW17, ↓dVar18, ↓dAug18, ↓dSet18, ↓dTgN18, ↓dTgW18, ↓dVar19, ↓dAug19, ↓dSet19, ↓dTgN19, ↓dTgW19, ↓dTg_t2, ↓dTg_t3, ↓exGetM, ↓exSumU, nD, plD, rwD, ↓dAdd_tup, ↓dAdd_ref, dIx_tup, dIx_str, dIx_ref, dIx_kl, dListOf_tup, dListOf_kl, dListOf_ref, dLen_tup, dLen_str, dLen_kl, dLen_ref, dTupOf_tup, dTupOf_ref, dSeqI_x, sqX_tup, sqX_ref, sqX_str, dEnumI_x, enX_tup, enX_ref, dSrtSet, dSortA, dIsi2, isT2, Bool.or_true, Bool.true_or, Bool.or_false, Bool.or_self, dReprR, dReprT, dDGet2]
  rw [show ((16 : Int)) = ((16 : Nat) : Int) from rfl, rng0]
  refine ⟨by omega, by rw [List.length_map]; exact Nat.le_of_lt (small1000 (by rw [List.length_range]; omega)), lcN (fun i acc M' => ∃ refs : List Addr, acc = refs.map D.ref ∧ refs.length = i ∧ MGrid M M' refs (List.replicate i [])) ⟨[], rfl, rfl, Sub.refl, .nil, rfl, by simp⟩ (fun i x acc M1 pre P' hx hI hP => ?_) (fun acc M1 hI f hf => ?_)⟩
  · obtain ⟨refs, rfl, hl, g⟩ := hI
    subst t1; subst u1
    simp (config := {failIfUnchanged := false}) only [dC, dOp, dTest, dChain, dAnd, dOr, dNot, dAndV, dOrV, dNotV, dIf, dNil, dCons, dTup, dLst, dCB, d1, dNoPart, dPart, dSl, dCut, dNeg, dSorted, dSum, dAll, dAny, dInt, dAbs, dMax, dMin, dIsi, isT, dNext, dSeq, dBrk, dCont, dNever, dExpr, dRet, dRetN, dIfS, dAsg, dPutI, dI0, dI, dIsN, dNotN, dRng1, dRng2, dRngDn, dZipI, dYes, dCall, dLM, dAppend, dExtend, dReverse, dInsert, dAugI, dRg1, dRg2, dTupRg, dLstRg, dNewK, dNewT, ↓S0_, ↓S1_, ↓S2_, ↓S3_, ↓S4_, ↓S5_, ↓S6_, List.map_cons, List.map_nil, List.length_cons, List.length_nil, List.replicate, List.cons_append, List.nil_append, Nat.reduceAdd, Nat.reduceSub, Nat.zero_add, List.getElem?_cons_zero, List.getElem?_cons_succ, Option.some.injEq, exists_eq_left, exists_eq_left', List.set_cons_zero, List.set_cons_succ, wipeD, D.int.injEq, D.bl.injEq, D.str.injEq, D.ref.injEq, D.tup.injEq, D.ty.injEq, true_and, and_true, forall_const, forall_eq', forall_eq, mt_int, mt_bool, mt_str, mt_tuple, mt_list, mt_dict, st_int_int, st_int_bool, st_int_str, st_int_tuple, st_int_list, st_int_dict, st_bool_int, st_bool_bool, st_bool_str, st_bool_tuple, st_bool_list, st_bool_dict, st_str_int, st_str_bool, st_str_str, st_str_tuple, st_str_list, st_str_dict, st_tuple_int, st_tuple_bool, st_tuple_str, st_tuple_tuple, st_tuple_list, st_tuple_dict, st_list_int, st_list_bool, st_list_str, st_list_tuple, st_list_list, st_list_dict, st_dict_int, st_dict_bool, st_dict_str, st_dict_tuple, st_dict_list, st_dict_dict, eq_self, Bool.true_eq_false, Bool.false_eq_true, false_implies, true_implies, implies_true, decide_eq_true_eq, decide_eq_false_iff_not, Bool.not_true, Bool.not_false, Bool.not_eq_true, Bool.not_eq_false, Bool.not_eq_true', Bool.not_eq_false', not_true_eq_false, not_false_eq_true, false_and, and_false, or_false, false_or, reduceCtorEq, ↓exLSu, ↓exDKu, ↓exDKd, ↓exLSd, ↓exLu, ↓dIxRu, ↓dPutu, ↓dGetAu, ↓dEq_int, ↓dNe_int, ↓dEq_bl, ↓dNe_bl, ↓dEq_str, ↓dNe_str, ↓dAdd_int, ↓exAt10, ↓exIx10, ↓exAt20, ↓exIx20, ↓exAt21, ↓exIx21, ↓exAt30, ↓exIx30, ↓exAt31, ↓exIx31, ↓exAt32, ↓exIx32, ↓exAt40, ↓exIx40, ↓exAt41, ↓exIx41, ↓exAt42, ↓exIx42, ↓exAt43, ↓exIx43, ↓exAt50, ↓exIx50, ↓exAt51, ↓exIx51, ↓exAt52, ↓exIx52, ↓exAt53, ↓exIx53, ↓exAt54, ↓exIx54, ↓exAt60, ↓exIx60, ↓exAt61, ↓exIx61, ↓exAt62, ↓exIx62, ↓exAt63, ↓exIx63, ↓exAt64, ↓exIx64, ↓exAt65, ↓exIx65, up_up, false_or, or_false, ↓exAtM, ↓dFlag_bl, ↓exBl, ↓exInt, ↓exRef, ↓dVar0, ↓dAug0, ↓dSet0, ↓dTgN0, ↓dTgW0, ↓dVar1, ↓dAug1, ↓dSet1, ↓dTgN1, ↓dTgW1, ↓dVar2, ↓dAug2, ↓dSet2, ↓dTgN2, ↓dTgW2, ↓dVar3, ↓dAug3, ↓dSet3, ↓dTgN3, ↓dTgW3, ↓dVar4, ↓dAug4, ↓dSet4, ↓dTgN4, ↓dTgW4, ↓dVar5, ↓dAug5, ↓dSet5, ↓dTgN5, ↓dTgW5, ↓dVar6, ↓dAug6, ↓dSet6, ↓dTgN6, ↓dTgW6, ↓dVar7, ↓dAug7, ↓dSet7, ↓dTgN7, ↓dTgW7, ↓dVar8, ↓dAug8, ↓dSet8, ↓dTgN8, ↓dTgW8, ↓dVar9, ↓dAug9, ↓dSet9, ↓dTgN9, ↓dTgW9, ↓dVar10, ↓dAug10, ↓dSet10, ↓dTgN10, ↓dTgW10, ↓dVar11, ↓dAug11, ↓dSet11, ↓dTgN11, ↓dTgW11, ↓dVar12, ↓dAug12, ↓dSet12, ↓dTgN12, ↓dTgW12, ↓dVar13, ↓dAug13, ↓dSet13, ↓dTgN13, ↓dTgW13, ↓dVar14, ↓dAug14, ↓dSet14, ↓dTgN14, ↓dTgW14, ↓dVar15, ↓dAug15, ↓dSet15, ↓dTgN15, ↓dTgW15, ↓dVar16, ↓dAug16, ↓dSet16, ↓dTgN16, ↓dTgW16, ↓dVar17, ↓dAug17, ↓dSet17, ↓dTgN17, ↓dTgW17, ↓dVar18, ↓dAug18, ↓dSet18, ↓dTgN18, ↓dTgW18, ↓dVar19, ↓dAug19, ↓dSet19, ↓dTgN19, ↓dTgW19, ↓dTg_t2, ↓dTg_t3, ↓exGetM, ↓exSumU, nD, plD, rwD, ↓dAdd_tup, ↓dAdd_ref, dIx_tup, dIx_str, dIx_ref, dIx_kl, dListOf_tup, dListOf_kl, dListOf_ref, dLen_tup, dLen_str, dLen_kl, dLen_ref, dTupOf_tup, dTupOf_ref, dSeqI_x, sqX_tup, sqX_ref, sqX_str, dEnumI_x, enX_tup, enX_ref, dSrtSet, dSortA, dIsi2, isT2, Bool.or_true, Bool.true_or, Bool.or_false, Bool.or_self, dReprR, dReprT, dDGet2]
    refine fun w hw => sb0 (hP _ _ ⟨refs ++ [w], by rw [List.map_append]; rfl, by rw [List.length_append, hl]; rfl, ?_⟩)
    have := g.add hw []
    rw [List.replicate_succ']
    exact this
  obtain ⟨refs, rfl, hl, g⟩ := hI
  rw [List.length_map, List.length_range] at hl g
  rw [h1]; clear h1 t1 u1
  simp (config := {failIfUnchanged := false}) only [dC, dOp, dTest, dChain, dAnd, dOr, dNot, dAndV, dOrV, dNotV, dIf, dNil, dCons, dTup, dLst, dCB, d1, dNoPart, dPart, dSl, dCut, dNeg, dSorted, dSum, dAll, dAny, dInt, dAbs, dMax, dMin, dIsi, isT, dNext, dSeq, dBrk, dCont, dNever, dExpr, dRet, dRetN, dIfS, dAsg, dPutI, dI0, dI, dIsN, dNotN, dRng1, dRng2, dRngDn, dZipI, dYes, dCall, dLM, dAppend, dExtend, dReverse, dInsert, dAugI, dRg1, dRg2, dTupRg, dLstRg, dNewK, dNewT, ↓S0_, ↓S1_, ↓S2_, ↓S3_, ↓S4_, ↓S5_, ↓S6_, List.map_cons, List.map_nil, List.length_cons, List.length_nil, List.replicate, List.cons_append, List.nil_append, Nat.reduceAdd, Nat.reduceSub, Nat.zero_add, List.getElem?_cons_zero, List.getElem?_cons_succ, Option.some.injEq, exists_eq_left, exists_eq_left', List.set_cons_zero, List.set_cons_succ, wipeD, D.int.injEq, D.bl.injEq, D.str.injEq, D.ref.injEq, D.tup.injEq, D.ty.injEq, true_and, and_true, forall_const, forall_eq', forall_eq, mt_int, mt_bool, mt_str, mt_tuple, mt_list, mt_dict, st_int_int, st_int_bool, st_int_str, st_int_tuple, st_int_list, st_int_dict, st_bool_int, st_bool_bool, st_bool_str, st_bool_tuple, st_bool_list, st_bool_dict, st_str_int, st_str_bool, st_str_str, st_str_tuple, st_str_list, st_str_dict, st_tuple_int, st_tuple_bool, st_tuple_str, st_tuple_tuple, st_tuple_list, st_tuple_dict, st_list_int, st_list_bool, st_list_str, st_list_tuple, st_list_list, st_list_dict, st_dict_int, st_dict_bool, st_dict_str, st_dict_tuple, st_dict_list, st_dict_dict, eq_self, Bool.true_eq_false, Bool.false_eq_true, false_implies, true_implies, implies_true, decide_eq_true_eq, decide_eq_false_iff_not, Bool.not_true, Bool.not_false, Bool.not_eq_true, Bool.not_eq_false, Bool.not_eq_true', Bool.not_eq_false', not_true_eq_false, not_false_eq_true, false_and, and_false, or_false, false_or, reduceCtorEq, ↓exLSu, ↓exDKu, ↓exDKd, ↓exLSd, ↓exLu, ↓dIxRu, ↓dPutu, ↓dGetAu, ↓dEq_int, ↓dNe_int, ↓dEq_bl, ↓dNe_bl, ↓dEq_str, ↓dNe_str, ↓dAdd_int, ↓exAt10, ↓exIx10, ↓exAt20, ↓exIx20, ↓exAt21, ↓exIx21, ↓exAt30, ↓exIx30, ↓exAt31, ↓exIx31, ↓exAt32, ↓exIx32, ↓exAt40, ↓exIx40, ↓exAt41, ↓exIx41, ↓exAt42, ↓exIx42, ↓exAt43, ↓exIx43, ↓exAt50, ↓exIx50, ↓exAt51, ↓exIx51, ↓exAt52, ↓exIx52, ↓exAt53, ↓exIx53, ↓exAt54, ↓exIx54, ↓exAt60, ↓exIx60, ↓exAt61, ↓exIx61, ↓exAt62, ↓exIx62, ↓exAt63, ↓exIx63, ↓exAt64, ↓exIx64, ↓exAt65, ↓exIx65, up_up, false_or, or_false, ↓exAtM, ↓dFlag_bl, ↓exBl, ↓exInt, ↓exRef, ↓dVar0, ↓dAug0, ↓dSet0, ↓dTgN0, ↓dTgW0, ↓dVar1, ↓dAug1, ↓dSet1, ↓dTgN1, ↓dTgW1, ↓dVar2, ↓dAug2, ↓dSet2, ↓dTgN2, ↓dTgW2, ↓dVar3, ↓dAug3, ↓dSet3, ↓dTgN3, ↓dTgW3, ↓dVar4, ↓dAug4, ↓dSet4, ↓dTgN4, ↓dTgW4, ↓dVar5, ↓dAug5, ↓dSet5, ↓dTgN5, ↓dTgW5, ↓dVar6, ↓dAug6, ↓dSet6, ↓dTgN6, ↓dTgW6, ↓dVar7, ↓dAug7, ↓dSet7, ↓dTgN7, ↓dTgW7, ↓dVar8, ↓dAug8, ↓dSet8, ↓dTgN8, ↓dTgW8, ↓dVar9, ↓dAug9, ↓dSet9, ↓dTgN9, ↓dTgW9, ↓dVar10, ↓dAug10, ↓dSet10, ↓dTgN10, ↓dTgW10, ↓dVar11, ↓dAug11, ↓dSet11, ↓dTgN11, ↓dTgW11, ↓dVar12, ↓dAug12, ↓dSet12, ↓dTgN12, ↓dTgW12, ↓dVar13, ↓dAug13, ↓dSet13, ↓dTgN13, ↓dTgW13, ↓dVar14, ↓dAug14, ↓dSet14, ↓dTgN14, ↓dTgW14, ↓dVar15, ↓dAug15, ↓dSet15, ↓dTgN15, ↓dTgW15, ↓dVar16, ↓dAug16, ↓dSet16, ↓dTgN16, ↓dTgW16, ↓dVar17, ↓dAug17, ↓dSet17, ↓dTgN17, ↓dTgW17, ↓dVar18, ↓dAug18, ↓dSet18, ↓dTgN18, ↓dTgW18, ↓dVar19, ↓dAug19, ↓dSet19, ↓dTgN19, ↓dTgW19, ↓dTg_t2, ↓dTg_t3, ↓exGetM, ↓exSumU, nD, plD, rwD, ↓dAdd_tup, ↓dAdd_ref, dIx_tup, dIx_str, dIx_ref, dIx_kl, dListOf_tup, dListOf_kl, dListOf_ref, dLen_tup, dLen_str, dLen_kl, dLen_ref, dTupOf_tup, dTupOf_ref, dSeqI_x, sqX_tup, sqX_ref, sqX_str, dEnumI_x, enX_tup, enX_ref, dSrtSet, dSortA, dIsi2, isT2, Bool.or_true, Bool.true_or, Bool.or_false, Bool.or_self, dReprR, dReprT, dDGet2]
  intro e he
  have hf0 : M f = none := g.1.free hf
  have nfe : f ≠ e := by rintro rfl; rw [up_same] at he; cases he
  have he1 : M1 e = none := by rw [up_ne nfe.symm] at he; exact he
  have he0 : M e = none := g.1.free he1
  have s1 : Sub (up (up M1 f (.lst (refs.map D.ref))) e (.lst [])) M := sub_at (sub_at g.1 hf0 (by intro _ z; cases z)) he0 (by intro _ z; cases z)
  have kl : KL (up (up M1 f (.lst (refs.map D.ref))) e (.lst [])) f e st0.k := by
    refine ⟨refs.map D.ref, by rw [up_ne nfe, up_same], by rw [List.length_map]; exact hl, fun h hh => ?_⟩
    have hr : refs[h]? = some refs[h] := List.getElem?_eq_getElem (by omega)
    have hc := (g.2.2.2 h _ [] hr (by rw [List.getElem?_replicate, if_pos hh])).2
    have n1 : refs[h] ≠ f := fun z => by rw [z, hf] at hc; cases hc
    have n2 : refs[h] ≠ e := fun z => by rw [z, he1] at hc; cases hc
    exact ⟨refs[h], by rw [List.getElem?_map, hr]; rfl, by rw [up_ne n2, up_ne n1]; exact hc, n1, n2⟩
  have hes : up (up M1 f (.lst (refs.map D.ref))) e (.lst []) e = some (.lst []) := up_same
  generalize up (up M1 f (.lst (refs.map D.ref))) e (.lst []) = M2 at *
  clear g hl
  refine dFor_g fun F1 T1 h1 t1 => ?_; simp only [dFor, dC, dOp, dTest, dChain, dAnd, dOr, dNot, dAndV, dOrV, dNotV, dIf, dNil, dCons, dTup, dLst, dCB, d1, dNoPart, dPart, dSl, dCut, dNeg, dSorted, dSum, dAll, dAny, dInt, dAbs, dMax, dMin, dIsi, isT, dNext, dSeq, dBrk, dCont, dNever, dExpr, dRet, dRetN, dIfS, dAsg, dPutI, dI0, dI, dIsN, dNotN, dRng1, dRng2, dRngDn, dZipI, dYes, dCall, dLM, dAppend, dExtend, dReverse, dInsert, dAugI, dRg1, dRg2, dTupRg, dLstRg, dNewK, dNewT, ↓S0_, ↓S1_, ↓S2_, ↓S3_, ↓S4_, ↓S5_, ↓S6_, List.map_cons, List.map_nil, List.length_cons, List.length_nil, List.replicate, List.cons_append, List.nil_append, Nat.reduceAdd, Nat.reduceSub, Nat.zero_add, List.getElem?_cons_zero, List.getElem?_cons_succ, Option.some.injEq, exists_eq_left, exists_eq_left', List.set_cons_zero, List.set_cons_succ, wipeD, D.int.injEq, D.bl.injEq, D.str.injEq, D.ref.injEq, D.tup.injEq, D.ty.injEq, true_and, and_true, forall_const, forall_eq', forall_eq, mt_int, mt_bool, mt_str, mt_tuple, mt_list, mt_dict, st_int_int, st_int_bool, st_int_str, st_int_tuple, st_int_list, st_int_dict, st_bool_int, st_bool_bool, st_bool_str, st_bool_tuple, st_bool_list, st_bool_dict, st_str_int, st_str_bool, st_str_str, st_str_tuple, st_str_list, st_str_dict, st_tuple_int, st_tuple_bool, st_tuple_str, st_tuple_tuple, st_tuple_list, st_tuple_dict, st_list_int, st_list_bool, st_list_str, st_list_tuple, st_list_list, st_list_dict, st_dict_int, st_dict_bool, st_dict_str, st_dict_tuple, st_dict_list, st_dict_dict, eq_self, Bool.true_eq_false, Bool.false_eq_true, false_implies, true_implies, implies_true, decide_eq_true_eq, decide_eq_false_iff_not, Bool.not_true, Bool.not_false, Bool.not_eq_true, Bool.not_eq_false, Bool.not_eq_true', Bool.not_eq_false', not_true_eq_false, not_false_eq_true, false_and, and_false, or_false, false_or, reduceCtorEq, ↓exLSu, ↓exDKu, ↓exDKd, ↓exLSd, ↓exLu, ↓dIxRu, ↓dPutu, ↓dGetAu, ↓dEq_int, ↓dNe_int, ↓dEq_bl, ↓dNe_bl, ↓dEq_str, ↓dNe_str, ↓dAdd_int, ↓exAt10, ↓exIx10, ↓exAt20, ↓exIx20, ↓exAt21, ↓exIx21, ↓exAt30, ↓exIx30, ↓exAt31, ↓exIx31, ↓exAt32, ↓exIx32, ↓exAt40, ↓exIx40, ↓exAt41, ↓exIx41, ↓exAt42, ↓exIx42, ↓exAt43, ↓exIx43, ↓exAt50, ↓exIx50, ↓exAt51, ↓exIx51, ↓exAt52, ↓exIx52, ↓exAt53, ↓exIx53, ↓exAt54, ↓exIx54, ↓exAt60, ↓exIx60, ↓exAt61, ↓exIx61, ↓exAt62, ↓exIx62, ↓exAt63, ↓exIx63, ↓exAt64, ↓exIx64, ↓exAt65, ↓exIx65, up_up, false_or, or_false, ↓exAtM, ↓dFlag_bl, ↓exBl, ↓exInt, ↓exRef, ↓dVar0, ↓dAug0, ↓dSet0, ↓dTgN0, ↓dTgW0, ↓dVar1, ↓dAug1, ↓dSet1, ↓dTgN1, ↓dTgW1, ↓dVar2, ↓dAug2, ↓dSet2, ↓dTgN2, ↓dTgW2, ↓dVar3, ↓dAug3, ↓dSet3, ↓dTgN3, ↓dTgW3, ↓dVar4, ↓dAug4, ↓dSet4, ↓dTgN4, ↓dTgW4, ↓dVar5, ↓dAug5, ↓dSet5, ↓dTgN5, ↓dTgW5, ↓dVar6, ↓dAug6, ↓dSet6, ↓dTgN6, ↓dTgW6, ↓dVar7, ↓dAug7, ↓dSet7, ↓dTgN7, ↓dTgW7, ↓dVar8, ↓dAug8, ↓dSet8, ↓dTgN8, ↓dTgW8, ↓dVar9, ↓dAug9, ↓dSet9, ↓dTgN9, ↓dTgW9, ↓dVar10, ↓dAug10, ↓dSet10, ↓dTgN10, ↓dTgW10, ↓dVar11, ↓dAug11, ↓dSet11, ↓dTgN11, ↓dTgW11, ↓dVar12, ↓dAug12, ↓dSet12, ↓dTgN12, ↓dTgW12, ↓dVar13, ↓dAug13, ↓dSet13, ↓dTgN13, ↓dTgW13, ↓dVar14, ↓dAug14, ↓dSet14, ↓dTgN14, ↓dTgW14, ↓dVar15, ↓dAug15, ↓dSet15, ↓dTgN15, ↓dTgW15, ↓dVar16, ↓dAug16, ↓dSet16, ↓dTgN16, ↓dTgW16, ↓dVar17, ↓dAug17, ↓dSet17, ↓dTgN17, ↓dTgW17, ↓dVar18, ↓dAug18, ↓dSet18, ↓dTgN18, ↓dTgW18, ↓dVar19, ↓dAug19, ↓dSet19, ↓dTgN19, ↓dTgW19, ↓dTg_t2, ↓dTg_t3, ↓exGetM, ↓exSumU, nD, plD, rwD, ↓dAdd_tup, ↓dAdd_ref, dIx_tup, dIx_str, dIx_ref, dIx_kl, dListOf_tup, dListOf_kl, dListOf_ref, dLen_tup, dLen_str, dLen_kl, dLen_ref, dTupOf_tup, dTupOf_ref, dSeqI_x, sqX_tup, sqX_ref, sqX_str, dEnumI_x, enX_tup, enX_ref, dSrtSet, dSortA, dIsi2, isT2, Bool.or_true, Bool.true_or, Bool.or_false, Bool.or_self, dReprR, dReprT, dDGet2]
  refine sqX_of hd.sq s1 fun gg hgg => ?_
  refine forL evD l (fun l1 δ M' => Sub M' M ∧ KL M' f e (st0.run l1).k ∧ M' e = some (.lst ((ends (plO l1)).map nD)) ∧ ∃ a b c d, δ = [some x, some (.ref f), some (.ref e), a, b, c, d]) rfl ⟨s1, kl, hes, _, _, _, _, rfl⟩ ?_ ?_
  · rintro l1 ev t δ' M3 pre P' e1 ⟨s2, kl, hes, a, b, c, d, rfl⟩ hP
    have w := wf0.run l1
    have wa := w.asc
    have hl1 : l1.length < 60 := by have := congrArg List.length e1; rw [List.length_append, List.length_cons] at this; omega
    have hp1 : puts l1 ≤ 40 := by
      have := congrArg puts e1
      rw [puts_app] at this; omega
    have hpl := plO_len l1
    have kll : ∀ h, ((st0.run l1).k h).length ≤ (plO l1).length := fun h => nd_len ((wa h).imp fun z => Nat.ne_of_lt z) (w.lt h)
    have oke := hd.ok ev (by rw [e1]; simp)
    obtain ⟨ds, k1, k2, k3⟩ := kl
    refine ⟨hgg _ s2, ?_⟩
    subst t1
    cases ev with
    | put a =>
      have oke : a < 16 := oke
      obtain ⟨ra, e2, hra, n1, n2⟩ := k3 a oke
      have hka := kll a
      simp (config := {failIfUnchanged := false}) only [dC, dOp, dTest, dChain, dAnd, dOr, dNot, dAndV, dOrV, dNotV, dIf, dNil, dCons, dTup, dLst, dCB, d1, dNoPart, dPart, dSl, dCut, dNeg, dSorted, dSum, dAll, dAny, dInt, dAbs, dMax, dMin, dIsi, isT, dNext, dSeq, dBrk, dCont, dNever, dExpr, dRet, dRetN, dIfS, dAsg, dPutI, dI0, dI, dIsN, dNotN, dRng1, dRng2, dRngDn, dZipI, dYes, dCall, dLM, dAppend, dExtend, dReverse, dInsert, dAugI, dRg1, dRg2, dTupRg, dLstRg, dNewK, dNewT, ↓S0_, ↓S1_, ↓S2_, ↓S3_, ↓S4_, ↓S5_, ↓S6_, List.map_cons, List.map_nil, List.length_cons, List.length_nil, List.replicate, List.cons_append, List.nil_append, Nat.reduceAdd, Nat.reduceSub, Nat.zero_add, List.getElem?_cons_zero, List.getElem?_cons_succ, Option.some.injEq, exists_eq_left, exists_eq_left', List.set_cons_zero, List.set_cons_succ, wipeD, D.int.injEq, D.bl.injEq, D.str.injEq, D.ref.injEq, D.tup.injEq, D.ty.injEq, true_and, and_true, forall_const, forall_eq', forall_eq, mt_int, mt_bool, mt_str, mt_tuple, mt_list, mt_dict, st_int_int, st_int_bool, st_int_str, st_int_tuple, st_int_list, st_int_dict, st_bool_int, st_bool_bool, st_bool_str, st_bool_tuple, st_bool_list, st_bool_dict, st_str_int, st_str_bool, st_str_str, st_str_tuple, st_str_list, st_str_dict, st_tuple_int, st_tuple_bool, st_tuple_str, st_tuple_tuple, st_tuple_list, st_tuple_dict, st_list_int, st_list_bool, st_list_str, st_list_tuple, st_list_list, st_list_dict, st_dict_int, st_dict_bool, st_dict_str, st_dict_tuple, st_dict_list, st_dict_dict, eq_self, Bool.true_eq_false, Bool.false_eq_true, false_implies, true_implies, implies_true, decide_eq_true_eq, decide_eq_false_iff_not, Bool.not_true, Bool.not_false, Bool.not_eq_true, Bool.not_eq_false, Bool.not_eq_true', Bool.not_eq_false', not_true_eq_false, not_false_eq_true, false_and, and_false, or_false, false_or, reduceCtorEq, ↓exLSu, ↓exDKu, ↓exDKd, ↓exLSd, ↓exLu, ↓dIxRu, ↓dPutu, ↓dGetAu, ↓dEq_int, ↓dNe_int, ↓dEq_bl, ↓dNe_bl, ↓dEq_str, ↓dNe_str, ↓dAdd_int, ↓exAt10, ↓exIx10, ↓exAt20, ↓exIx20, ↓exAt21, ↓exIx21, ↓exAt30, ↓exIx30, ↓exAt31, ↓exIx31, ↓exAt32, ↓exIx32, ↓exAt40, ↓exIx40, ↓exAt41, ↓exIx41, ↓exAt42, ↓exIx42, ↓exAt43, ↓exIx43, ↓exAt50, ↓exIx50, ↓exAt51, ↓exIx51, ↓exAt52, ↓exIx52, ↓exAt53, ↓exIx53, ↓exAt54, ↓exIx54, ↓exAt60, ↓exIx60, ↓exAt61, ↓exIx61, ↓exAt62, ↓exIx62, ↓exAt63, ↓exIx63, ↓exAt64, ↓exIx64, ↓exAt65, ↓exIx65, up_up, false_or, or_false, ↓exAtM, ↓dFlag_bl, ↓exBl, ↓exInt, ↓exRef, ↓dVar0, ↓dAug0, ↓dSet0, ↓dTgN0, ↓dTgW0, ↓dVar1, ↓dAug1, ↓dSet1, ↓dTgN1, ↓dTgW1, ↓dVar2, ↓dAug2, ↓dSet2, ↓dTgN2, ↓dTgW2, ↓dVar3, ↓dAug3, ↓dSet3, ↓dTgN3, ↓dTgW3, ↓dVar4, ↓dAug4, ↓dSet4, ↓dTgN4, ↓dTgW4, ↓dVar5, ↓dAug5, ↓dSet5, ↓dTgN5, ↓dTgW5, ↓dVar6, ↓dAug6, ↓dSet6, ↓dTgN6, ↓dTgW6, ↓dVar7, ↓dAug7, ↓dSet7, ↓dTgN7, ↓dTgW7, ↓dVar8, ↓dAug8, ↓dSet8, ↓dTgN8, ↓dTgW8, ↓dVar9, ↓dAug9, ↓dSet9, ↓dTgN9, ↓dTgW9, ↓dVar10, ↓dAug10, ↓dSet10, ↓dTgN10, ↓dTgW10, ↓dVar11, ↓dAug11, ↓dSet11, ↓dTgN11, ↓dTgW11, ↓dVar12, ↓dAug12, ↓dSet12, ↓dTgN12, ↓dTgW12, ↓dVar13, ↓dAug13, ↓dSet13, ↓dTgN13, ↓dTgW13, ↓dVar14, ↓dAug14, ↓dSet14, ↓dTgN14, ↓dTgW14, ↓dVar15, ↓dAug15, ↓dSet15, ↓dTgN15, ↓dTgW15, ↓dVar16, ↓dAug16, ↓dSet16, ↓dTgN16, ↓dTgW16, ↓dVar17, ↓dAug17, ↓dSet17, ↓dTgN17, ↓dTgW17, ↓dVar18, ↓dAug18, ↓dSet18, ↓dTgN18, ↓dTgW18, ↓dVar19, ↓dAug19, ↓dSet19, ↓dTgN19, ↓dTgW19, ↓dTg_t2, ↓dTg_t3, ↓exGetM, ↓exSumU, nD, plD, rwD, ↓dAdd_tup, ↓dAdd_ref, dIx_tup, dIx_str, dIx_ref, dIx_kl, dListOf_tup, dListOf_kl, dListOf_ref, dLen_tup, dLen_str, dLen_kl, dLen_ref, dTupOf_tup, dTupOf_ref, dSeqI_x, sqX_tup, sqX_ref, sqX_str, dEnumI_x, enX_tup, enX_ref, dSrtSet, dSortA, dIsi2, isT2, Bool.or_true, Bool.true_or, Bool.or_false, Bool.or_self, dReprR, dReprT, dDGet2, evD, sPP, sPM, sMP, sMM]
      refine ⟨⟨e, _, rfl, .inl hes⟩, ?_⟩
      refine dLc_g fun F2 T2 U2 h2 t2 u2 => ?_; simp only [dLc, dC, dOp, dTest, dChain, dAnd, dOr, dNot, dAndV, dOrV, dNotV, dIf, dNil, dCons, dTup, dLst, dCB, d1, dNoPart, dPart, dSl, dCut, dNeg, dSorted, dSum, dAll, dAny, dInt, dAbs, dMax, dMin, dIsi, isT, dNext, dSeq, dBrk, dCont, dNever, dExpr, dRet, dRetN, dIfS, dAsg, dPutI, dI0, dI, dIsN, dNotN, dRng1, dRng2, dRngDn, dZipI, dYes, dCall, dLM, dAppend, dExtend, dReverse, dInsert, dAugI, dRg1, dRg2, dTupRg, dLstRg, dNewK, dNewT, ↓S0_, ↓S1_, ↓S2_, ↓S3_, ↓S4_, ↓S5_, ↓S6_, List.map_cons, List.map_nil, List.length_cons, List.length_nil, List.replicate, List.cons_append, List.nil_append, Nat.reduceAdd, Nat.reduceSub, Nat.zero_add, List.getElem?_cons_zero, List.getElem?_cons_succ, Option.some.injEq, exists_eq_left, exists_eq_left', List.set_cons_zero, List.set_cons_succ, wipeD, D.int.injEq, D.bl.injEq, D.str.injEq, D.ref.injEq, D.tup.injEq, D.ty.injEq, true_and, and_true, forall_const, forall_eq', forall_eq, mt_int, mt_bool, mt_str, mt_tuple, mt_list, mt_dict, st_int_int, st_int_bool, st_int_str, st_int_tuple, st_int_list, st_int_dict, st_bool_int, st_bool_bool, st_bool_str, st_bool_tuple, st_bool_list, st_bool_dict, st_str_int, st_str_bool, st_str_str, st_str_tuple, st_str_list, st_str_dict, st_tuple_int, st_tuple_bool, st_tuple_str, st_tuple_tuple, st_tuple_list, st_tuple_dict, st_list_int, st_list_bool, st_list_str, st_list_tuple, st_list_list, st_list_dict, st_dict_int, st_dict_bool, st_dict_str, st_dict_tuple, st_dict_list, st_dict_dict, eq_self, Bool.true_eq_false, Bool.false_eq_true, false_implies, true_implies, implies_true, decide_eq_true_eq, decide_eq_false_iff_not, Bool.not_true, Bool.not_false, Bool.not_eq_true, Bool.not_eq_false, Bool.not_eq_true', Bool.not_eq_false', not_true_eq_false, not_false_eq_true, false_and, and_false, or_false, false_or, reduceCtorEq, ↓exLSu, ↓exDKu, ↓exDKd, ↓exLSd, ↓exLu, ↓dIxRu, ↓dPutu, ↓dGetAu, ↓dEq_int, ↓dNe_int, ↓dEq_bl, ↓dNe_bl, ↓dEq_str, ↓dNe_str, ↓dAdd_int, ↓exAt10, ↓exIx10, ↓exAt20, ↓exIx20, ↓exAt21, ↓exIx21, ↓exAt30, ↓exIx30, ↓exAt31, ↓exIx31, ↓exAt32, ↓exIx32, ↓exAt40, ↓exIx40, ↓exAt41, ↓exIx41, ↓exAt42, ↓exIx42, ↓exAt43, ↓exIx43, ↓exAt50, ↓exIx50, ↓exAt51, ↓exIx51, ↓exAt52, ↓exIx52, ↓exAt53, ↓exIx53, ↓exAt54, ↓exIx54, ↓exAt60, ↓exIx60, ↓exAt61, ↓exIx61, ↓exAt62, ↓exIx62, ↓exAt63, ↓exIx63, ↓exAt64, ↓exIx64, ↓exAt65, ↓exIx65, up_up, false_or, or_false, ↓exAtM, ↓dFlag_bl, ↓exBl, ↓exInt, ↓exRef, ↓dVar0, ↓dAug0, ↓dSet0, ↓dTgN0, ↓dTgW0, ↓dVar1, ↓dAug1, ↓dSet1, ↓dTgN1, ↓dTgW1, ↓dVar2, ↓dAug2, ↓dSet2, ↓dTgN2, ↓dTgW2, ↓dVar3, ↓dAug3, ↓dSet3, ↓dTgN3, ↓dTgW3, ↓dVar4, ↓dAug4, ↓dSet4, ↓dTgN4, ↓dTgW4, ↓dVar5, ↓dAug5, ↓dSet5, ↓dTgN5, ↓dTgW5, ↓dVar6, ↓dAug6, ↓dSet6, ↓dTgN6, ↓dTgW6, ↓dVar7, ↓dAug7, ↓dSet7, ↓dTgN7, ↓dTgW7, ↓dVar8, ↓dAug8, ↓dSet8, ↓dTgN8, ↓dTgW8, ↓dVar9, ↓dAug9, ↓dSet9, ↓dTgN9, ↓dTgW9, ↓dVar10, ↓dAug10, ↓dSet10, ↓dTgN10, ↓dTgW10, ↓dVar11, ↓dAug11, ↓dSet11, ↓dTgN11, ↓dTgW11, ↓dVar12, ↓dAug12, ↓dSet12, ↓dTgN12, ↓dTgW12, ↓dVar13, ↓dAug13, ↓dSet13, ↓dTgN13, ↓dTgW13, ↓dVar14, ↓dAug14, ↓dSet14, ↓dTgN14, ↓dTgW14, ↓dVar15, ↓dAug15, ↓dSet15, ↓dTgN15, ↓dTgW15, ↓dVar16, ↓dAug16, ↓dSet16, ↓dTgN16, ↓dTgW16, ↓dVar17, ↓dAug17, ↓dSet17, ↓dTgN17, ↓dTgW17, ↓dVar18, ↓dAug18, ↓dSet18, ↓dTgN18, ↓dTgW18, ↓dVar19, ↓dAug19, ↓dSet19, ↓dTgN19, ↓dTgW19, ↓dTg_t2, ↓dTg_t3, ↓exGetM, ↓exSumU, nD, plD, rwD, ↓dAdd_tup, ↓dAdd_ref, dIx_tup, dIx_str, dIx_ref, dIx_kl, dListOf_tup, dListOf_kl, dListOf_ref, dLen_tup, dLen_str, dLen_kl, dLen_ref, dTupOf_tup, dTupOf_ref, dSeqI_x, sqX_tup, sqX_ref, sqX_str, dEnumI_x, enX_tup, enX_ref, dSrtSet, dSortA, dIsi2, isT2, Bool.or_true, Bool.true_or, Bool.or_false, Bool.or_self, dReprR, dReprT, dDGet2]
      simp (config := {failIfUnchanged := false}) only [dC, dOp, dTest, dChain, dAnd, dOr, dNot, dAndV, dOrV, dNotV, dIf, dNil, dCons, dTup, dLst, dCB, d1, dNoPart, dPart, dSl, dCut, dNeg, dSorted, dSum, dAll, dAny, dInt, dAbs, dMax, dMin, dIsi, isT, dNext, dSeq, dBrk, dCont, dNever, dExpr, dRet, dRetN, dIfS, dAsg, dPutI, dI0, dI, dIsN, dNotN, dRng1, dRng2, dRngDn, dZipI, dYes, dCall, dLM, dAppend, dExtend, dReverse, dInsert, dAugI, dRg1, dRg2, dTupRg, dLstRg, dNewK, dNewT, ↓S0_, ↓S1_, ↓S2_, ↓S3_, ↓S4_, ↓S5_, ↓S6_, List.map_cons, List.map_nil, List.length_cons, List.length_nil, List.replicate, List.cons_append, List.nil_append, Nat.reduceAdd, Nat.reduceSub, Nat.zero_add, List.getElem?_cons_zero, List.getElem?_cons_succ, Option.some.injEq, exists_eq_left, exists_eq_left', List.set_cons_zero, List.set_cons_succ, wipeD, D.int.injEq, D.bl.injEq, D.str.injEq, D.ref.injEq, D.tup.injEq, D.ty.injEq, true_and, and_true, forall_const, forall_eq', forall_eq, mt_int, mt_bool, mt_str, mt_tuple, mt_list, mt_dict, st_int_int, st_int_bool, st_int_str, st_int_tuple, st_int_list, st_int_dict, st_bool_int, st_bool_bool, st_bool_str, st_bool_tuple, st_bool_list, st_bool_dict, st_str_int, st_str_bool, st_str_str, st_str_tuple, st_str_list, st_str_dict, st_tuple_int, st_tuple_bool, st_tuple_str, st_tuple_tuple, st_tuple_list, st_tuple_dict, st_list_int, st_list_bool, st_list_str, st_list_tuple, st_list_list, st_list_dict, st_dict_int, st_dict_bool, st_dict_str, st_dict_tuple, st_dict_list, st_dict_dict, eq_self, Bool.true_eq_false, Bool.false_eq_true, false_implies, true_implies, implies_true, decide_eq_true_eq, decide_eq_false_iff_not, Bool.not_true, Bool.not_false, Bool.not_eq_true, Bool.not_eq_false, Bool.not_eq_true', Bool.not_eq_false', not_true_eq_false, not_false_eq_true, false_and, and_false, or_false, false_or, reduceCtorEq, ↓exLSu, ↓exDKu, ↓exDKd, ↓exLSd, ↓exLu, ↓dIxRu, ↓dPutu, ↓dGetAu, ↓dEq_int, ↓dNe_int, ↓dEq_bl, ↓dNe_bl, ↓dEq_str, ↓dNe_str, ↓dAdd_int, ↓exAt10, ↓exIx10, ↓exAt20, ↓exIx20, ↓exAt21, ↓exIx21, ↓exAt30, ↓exIx30, ↓exAt31, ↓exIx31, ↓exAt32, ↓exIx32, ↓exAt40, ↓exIx40, ↓exAt41, ↓exIx41, ↓exAt42, ↓exIx42, ↓exAt43, ↓exIx43, ↓exAt50, ↓exIx50, ↓exAt51, ↓exIx51, ↓exAt52, ↓exIx52, ↓exAt53, ↓exIx53, ↓exAt54, ↓exIx54, ↓exAt60, ↓exIx60, ↓exAt61, ↓exIx61, ↓exAt62, ↓exIx62, ↓exAt63, ↓exIx63, ↓exAt64, ↓exIx64, ↓exAt65, ↓exIx65, up_up, false_or, or_false, ↓exAtM, ↓dFlag_bl, ↓exBl, ↓exInt, ↓exRef, ↓dVar0, ↓dAug0, ↓dSet0, ↓dTgN0, ↓dTgW0, ↓dVar1, ↓dAug1, ↓dSet1, ↓dTgN1, ↓dTgW1, ↓dVar2, ↓dAug2, ↓dSet2, ↓dTgN2, ↓dTgW2, ↓dVar3, ↓dAug3, ↓dSet3, ↓dTgN3, ↓dTgW3, ↓dVar4, ↓dAug4, ↓dSet4, ↓dTgN4, ↓dTgW4, ↓dVar5, ↓dAug5, ↓dSet5, ↓dTgN5, ↓dTgW5, ↓dVar6, ↓dAug6, ↓dSet6, ↓dTgN6, ↓dTgW6, ↓dVar7, ↓dAug7, ↓dSet7, ↓dTgN7, ↓dTgW7, ↓dVar8, ↓dAug8, ↓dSet8, ↓dTgN8, ↓dTgW8, ↓dVar9, ↓dAug9, ↓dSet9, ↓dTgN9, ↓dTgW9, ↓dVar10, ↓dAug10, ↓dSet10, ↓dTgN10, ↓dTgW10, ↓dVar11, ↓dAug11, ↓dSet11, ↓dTgN11, ↓dTgW11, ↓dVar12, ↓dAug12, ↓dSet12, ↓dTgN12, ↓dTgW12, ↓dVar13, ↓dAug13, ↓dSet13, ↓dTgN13, ↓dTgW13, ↓dVar14, ↓dAug14, ↓dSet14, ↓dTgN14, ↓dTgW14, ↓dVar15, ↓dAug15, ↓dSet15, ↓dTgN15, ↓dTgW15, ↓dVar16, ↓dAug16, ↓dSet16, ↓dTgN16, ↓dTgW16, ↓dVar17, ↓dAug17, ↓dSet17, ↓dTgN17, ↓dTgW17, ↓dVar18, ↓dAug18, ↓dSet18, ↓dTgN18, ↓dTgW18, ↓dVar19, ↓dAug19, ↓dSet19, ↓dTgN19, ↓dTgW19, ↓dTg_t2, ↓dTg_t3, ↓exGetM, ↓exSumU, nD, plD, rwD, ↓dAdd_tup, ↓dAdd_ref, dIx_tup, dIx_str, dIx_ref, dIx_kl, dListOf_tup, dListOf_kl, dListOf_ref, dLen_tup, dLen_str, dLen_kl, dLen_ref, dTupOf_tup, dTupOf_ref, dSeqI_x, sqX_tup, sqX_ref, sqX_str, dEnumI_x, enX_tup, enX_ref, dSrtSet, dSortA, dIsi2, isT2, Bool.or_true, Bool.true_or, Bool.or_false, Bool.or_self, dReprR, dReprT, dDGet2, ↓dIxRh k1]
      refine ⟨_, atI_nat e2, ?_⟩
      simp only [sqX_ref, ↓exLS hra]
      refine ⟨by rw [List.length_map]; exact Nat.le_of_lt (small1000 (by omega)), lcM nD (fun j => D.int (((ends (plO l1)).getD j 0 : Nat) : Int)) ((st0.run l1).k a) rfl (fun l2 j t2' pre2 acc P2 e3 hP2 => ?_) ⟨.inl hra, fun q hq => ?_⟩⟩
      · refine ⟨.inl hra, ?_⟩
        subst t2; subst u2
        have hj : j < (ends (plO l1)).length := by rw [ends_len]; exact w.lt a j (by rw [e3]; simp)
        simp (config := {failIfUnchanged := false}) only [dC, dOp, dTest, dChain, dAnd, dOr, dNot, dAndV, dOrV, dNotV, dIf, dNil, dCons, dTup, dLst, dCB, d1, dNoPart, dPart, dSl, dCut, dNeg, dSorted, dSum, dAll, dAny, dInt, dAbs, dMax, dMin, dIsi, isT, dNext, dSeq, dBrk, dCont, dNever, dExpr, dRet, dRetN, dIfS, dAsg, dPutI, dI0, dI, dIsN, dNotN, dRng1, dRng2, dRngDn, dZipI, dYes, dCall, dLM, dAppend, dExtend, dReverse, dInsert, dAugI, dRg1, dRg2, dTupRg, dLstRg, dNewK, dNewT, ↓S0_, ↓S1_, ↓S2_, ↓S3_, ↓S4_, ↓S5_, ↓S6_, List.map_cons, List.map_nil, List.length_cons, List.length_nil, List.replicate, List.cons_append, List.nil_append, Nat.reduceAdd, Nat.reduceSub, Nat.zero_add, List.getElem?_cons_zero, List.getElem?_cons_succ, Option.some.injEq, exists_eq_left, exists_eq_left', List.set_cons_zero, List.set_cons_succ, wipeD, D.int.injEq, D.bl.injEq, D.str.injEq, D.ref.injEq, D.tup.injEq, D.ty.injEq, true_and, and_true, forall_const, forall_eq', forall_eq, mt_int, mt_bool, mt_str, mt_tuple, mt_list, mt_dict, st_int_int, st_int_bool, st_int_str, st_int_tuple, st_int_list, st_int_dict, st_bool_int, st_bool_bool, st_bool_str, st_bool_tuple, st_bool_list, st_bool_dict, st_str_int, st_str_bool, st_str_str, st_str_tuple, st_str_list, st_str_dict, st_tuple_int, st_tuple_bool, st_tuple_str, st_tuple_tuple, st_tuple_list, st_tuple_dict, st_list_int, st_list_bool, st_list_str, st_list_tuple, st_list_list, st_list_dict, st_dict_int, st_dict_bool, st_dict_str, st_dict_tuple, st_dict_list, st_dict_dict, eq_self, Bool.true_eq_false, Bool.false_eq_true, false_implies, true_implies, implies_true, decide_eq_true_eq, decide_eq_false_iff_not, Bool.not_true, Bool.not_false, Bool.not_eq_true, Bool.not_eq_false, Bool.not_eq_true', Bool.not_eq_false', not_true_eq_false, not_false_eq_true, false_and, and_false, or_false, false_or, reduceCtorEq, ↓exLSu, ↓exDKu, ↓exDKd, ↓exLSd, ↓exLu, ↓dIxRu, ↓dPutu, ↓dGetAu, ↓dEq_int, ↓dNe_int, ↓dEq_bl, ↓dNe_bl, ↓dEq_str, ↓dNe_str, ↓dAdd_int, ↓exAt10, ↓exIx10, ↓exAt20, ↓exIx20, ↓exAt21, ↓exIx21, ↓exAt30, ↓exIx30, ↓exAt31, ↓exIx31, ↓exAt32, ↓exIx32, ↓exAt40, ↓exIx40, ↓exAt41, ↓exIx41, ↓exAt42, ↓exIx42, ↓exAt43, ↓exIx43, ↓exAt50, ↓exIx50, ↓exAt51, ↓exIx51, ↓exAt52, ↓exIx52, ↓exAt53, ↓exIx53, ↓exAt54, ↓exIx54, ↓exAt60, ↓exIx60, ↓exAt61, ↓exIx61, ↓exAt62, ↓exIx62, ↓exAt63, ↓exIx63, ↓exAt64, ↓exIx64, ↓exAt65, ↓exIx65, up_up, false_or, or_false, ↓exAtM, ↓dFlag_bl, ↓exBl, ↓exInt, ↓exRef, ↓dVar0, ↓dAug0, ↓dSet0, ↓dTgN0, ↓dTgW0, ↓dVar1, ↓dAug1, ↓dSet1, ↓dTgN1, ↓dTgW1, ↓dVar2, ↓dAug2, ↓dSet2, ↓dTgN2, ↓dTgW2, ↓dVar3, ↓dAug3, ↓dSet3, ↓dTgN3, ↓dTgW3, ↓dVar4, ↓dAug4, ↓dSet4, ↓dTgN4, ↓dTgW4, ↓dVar5, ↓dAug5, ↓dSet5, ↓dTgN5, ↓dTgW5, ↓dVar6, ↓dAug6, ↓dSet6, ↓dTgN6, ↓dTgW6, ↓dVar7, ↓dAug7, ↓dSet7, ↓dTgN7, ↓dTgW7, ↓dVar8, ↓dAug8, ↓dSet8, ↓dTgN8, ↓dTgW8, ↓dVar9, ↓dAug9, ↓dSet9, ↓dTgN9, ↓dTgW9, ↓dVar10, ↓dAug10, ↓dSet10, ↓dTgN10, ↓dTgW10, ↓dVar11, ↓dAug11, ↓dSet11, ↓dTgN11, ↓dTgW11, ↓dVar12, ↓dAug12, ↓dSet12, ↓dTgN12, ↓dTgW12, ↓dVar13, ↓dAug13, ↓dSet13, ↓dTgN13, ↓dTgW13, ↓dVar14, ↓dAug14, ↓dSet14, ↓dTgN14, ↓dTgW14, ↓dVar15, ↓dAug15, ↓dSet15, ↓dTgN15, ↓dTgW15, ↓dVar16, ↓dAug16, ↓dSet16, ↓dTgN16, ↓dTgW16, ↓dVar17, ↓dAug17, ↓dSet17, ↓dTgN17, ↓dTgW17, ↓dVar18, ↓dAug18, ↓dSet18, ↓dTgN18, ↓dTgW18, ↓dVar19, ↓dAug19, ↓dSet19, ↓dTgN19, ↓dTgW19, ↓dTg_t2, ↓dTg_t3, ↓exGetM, ↓exSumU, nD, plD, rwD, ↓dAdd_tup, ↓dAdd_ref, dIx_tup, dIx_str, dIx_ref, dIx_kl, dListOf_tup, dListOf_kl, dListOf_ref, dLen_tup, dLen_str, dLen_kl, dLen_ref, dTupOf_tup, dTupOf_ref, dSeqI_x, sqX_tup, sqX_ref, sqX_str, dEnumI_x, enX_tup, enX_ref, dSrtSet, dSortA, dIsi2, isT2, Bool.or_true, Bool.true_or, Bool.or_false, Bool.or_self, dReprR, dReprT, dDGet2, ↓dIxRh hes]
        refine ⟨_, atI_nat (get_of hj), sb0 hP2⟩
      rw [h2]; clear h2 t2 u2
      have neq : e ≠ q := by rintro rfl; rw [hes] at hq; cases hq
      have nfq : f ≠ q := by rintro rfl; rw [k1] at hq; cases hq
      have nrq : ra ≠ q := by rintro rfl; rw [hra] at hq; cases hq
      simp (config := {failIfUnchanged := false}) only [dC, dOp, dTest, dChain, dAnd, dOr, dNot, dAndV, dOrV, dNotV, dIf, dNil, dCons, dTup, dLst, dCB, d1, dNoPart, dPart, dSl, dCut, dNeg, dSorted, dSum, dAll, dAny, dInt, dAbs, dMax, dMin, dIsi, isT, dNext, dSeq, dBrk, dCont, dNever, dExpr, dRet, dRetN, dIfS, dAsg, dPutI, dI0, dI, dIsN, dNotN, dRng1, dRng2, dRngDn, dZipI, dYes, dCall, dLM, dAppend, dExtend, dReverse, dInsert, dAugI, dRg1, dRg2, dTupRg, dLstRg, dNewK, dNewT, ↓S0_, ↓S1_, ↓S2_, ↓S3_, ↓S4_, ↓S5_, ↓S6_, List.map_cons, List.map_nil, List.length_cons, List.length_nil, List.replicate, List.cons_append, List.nil_append, Nat.reduceAdd, Nat.reduceSub, Nat.zero_add, List.getElem?_cons_zero, List.getElem?_cons_succ, Option.some.injEq, exists_eq_left, exists_eq_left', List.set_cons_zero, List.set_cons_succ, wipeD, D.int.injEq, D.bl.injEq, D.str.injEq, D.ref.injEq, D.tup.injEq, D.ty.injEq, true_and, and_true, forall_const, forall_eq', forall_eq, mt_int, mt_bool, mt_str, mt_tuple, mt_list, mt_dict, st_int_int, st_int_bool, st_int_str, st_int_tuple, st_int_list, st_int_dict, st_bool_int, st_bool_bool, st_bool_str, st_bool_tuple, st_bool_list, st_bool_dict, st_str_int, st_str_bool, st_str_str, st_str_tuple, st_str_list, st_str_dict, st_tuple_int, st_tuple_bool, st_tuple_str, st_tuple_tuple, st_tuple_list, st_tuple_dict, st_list_int, st_list_bool, st_list_str, st_list_tuple, st_list_list, st_list_dict, st_dict_int, st_dict_bool, st_dict_str, st_dict_tuple, st_dict_list, st_dict_dict, eq_self, Bool.true_eq_false, Bool.false_eq_true, false_implies, true_implies, implies_true, decide_eq_true_eq, decide_eq_false_iff_not, Bool.not_true, Bool.not_false, Bool.not_eq_true, Bool.not_eq_false, Bool.not_eq_true', Bool.not_eq_false', not_true_eq_false, not_false_eq_true, false_and, and_false, or_false, false_or, reduceCtorEq, ↓exLSu, ↓exDKu, ↓exDKd, ↓exLSd, ↓exLu, ↓dIxRu, ↓dPutu, ↓dGetAu, ↓dEq_int, ↓dNe_int, ↓dEq_bl, ↓dNe_bl, ↓dEq_str, ↓dNe_str, ↓dAdd_int, ↓exAt10, ↓exIx10, ↓exAt20, ↓exIx20, ↓exAt21, ↓exIx21, ↓exAt30, ↓exIx30, ↓exAt31, ↓exIx31, ↓exAt32, ↓exIx32, ↓exAt40, ↓exIx40, ↓exAt41, ↓exIx41, ↓exAt42, ↓exIx42, ↓exAt43, ↓exIx43, ↓exAt50, ↓exIx50, ↓exAt51, ↓exIx51, ↓exAt52, ↓exIx52, ↓exAt53, ↓exIx53, ↓exAt54, ↓exIx54, ↓exAt60, ↓exIx60, ↓exAt61, ↓exIx61, ↓exAt62, ↓exIx62, ↓exAt63, ↓exIx63, ↓exAt64, ↓exIx64, ↓exAt65, ↓exIx65, up_up, false_or, or_false, ↓exAtM, ↓dFlag_bl, ↓exBl, ↓exInt, ↓exRef, ↓dVar0, ↓dAug0, ↓dSet0, ↓dTgN0, ↓dTgW0, ↓dVar1, ↓dAug1, ↓dSet1, ↓dTgN1, ↓dTgW1, ↓dVar2, ↓dAug2, ↓dSet2, ↓dTgN2, ↓dTgW2, ↓dVar3, ↓dAug3, ↓dSet3, ↓dTgN3, ↓dTgW3, ↓dVar4, ↓dAug4, ↓dSet4, ↓dTgN4, ↓dTgW4, ↓dVar5, ↓dAug5, ↓dSet5, ↓dTgN5, ↓dTgW5, ↓dVar6, ↓dAug6, ↓dSet6, ↓dTgN6, ↓dTgW6, ↓dVar7, ↓dAug7, ↓dSet7, ↓dTgN7, ↓dTgW7, ↓dVar8, ↓dAug8, ↓dSet8, ↓dTgN8, ↓dTgW8, ↓dVar9, ↓dAug9, ↓dSet9, ↓dTgN9, ↓dTgW9, ↓dVar10, ↓dAug10, ↓dSet10, ↓dTgN10, ↓dTgW10, ↓dVar11, ↓dAug11, ↓dSet11, ↓dTgN11, ↓dTgW11, ↓dVar12, ↓dAug12, ↓dSet12, ↓dTgN12, ↓dTgW12, ↓dVar13, ↓dAug13, ↓dSet13, ↓dTgN13, ↓dTgW13, ↓dVar14, ↓dAug14, ↓dSet14, ↓dTgN14, ↓dTgW14, ↓dVar15, ↓dAug15, ↓dSet15, ↓dTgN15, ↓dTgW15, ↓dVar16, ↓dAug16, ↓dSet16, ↓dTgN16, ↓dTgW16, ↓dVar17, ↓dAug17, ↓dSet17, ↓dTgN17, ↓dTgW17, ↓dVar18, ↓dAug18, ↓dSet18, ↓dTgN18, ↓dTgW18, ↓dVar19, ↓dAug19, ↓dSet19, ↓dTgN19, ↓dTgW19, ↓dTg_t2, ↓dTg_t3, ↓exGetM, ↓exSumU, nD, plD, rwD, ↓dAdd_tup, ↓dAdd_ref, dIx_tup, dIx_str, dIx_ref, dIx_kl, dListOf_tup, dListOf_kl, dListOf_ref, dLen_tup, dLen_str, dLen_kl, dLen_ref, dTupOf_tup, dTupOf_ref, dSeqI_x, sqX_tup, sqX_ref, sqX_str, dEnumI_x, enX_tup, enX_ref, dSrtSet, dSortA, dIsi2, isT2, Bool.or_true, Bool.true_or, Bool.or_false, Bool.or_self, dReprR, dReprT, dDGet2, LS_up]
      refine ⟨(((st0.run l1).k a).map fun j => (ends (plO l1)).getD j 0).map fun n : Nat => (n : Int), by rw [nD_ints, List.map_map]; rfl, _, by rw [up_ne neq]; exact hes, by rw [List.length_map, ends_len]; exact small1000 (by omega), ?_⟩
      have e5 : (ends (plO l1)).map nD ++ [D.int (1 + ((((st0.run l1).k a).map fun j => (ends (plO l1)).getD j 0).map fun n : Nat => (n : Int)).sum)] = (ends (plO (l1 ++ [.put a]))).map nD := by
        have : plO (l1 ++ [.put a]) = plO l1 ++ [(st0.run l1).k a] := by unfold plO; rw [run_snoc]; rfl
        rw [this, sumN, ends_snoc, endStep, List.map_append]
        simp [nD]
      have e6 : (ends (plO (l1 ++ [.put a]))).length = (plO l1).length + 1 := by
        rw [ends_len, plO_len, puts_app, hpl]; rfl
      rw [e5]
      have s3 : Sub (up M3 q (.lst (((st0.run l1).k a).map fun j => D.int (((ends (plO l1)).getD j 0 : Nat) : Int)))) M := (Sub.new hq (by intro _ z; cases z)).trans s2
      have s4 := sub_at (r := e) (o := .lst ((ends (plO (l1 ++ [.put a]))).map nD)) s3 he0 (by intro _ z; cases z)
      have kl4 : KL (up (up M3 q (.lst (((st0.run l1).k a).map fun j => D.int (((ends (plO l1)).getD j 0 : Nat) : Int)))) e (.lst ((ends (plO (l1 ++ [.put a]))).map nD))) f e (st0.run l1).k := (KL.sub ⟨ds, k1, k2, k3⟩ (Sub.new hq (by intro _ z; cases z))).other nfe _
      have hes4 : up (up M3 q (.lst (((st0.run l1).k a).map fun j => D.int (((ends (plO l1)).getD j 0 : Nat) : Int)))) e (.lst ((ends (plO (l1 ++ [.put a]))).map nD)) e = some (.lst ((ends (plO (l1 ++ [.put a]))).map nD)) := up_same
      generalize up (up M3 q (.lst (((st0.run l1).k a).map fun j => D.int (((ends (plO l1)).getD j 0 : Nat) : Int)))) e (.lst ((ends (plO (l1 ++ [.put a]))).map nD)) = M4 at *
      clear k1 k3 hra
      obtain ⟨ds, k1, k2, k3⟩ := kl4
      obtain ⟨ra, e2, hra, n1, n2⟩ := k3 a oke
      have hka2 := hka
      refine .inl ⟨ds, a, _, rfl, .inl k1, atI_nat e2, fun w1 hw1 => ?_⟩
      have nrw : ra ≠ w1 := by rintro rfl; rw [hra] at hw1; cases hw1
      have nfw : f ≠ w1 := by rintro rfl; rw [k1] at hw1; cases hw1
      have new : e ≠ w1 := by rintro rfl; rw [hes4] at hw1; cases hw1
      simp (config := {failIfUnchanged := false}) only [dC, dOp, dTest, dChain, dAnd, dOr, dNot, dAndV, dOrV, dNotV, dIf, dNil, dCons, dTup, dLst, dCB, d1, dNoPart, dPart, dSl, dCut, dNeg, dSorted, dSum, dAll, dAny, dInt, dAbs, dMax, dMin, dIsi, isT, dNext, dSeq, dBrk, dCont, dNever, dExpr, dRet, dRetN, dIfS, dAsg, dPutI, dI0, dI, dIsN, dNotN, dRng1, dRng2, dRngDn, dZipI, dYes, dCall, dLM, dAppend, dExtend, dReverse, dInsert, dAugI, dRg1, dRg2, dTupRg, dLstRg, dNewK, dNewT, ↓S0_, ↓S1_, ↓S2_, ↓S3_, ↓S4_, ↓S5_, ↓S6_, List.map_cons, List.map_nil, List.length_cons, List.length_nil, List.replicate, List.cons_append, List.nil_append, Nat.reduceAdd, Nat.reduceSub, Nat.zero_add, List.getElem?_cons_zero, List.getElem?_cons_succ, Option.some.injEq, exists_eq_left, exists_eq_left', List.set_cons_zero, List.set_cons_succ, wipeD, D.int.injEq, D.bl.injEq, D.str.injEq, D.ref.injEq, D.tup.injEq, D.ty.injEq, true_and, and_true, forall_const, forall_eq', forall_eq, mt_int, mt_bool, mt_str, mt_tuple, mt_list, mt_dict, st_int_int, st_int_bool, st_int_str, st_int_tuple, st_int_list, st_int_dict, st_bool_int, st_bool_bool, st_bool_str, st_bool_tuple, st_bool_list, st_bool_dict, st_str_int, st_str_bool, st_str_str, st_str_tuple, st_str_list, st_str_dict, st_tuple_int, st_tuple_bool, st_tuple_str, st_tuple_tuple, st_tuple_list, st_tuple_dict, st_list_int, st_list_bool, st_list_str, st_list_tuple, st_list_list, st_list_dict, st_dict_int, st_dict_bool, st_dict_str, st_dict_tuple, st_dict_list, st_dict_dict, eq_self, Bool.true_eq_false, Bool.false_eq_true, false_implies, true_implies, implies_true, decide_eq_true_eq, decide_eq_false_iff_not, Bool.not_true, Bool.not_false, Bool.not_eq_true, Bool.not_eq_false, Bool.not_eq_true', Bool.not_eq_false', not_true_eq_false, not_false_eq_true, false_and, and_false, or_false, false_or, reduceCtorEq, ↓exLSu, ↓exDKu, ↓exDKd, ↓exLSd, ↓exLu, ↓dIxRu, ↓dPutu, ↓dGetAu, ↓dEq_int, ↓dNe_int, ↓dEq_bl, ↓dNe_bl, ↓dEq_str, ↓dNe_str, ↓dAdd_int, ↓exAt10, ↓exIx10, ↓exAt20, ↓exIx20, ↓exAt21, ↓exIx21, ↓exAt30, ↓exIx30, ↓exAt31, ↓exIx31, ↓exAt32, ↓exIx32, ↓exAt40, ↓exIx40, ↓exAt41, ↓exIx41, ↓exAt42, ↓exIx42, ↓exAt43, ↓exIx43, ↓exAt50, ↓exIx50, ↓exAt51, ↓exIx51, ↓exAt52, ↓exIx52, ↓exAt53, ↓exIx53, ↓exAt54, ↓exIx54, ↓exAt60, ↓exIx60, ↓exAt61, ↓exIx61, ↓exAt62, ↓exIx62, ↓exAt63, ↓exIx63, ↓exAt64, ↓exIx64, ↓exAt65, ↓exIx65, up_up, false_or, or_false, ↓exAtM, ↓dFlag_bl, ↓exBl, ↓exInt, ↓exRef, ↓dVar0, ↓dAug0, ↓dSet0, ↓dTgN0, ↓dTgW0, ↓dVar1, ↓dAug1, ↓dSet1, ↓dTgN1, ↓dTgW1, ↓dVar2, ↓dAug2, ↓dSet2, ↓dTgN2, ↓dTgW2, ↓dVar3, ↓dAug3, ↓dSet3, ↓dTgN3, ↓dTgW3, ↓dVar4, ↓dAug4, ↓dSet4, ↓dTgN4, ↓dTgW4, ↓dVar5, ↓dAug5, ↓dSet5, ↓dTgN5, ↓dTgW5, ↓dVar6, ↓dAug6, ↓dSet6, ↓dTgN6, ↓dTgW6, ↓dVar7, ↓dAug7, ↓dSet7, ↓dTgN7, ↓dTgW7, ↓dVar8, ↓dAug8, ↓dSet8, ↓dTgN8, ↓dTgW8, ↓dVar9, ↓dAug9, ↓dSet9, ↓dTgN9, ↓dTgW9, ↓dVar10, ↓dAug10, ↓dSet10, ↓dTgN10, ↓dTgW10, ↓dVar11, ↓dAug11, ↓dSet11, ↓dTgN11, ↓dTgW11, ↓dVar12, ↓dAug12, ↓dSet12, ↓dTgN12, ↓dTgW12, ↓dVar13, ↓dAug13, ↓dSet13, ↓dTgN13, ↓dTgW13, ↓dVar14, ↓dAug14, ↓dSet14, ↓dTgN14, ↓dTgW14, ↓dVar15, ↓dAug15, ↓dSet15, ↓dTgN15, ↓dTgW15, ↓dVar16, ↓dAug16, ↓dSet16, ↓dTgN16, ↓dTgW16, ↓dVar17, ↓dAug17, ↓dSet17, ↓dTgN17, ↓dTgW17, ↓dVar18, ↓dAug18, ↓dSet18, ↓dTgN18, ↓dTgW18, ↓dVar19, ↓dAug19, ↓dSet19, ↓dTgN19, ↓dTgW19, ↓dTg_t2, ↓dTg_t3, ↓exGetM, ↓exSumU, nD, plD, rwD, ↓dAdd_tup, ↓dAdd_ref, dIx_tup, dIx_str, dIx_ref, dIx_kl, dListOf_tup, dListOf_kl, dListOf_ref, dLen_tup, dLen_str, dLen_kl, dLen_ref, dTupOf_tup, dTupOf_ref, dSeqI_x, sqX_tup, sqX_ref, sqX_str, dEnumI_x, enX_tup, enX_ref, dSrtSet, dSortA, dIsi2, isT2, Bool.or_true, Bool.true_or, Bool.or_false, Bool.or_self, dReprR, dReprT, dDGet2]
      refine ⟨_, by rw [up_ne nrw]; exact hra, by rw [List.length_map]; exact Nat.le_of_lt (small1000 (by omega)), fun w2 hw2 => ?_⟩
      have e7 : D.int ((((ends (plO (l1 ++ [.put a]))).map nD).length : Int) - 1) = nD (plO l1).length := by
        rw [List.length_map, e6, nD]
        congr 1
        omega
      rw [e7] at hw2 ⊢
      have s6 : Sub (up (up M4 w1 (.lst [nD (plO l1).length])) w2 (.lst (((st0.run l1).k a).map nD ++ [nD (plO l1).length]))) M4 := (Sub.new hw2 (by intro _ z; cases z)).trans (Sub.new hw1 (by intro _ z; cases z))
      have f6 := s6.1 _ _ k1
      have g6 := s6.1 _ _ hes4
      have kl6 := KL.sub ⟨ds, k1, k2, k3⟩ s6
      have w6 : up (up M4 w1 (.lst [nD (plO l1).length])) w2 (.lst (((st0.run l1).k a).map nD ++ [nD (plO l1).length])) w2 = some (.lst (((st0.run l1).k a ++ [(plO l1).length]).map nD)) := by rw [up_same, List.map_append]; rfl
      have nf6 : w2 ≠ f := by rintro rfl; rw [up_ne (fun z => by rw [z] at nfw; exact nfw rfl), k1] at hw2; cases hw2
      have ne6 : w2 ≠ e := by rintro rfl; rw [up_ne (fun z => by rw [z] at new; exact new rfl), hes4] at hw2; cases hw2
      have sM := s6.trans s4
      generalize up (up M4 w1 (.lst [nD (plO l1).length])) w2 (.lst (((st0.run l1).k a).map nD ++ [nD (plO l1).length])) = M6 at *
      obtain ⟨ds', q1, q2, q3⟩ := kl6
      rw [f6] at q1; cases q1
      refine ⟨f, rfl, .inl ⟨ds, (a : Int), a, rfl, f6, by rw [k2]; exact ixN_lt (by omega) (by omega), sb0 (hP _ _ ⟨sub_at sM hf0 (by intro _ z; cases z), ?_, by rw [up_ne nfe.symm]; exact g6, _, _, _, _, rfl⟩)⟩⟩
      rw [run_snoc]
      exact KL.put f6 k2 q3 w6 nf6 ne6
    | meet a b =>
      obtain ⟨o1, o2, o3⟩ : a < 16 ∧ b < 16 ∧ a ≠ b := oke
      obtain ⟨ra, e2, hra, n1, n2⟩ := k3 a o1
      obtain ⟨rb, e3, hrb, n3, n4⟩ := k3 b o2
      have hka := kll a
      have hkb := kll b
      simp (config := {failIfUnchanged := false}) only [dC, dOp, dTest, dChain, dAnd, dOr, dNot, dAndV, dOrV, dNotV, dIf, dNil, dCons, dTup, dLst, dCB, d1, dNoPart, dPart, dSl, dCut, dNeg, dSorted, dSum, dAll, dAny, dInt, dAbs, dMax, dMin, dIsi, isT, dNext, dSeq, dBrk, dCont, dNever, dExpr, dRet, dRetN, dIfS, dAsg, dPutI, dI0, dI, dIsN, dNotN, dRng1, dRng2, dRngDn, dZipI, dYes, dCall, dLM, dAppend, dExtend, dReverse, dInsert, dAugI, dRg1, dRg2, dTupRg, dLstRg, dNewK, dNewT, ↓S0_, ↓S1_, ↓S2_, ↓S3_, ↓S4_, ↓S5_, ↓S6_, List.map_cons, List.map_nil, List.length_cons, List.length_nil, List.replicate, List.cons_append, List.nil_append, Nat.reduceAdd, Nat.reduceSub, Nat.zero_add, List.getElem?_cons_zero, List.getElem?_cons_succ, Option.some.injEq, exists_eq_left, exists_eq_left', List.set_cons_zero, List.set_cons_succ, wipeD, D.int.injEq, D.bl.injEq, D.str.injEq, D.ref.injEq, D.tup.injEq, D.ty.injEq, true_and, and_true, forall_const, forall_eq', forall_eq, mt_int, mt_bool, mt_str, mt_tuple, mt_list, mt_dict, st_int_int, st_int_bool, st_int_str, st_int_tuple, st_int_list, st_int_dict, st_bool_int, st_bool_bool, st_bool_str, st_bool_tuple, st_bool_list, st_bool_dict, st_str_int, st_str_bool, st_str_str, st_str_tuple, st_str_list, st_str_dict, st_tuple_int, st_tuple_bool, st_tuple_str, st_tuple_tuple, st_tuple_list, st_tuple_dict, st_list_int, st_list_bool, st_list_str, st_list_tuple, st_list_list, st_list_dict, st_dict_int, st_dict_bool, st_dict_str, st_dict_tuple, st_dict_list, st_dict_dict, eq_self, Bool.true_eq_false, Bool.false_eq_true, false_implies, true_implies, implies_true, decide_eq_true_eq, decide_eq_false_iff_not, Bool.not_true, Bool.not_false, Bool.not_eq_true, Bool.not_eq_false, Bool.not_eq_true', Bool.not_eq_false', not_true_eq_false, not_false_eq_true, false_and, and_false, or_false, false_or, reduceCtorEq, ↓exLSu, ↓exDKu, ↓exDKd, ↓exLSd, ↓exLu, ↓dIxRu, ↓dPutu, ↓dGetAu, ↓dEq_int, ↓dNe_int, ↓dEq_bl, ↓dNe_bl, ↓dEq_str, ↓dNe_str, ↓dAdd_int, ↓exAt10, ↓exIx10, ↓exAt20, ↓exIx20, ↓exAt21, ↓exIx21, ↓exAt30, ↓exIx30, ↓exAt31, ↓exIx31, ↓exAt32, ↓exIx32, ↓exAt40, ↓exIx40, ↓exAt41, ↓exIx41, ↓exAt42, ↓exIx42, ↓exAt43, ↓exIx43, ↓exAt50, ↓exIx50, ↓exAt51, ↓exIx51, ↓exAt52, ↓exIx52, ↓exAt53, ↓exIx53, ↓exAt54, ↓exIx54, ↓exAt60, ↓exIx60, ↓exAt61, ↓exIx61, ↓exAt62, ↓exIx62, ↓exAt63, ↓exIx63, ↓exAt64, ↓exIx64, ↓exAt65, ↓exIx65, up_up, false_or, or_false, ↓exAtM, ↓dFlag_bl, ↓exBl, ↓exInt, ↓exRef, ↓dVar0, ↓dAug0, ↓dSet0, ↓dTgN0, ↓dTgW0, ↓dVar1, ↓dAug1, ↓dSet1, ↓dTgN1, ↓dTgW1, ↓dVar2, ↓dAug2, ↓dSet2, ↓dTgN2, ↓dTgW2, ↓dVar3, ↓dAug3, ↓dSet3, ↓dTgN3, ↓dTgW3, ↓dVar4, ↓dAug4, ↓dSet4, ↓dTgN4, ↓dTgW4, ↓dVar5, ↓dAug5, ↓dSet5, ↓dTgN5, ↓dTgW5, ↓dVar6, ↓dAug6, ↓dSet6, ↓dTgN6, ↓dTgW6, ↓dVar7, ↓dAug7, ↓dSet7, ↓dTgN7, ↓dTgW7, ↓dVar8, ↓dAug8, ↓dSet8, ↓dTgN8, ↓dTgW8, ↓dVar9, ↓dAug9, ↓dSet9, ↓dTgN9, ↓dTgW9, ↓dVar10, ↓dAug10, ↓dSet10, ↓dTgN10, ↓dTgW10, ↓dVar11, ↓dAug11, ↓dSet11, ↓dTgN11, ↓dTgW11, ↓dVar12, ↓dAug12, ↓dSet12, ↓dTgN12, ↓dTgW12, ↓dVar13, ↓dAug13, ↓dSet13, ↓dTgN13, ↓dTgW13, ↓dVar14, ↓dAug14, ↓dSet14, ↓dTgN14, ↓dTgW14, ↓dVar15, ↓dAug15, ↓dSet15, ↓dTgN15, ↓dTgW15, ↓dVar16, ↓dAug16, ↓dSet16, ↓dTgN16, ↓dTgW16, ↓dVar17, ↓dAug17, ↓dSet17, ↓dTgN17, ↓dTgW17, ↓dVar18, ↓dAug18, ↓dSet18, ↓dTgN18, ↓dTgW18, ↓dVar19, ↓dAug19, ↓dSet19, ↓dTgN19, ↓dTgW19, ↓dTg_t2, ↓dTg_t3, ↓exGetM, ↓exSumU, nD, plD, rwD, ↓dAdd_tup, ↓dAdd_ref, dIx_tup, dIx_str, dIx_ref, dIx_kl, dListOf_tup, dListOf_kl, dListOf_ref, dLen_tup, dLen_str, dLen_kl, dLen_ref, dTupOf_tup, dTupOf_ref, dSeqI_x, sqX_tup, sqX_ref, sqX_str, dEnumI_x, enX_tup, enX_ref, dSrtSet, dSortA, dIsi2, isT2, Bool.or_true, Bool.true_or, Bool.or_false, Bool.or_self, dReprR, dReprT, dDGet2, evD, sPP, sPM, sMP, sMM]
      refine .inl ⟨ds, a, _, rfl, .inl k1, atI_nat e2, .inl ⟨ds, b, _, rfl, .inl k1, atI_nat e3, ?_⟩⟩
      simp (config := {failIfUnchanged := false}) only [dC, dOp, dTest, dChain, dAnd, dOr, dNot, dAndV, dOrV, dNotV, dIf, dNil, dCons, dTup, dLst, dCB, d1, dNoPart, dPart, dSl, dCut, dNeg, dSorted, dSum, dAll, dAny, dInt, dAbs, dMax, dMin, dIsi, isT, dNext, dSeq, dBrk, dCont, dNever, dExpr, dRet, dRetN, dIfS, dAsg, dPutI, dI0, dI, dIsN, dNotN, dRng1, dRng2, dRngDn, dZipI, dYes, dCall, dLM, dAppend, dExtend, dReverse, dInsert, dAugI, dRg1, dRg2, dTupRg, dLstRg, dNewK, dNewT, ↓S0_, ↓S1_, ↓S2_, ↓S3_, ↓S4_, ↓S5_, ↓S6_, List.map_cons, List.map_nil, List.length_cons, List.length_nil, List.replicate, List.cons_append, List.nil_append, Nat.reduceAdd, Nat.reduceSub, Nat.zero_add, List.getElem?_cons_zero, List.getElem?_cons_succ, Option.some.injEq, exists_eq_left, exists_eq_left', List.set_cons_zero, List.set_cons_succ, wipeD, D.int.injEq, D.bl.injEq, D.str.injEq, D.ref.injEq, D.tup.injEq, D.ty.injEq, true_and, and_true, forall_const, forall_eq', forall_eq, mt_int, mt_bool, mt_str, mt_tuple, mt_list, mt_dict, st_int_int, st_int_bool, st_int_str, st_int_tuple, st_int_list, st_int_dict, st_bool_int, st_bool_bool, st_bool_str, st_bool_tuple, st_bool_list, st_bool_dict, st_str_int, st_str_bool, st_str_str, st_str_tuple, st_str_list, st_str_dict, st_tuple_int, st_tuple_bool, st_tuple_str, st_tuple_tuple, st_tuple_list, st_tuple_dict, st_list_int, st_list_bool, st_list_str, st_list_tuple, st_list_list, st_list_dict, st_dict_int, st_dict_bool, st_dict_str, st_dict_tuple, st_dict_list, st_dict_dict, eq_self, Bool.true_eq_false, Bool.false_eq_true, false_implies, true_implies, implies_true, decide_eq_true_eq, decide_eq_false_iff_not, Bool.not_true, Bool.not_false, Bool.not_eq_true, Bool.not_eq_false, Bool.not_eq_true', Bool.not_eq_false', not_true_eq_false, not_false_eq_true, false_and, and_false, or_false, false_or, reduceCtorEq, ↓exLSu, ↓exDKu, ↓exDKd, ↓exLSd, ↓exLu, ↓dIxRu, ↓dPutu, ↓dGetAu, ↓dEq_int, ↓dNe_int, ↓dEq_bl, ↓dNe_bl, ↓dEq_str, ↓dNe_str, ↓dAdd_int, ↓exAt10, ↓exIx10, ↓exAt20, ↓exIx20, ↓exAt21, ↓exIx21, ↓exAt30, ↓exIx30, ↓exAt31, ↓exIx31, ↓exAt32, ↓exIx32, ↓exAt40, ↓exIx40, ↓exAt41, ↓exIx41, ↓exAt42, ↓exIx42, ↓exAt43, ↓exIx43, ↓exAt50, ↓exIx50, ↓exAt51, ↓exIx51, ↓exAt52, ↓exIx52, ↓exAt53, ↓exIx53, ↓exAt54, ↓exIx54, ↓exAt60, ↓exIx60, ↓exAt61, ↓exIx61, ↓exAt62, ↓exIx62, ↓exAt63, ↓exIx63, ↓exAt64, ↓exIx64, ↓exAt65, ↓exIx65, up_up, false_or, or_false, ↓exAtM, ↓dFlag_bl, ↓exBl, ↓exInt, ↓exRef, ↓dVar0, ↓dAug0, ↓dSet0, ↓dTgN0, ↓dTgW0, ↓dVar1, ↓dAug1, ↓dSet1, ↓dTgN1, ↓dTgW1, ↓dVar2, ↓dAug2, ↓dSet2, ↓dTgN2, ↓dTgW2, ↓dVar3, ↓dAug3, ↓dSet3, ↓dTgN3, ↓dTgW3, ↓dVar4, ↓dAug4, ↓dSet4, ↓dTgN4, ↓dTgW4, ↓dVar5, ↓dAug5, ↓dSet5, ↓dTgN5, ↓dTgW5, ↓dVar6, ↓dAug6, ↓dSet6, ↓dTgN6, ↓dTgW6, ↓dVar7, ↓dAug7, ↓dSet7, ↓dTgN7, ↓dTgW7, ↓dVar8, ↓dAug8, ↓dSet8, ↓dTgN8, ↓dTgW8, ↓dVar9, ↓dAug9, ↓dSet9, ↓dTgN9, ↓dTgW9, ↓dVar10, ↓dAug10, ↓dSet10, ↓dTgN10, ↓dTgW10, ↓dVar11, ↓dAug11, ↓dSet11, ↓dTgN11, ↓dTgW11, ↓dVar12, ↓dAug12, ↓dSet12, ↓dTgN12, ↓dTgW12, ↓dVar13, ↓dAug13, ↓dSet13, ↓dTgN13, ↓dTgW13, ↓dVar14, ↓dAug14, ↓dSet14, ↓dTgN14, ↓dTgW14, ↓dVar15, ↓dAug15, ↓dSet15, ↓dTgN15, ↓dTgW15, ↓dVar16, ↓dAug16, ↓dSet16, ↓dTgN16, ↓dTgW16, ↓dVar17, ↓dAug17, ↓dSet17, ↓dTgN17, ↓dTgW17, ↓dVar18, ↓dAug18, ↓dSet18, ↓dTgN18, ↓dTgW18, ↓dVar19, ↓dAug19, ↓dSet19, ↓dTgN19, ↓dTgW19, ↓dTg_t2, ↓dTg_t3, ↓exGetM, ↓exSumU, nD, plD, rwD, ↓dAdd_tup, ↓dAdd_ref, dIx_tup, dIx_str, dIx_ref, dIx_kl, dListOf_tup, dListOf_kl, dListOf_ref, dLen_tup, dLen_str, dLen_kl, dLen_ref, dTupOf_tup, dTupOf_ref, dSeqI_x, sqX_tup, sqX_ref, sqX_str, dEnumI_x, enX_tup, enX_ref, dSrtSet, dSortA, dIsi2, isT2, Bool.or_true, Bool.true_or, Bool.or_false, Bool.or_self, dReprR, dReprT, dDGet2]
      refine ⟨_, hra, _, hrb, by rw [List.length_map, List.length_map]; exact Nat.le_of_lt (small1000 (by omega)), fun w1 hw1 => ?_⟩
      have lt := fun (x : Nat) (hx : x ∈ (st0.run l1).k a ++ (st0.run l1).k b) => show x < (plO l1).length from (List.mem_append.mp hx).elim (w.lt a x) (w.lt b x)
      refine ⟨((st0.run l1).k a ++ (st0.run l1).k b).map fun n : Nat => (n : Int), .inl (by rw [up_same, nD_ints, List.map_append]), by rw [List.length_map, List.length_append]; omega, fun z hz => ?_, fun ms pw mem w2 hw2 => ?_⟩
      · obtain ⟨y, hy, rfl⟩ := List.mem_map.mp hz
        have := lt y hy
        omega
      have pos : ∀ z ∈ ms, 0 ≤ z := fun z hz => by
        obtain ⟨y, _, rfl⟩ := List.mem_map.mp ((mem z).mp hz)
        omega
      have em : ms = (ms.map Int.toNat).map fun n : Nat => (n : Int) := by
        rw [List.map_map]
        conv => lhs; rw [← List.map_id ms]
        exact List.map_congr_left fun z hz => (Int.toNat_of_nonneg (pos z hz)).symm
      have memN : ∀ y, y ∈ ms.map Int.toNat ↔ y ∈ mrg (plO l1).length ((st0.run l1).k a) ((st0.run l1).k b) := fun y => by
        refine Iff.trans ?_ (mrg_mem (n := (st0.run l1).R.length) (w.lt a) (w.lt b)).symm
        rw [← List.mem_append]
        constructor
        · intro hy
          obtain ⟨z, hz, rfl⟩ := List.mem_map.mp hy
          obtain ⟨u, hu, e⟩ := List.mem_map.mp ((mem z).mp hz)
          rw [← e]
          exact hu
        · intro hy
          exact List.mem_map.mpr ⟨(y : Int), (mem _).mpr (List.mem_map.mpr ⟨y, hy, rfl⟩), rfl⟩
      have asc : (ms.map Int.toNat).Pairwise (· < ·) := List.pairwise_map.mpr (pw.imp_of_mem fun {a b} ha hb h => by
        have := pos a ha
        have := pos b hb
        omega)
      have eR := asc_ext asc mrg_asc memN
      rw [em, eR, nD_ints]
      have st : (st0.run (l1 ++ [.meet a b])).k = kn (kn (st0.run l1).k a (mrg (plO l1).length ((st0.run l1).k a) ((st0.run l1).k b))) b (mrg (plO l1).length ((st0.run l1).k a) ((st0.run l1).k b)) := by rw [run_snoc]; rfl
      have sp : plO (l1 ++ [.meet a b]) = plO l1 := by unfold plO; rw [run_snoc]; rfl
      clear eR memN em asc
      generalize mrg (plO l1).length ((st0.run l1).k a) ((st0.run l1).k b) = R at *
      have s6 : Sub (up (up M3 w1 (.lst (((st0.run l1).k a).map nD ++ ((st0.run l1).k b).map nD))) w2 (.lst (R.map nD))) M3 := (Sub.new hw2 (by intro _ z; cases z)).trans (Sub.new hw1 (by intro _ z; cases z))
      have f6 := s6.1 _ _ k1
      have g6 := s6.1 _ _ hes
      have kl6 := KL.sub ⟨ds, k1, k2, k3⟩ s6
      have w6 : up (up M3 w1 (.lst (((st0.run l1).k a).map nD ++ ((st0.run l1).k b).map nD))) w2 (.lst (R.map nD)) w2 = some (.lst (R.map nD)) := up_same
      have nf6 : w2 ≠ f := by rintro rfl; rw [up_ne (by rintro rfl; rw [k1] at hw1; cases hw1), k1] at hw2; cases hw2
      have ne6 : w2 ≠ e := by rintro rfl; rw [up_ne (by rintro rfl; rw [hes] at hw1; cases hw1), hes] at hw2; cases hw2
      have sM := s6.trans s2
      generalize up (up M3 w1 (.lst (((st0.run l1).k a).map nD ++ ((st0.run l1).k b).map nD))) w2 (.lst (R.map nD)) = M6 at *
      obtain ⟨ds', q1, q2, q3⟩ := kl6
      rw [f6] at q1; cases q1
      have kl7 := KL.put (i := a) f6 k2 q3 w6 nf6 ne6
      have g7 : up M6 f (.lst (ds.set a (.ref w2))) e = some (.lst ((ends (plO l1)).map nD)) := by rw [up_ne nfe.symm]; exact g6
      have w7 : up M6 f (.lst (ds.set a (.ref w2))) w2 = some (.lst (R.map nD)) := by rw [up_ne nf6]; exact w6
      have s7 := sub_at (r := f) (o := .lst (ds.set a (.ref w2))) sM hf0 (by intro _ z; cases z)
      refine ⟨f, rfl, .inl ⟨ds, (a : Int), a, rfl, f6, by rw [k2]; exact ixN_lt (by omega) (by omega), f, rfl, .inl ⟨ds.set a (.ref w2), (b : Int), b, rfl, up_same, by rw [List.length_set, k2]; exact ixN_lt (by omega) (by omega), ?_⟩⟩⟩
      have f7 : up M6 f (.lst (ds.set a (.ref w2))) f = some (.lst (ds.set a (.ref w2))) := up_same
      generalize up M6 f (.lst (ds.set a (.ref w2))) = M7 at *
      obtain ⟨ds7, q7, q4, q5⟩ := kl7
      rw [f7] at q7; cases q7
      refine sb0 (hP _ _ ⟨sub_at s7 hf0 (by intro _ z; cases z), ?_, by rw [up_ne nfe.symm, sp]; exact g7, _, _, _, _, rfl⟩)
      rw [st]
      exact KL.put f7 q4 q5 w7 nf6 ne6
  · rintro δ' M3 ⟨s2, kl, hes, a, b, c, d, rfl⟩
    refine ⟨hgg _ s2, ?_⟩
    rw [h1]
    simp (config := {failIfUnchanged := false}) only [dC, dOp, dTest, dChain, dAnd, dOr, dNot, dAndV, dOrV, dNotV, dIf, dNil, dCons, dTup, dLst, dCB, d1, dNoPart, dPart, dSl, dCut, dNeg, dSorted, dSum, dAll, dAny, dInt, dAbs, dMax, dMin, dIsi, isT, dNext, dSeq, dBrk, dCont, dNever, dExpr, dRet, dRetN, dIfS, dAsg, dPutI, dI0, dI, dIsN, dNotN, dRng1, dRng2, dRngDn, dZipI, dYes, dCall, dLM, dAppend, dExtend, dReverse, dInsert, dAugI, dRg1, dRg2, dTupRg, dLstRg, dNewK, dNewT, ↓S0_, ↓S1_, ↓S2_, ↓S3_, ↓S4_, ↓S5_, ↓S6_, List.map_cons, List.map_nil, List.length_cons, List.length_nil, List.replicate, List.cons_append, List.nil_append, Nat.reduceAdd, Nat.reduceSub, Nat.zero_add, List.getElem?_cons_zero, List.getElem?_cons_succ, Option.some.injEq, exists_eq_left, exists_eq_left', List.set_cons_zero, List.set_cons_succ, wipeD, D.int.injEq, D.bl.injEq, D.str.injEq, D.ref.injEq, D.tup.injEq, D.ty.injEq, true_and, and_true, forall_const, forall_eq', forall_eq, mt_int, mt_bool, mt_str, mt_tuple, mt_list, mt_dict, st_int_int, st_int_bool, st_int_str, st_int_tuple, st_int_list, st_int_dict, st_bool_int, st_bool_bool, st_bool_str, st_bool_tuple, st_bool_list, st_bool_dict, st_str_int, st_str_bool, st_str_str, st_str_tuple, st_str_list, st_str_dict, st_tuple_int, st_tuple_bool, st_tuple_str, st_tuple_tuple, st_tuple_list, st_tuple_dict, st_list_int, st_list_bool, st_list_str, st_list_tuple, st_list_list, st_list_dict, st_dict_int, st_dict_bool, st_dict_str, st_dict_tuple, st_dict_list, st_dict_dict, eq_self, Bool.true_eq_false, Bool.false_eq_true, false_implies, true_implies, implies_true, decide_eq_true_eq, decide_eq_false_iff_not, Bool.not_true, Bool.not_false, Bool.not_eq_true, Bool.not_eq_false, Bool.not_eq_true', Bool.not_eq_false', not_true_eq_false, not_false_eq_true, false_and, and_false, or_false, false_or, reduceCtorEq, ↓exLSu, ↓exDKu, ↓exDKd, ↓exLSd, ↓exLu, ↓dIxRu, ↓dPutu, ↓dGetAu, ↓dEq_int, ↓dNe_int, ↓dEq_bl, ↓dNe_bl, ↓dEq_str, ↓dNe_str, ↓dAdd_int, ↓exAt10, ↓exIx10, ↓exAt20, ↓exIx20, ↓exAt21, ↓exIx21, ↓exAt30, ↓exIx30, ↓exAt31, ↓exIx31, ↓exAt32, ↓exIx32, ↓exAt40, ↓exIx40, ↓exAt41, ↓exIx41, ↓exAt42, ↓exIx42, ↓exAt43, ↓exIx43, ↓exAt50, ↓exIx50, ↓exAt51, ↓exIx51, ↓exAt52, ↓exIx52, ↓exAt53, ↓exIx53, ↓exAt54, ↓exIx54, ↓exAt60, ↓exIx60, ↓exAt61, ↓exIx61, ↓exAt62, ↓exIx62, ↓exAt63, ↓exIx63, ↓exAt64, ↓exIx64, ↓exAt65, ↓exIx65, up_up, false_or, or_false, ↓exAtM, ↓dFlag_bl, ↓exBl, ↓exInt, ↓exRef, ↓dVar0, ↓dAug0, ↓dSet0, ↓dTgN0, ↓dTgW0, ↓dVar1, ↓dAug1, ↓dSet1, ↓dTgN1, ↓dTgW1, ↓dVar2, ↓dAug2, ↓dSet2, ↓dTgN2, ↓dTgW2, ↓dVar3, ↓dAug3, ↓dSet3, ↓dTgN3, ↓dTgW3, ↓dVar4, ↓dAug4, ↓dSet4, ↓dTgN4, ↓dTgW4, ↓dVar5, ↓dAug5, ↓dSet5, ↓dTgN5, ↓dTgW5, ↓dVar6, ↓dAug6, ↓dSet6, ↓dTgN6, ↓dTgW6, ↓dVar7, ↓dAug7, ↓dSet7, ↓dTgN7, ↓dTgW7, ↓dVar8, ↓dAug8, ↓dSet8, ↓dTgN8, ↓dTgW8, ↓dVar9, ↓dAug9, ↓dSet9, ↓dTgN9, ↓dTgW9, ↓dVar10, ↓dAug10, ↓dSet10, ↓dTgN10, ↓dTgW10, ↓dVar11, ↓dAug11, ↓dSet11, ↓dTgN11, ↓dTgW11, ↓dVar12, ↓dAug12, ↓dSet12, ↓dTgN12, ↓dTgW12, ↓dVar13, ↓dAug13, ↓dSet13, ↓dTgN13, ↓dTgW13, ↓dVar14, ↓dAug14, ↓dSet14, ↓dTgN14, ↓dTgW14, ↓dVar15, ↓dAug15, ↓dSet15, ↓dTgN15, ↓dTgW15, ↓dVar16, ↓dAug16, ↓dSet16, ↓dTgN16, ↓dTgW16, ↓dVar17, ↓dAug17, ↓dSet17, ↓dTgN17, ↓dTgW17, ↓dVar18, ↓dAug18, ↓dSet18, ↓dTgN18, ↓dTgW18, ↓dVar19, ↓dAug19, ↓dSet19, ↓dTgN19, ↓dTgW19, ↓dTg_t2, ↓dTg_t3, ↓exGetM, ↓exSumU, nD, plD, rwD, ↓dAdd_tup, ↓dAdd_ref, dIx_tup, dIx_str, dIx_ref, dIx_kl, dListOf_tup, dListOf_kl, dListOf_ref, dLen_tup, dLen_str, dLen_kl, dLen_ref, dTupOf_tup, dTupOf_ref, dSeqI_x, sqX_tup, sqX_ref, sqX_str, dEnumI_x, enX_tup, enX_ref, dSrtSet, dSortA, dIsi2, isT2, Bool.or_true, Bool.true_or, Bool.or_false, Bool.or_self, dReprR, dReprT, dDGet2]
    refine ⟨(ends (plO l)).map fun n : Nat => (n : Int), by rw [nD_ints]; exact .inl hes, ?_⟩
    rw [sumN]
    exact s2.dn h
end
theorem shw_put : Shw 20 0 (.str sPut) := ⟨by rw [PyData.showable], by rw [PyData.hasDict], by rw [PyData.leavesShort]; decide, by rw [PyData.weight]; decide, by rw [PyData.depth]; exact Nat.le_refl _⟩
theorem shw_meet : Shw 20 0 (.str sMeet) := ⟨by rw [PyData.showable], by rw [PyData.hasDict], by rw [PyData.leavesShort]; decide, by rw [PyData.weight]; decide, by rw [PyData.depth]; exact Nat.le_refl _⟩
theorem ev_pd {M : Hd} {e : Ev} (h : e.ok) : ∃ d, Pd M (evD e) d ∧ Shw 63 1 d := by
  cases e with
  | put a =>
    have h : a < 16 := h
    refine ⟨.tuple [.str sPut, .int (a : Int)], .tup (.cons (.str _) (.cons (.int _) .nil)), (Shw.tuple (w := 20) (k := 0) fun d hd => ?_).mono (by simp) (Nat.le_refl _)⟩
    rcases List.mem_cons.mp hd with rfl | hd
    · exact shw_put
    · rw [List.mem_singleton] at hd; subst hd; exact Shw.nat (by omega)
  | meet a b =>
    obtain ⟨h1, h2, _⟩ : a < 16 ∧ b < 16 ∧ a ≠ b := h
    refine ⟨.tuple [.str sMeet, .int (a : Int), .int (b : Int)], .tup (.cons (.str _) (.cons (.int _) (.cons (.int _) .nil))), (Shw.tuple (w := 20) (k := 0) fun d hd => ?_).mono (by simp) (Nat.le_refl _)⟩
    rcases List.mem_cons.mp hd with rfl | hd
    · exact shw_meet
    · rcases List.mem_cons.mp hd with rfl | hd
      · exact Shw.nat (by omega)
      · rw [List.mem_singleton] at hd; subst hd; exact Shw.nat (by omega)
theorem DayO.pd {M : Hd} {x : D} {l : List Ev} (h : DayO M x l) : ∃ d, Pd M x d ∧ Shw (2 ^ 20) 2 d := by
  obtain ⟨d, p, s⟩ := sqO_pd (w := 63) (k := 1) h.sq fun y hy => by
    obtain ⟨e, he, rfl⟩ := List.mem_map.mp hy
    exact ev_pd (h.ok e he)
  refine ⟨d, p, s.mono ?_ (Nat.le_refl _)⟩
  have h60 := h.len
  rw [List.length_map]
  have : l.length * (63 + 1) ≤ 60 * (63 + 1) := Nat.mul_le_mul_right _ h60
  exact Nat.le_trans this (by decide)
/-! ### choices of meets: the plain law -/
theorem sn_ind {α : Type} {motive : List α → Prop} (nil : motive []) (snoc : ∀ l a, motive l → motive (l ++ [a])) (l : List α) : motive l := by
  have h : ∀ r : List α, motive r.reverse := fun r => by
    induction r with
    | nil => exact nil
    | cons a r ih => rw [List.reverse_cons]; exact snoc _ _ ih
  have := h l.reverse
  rwa [List.reverse_reverse] at this
theorem nd_sub {α : Type} [DecidableEq α] : ∀ {l m : List α}, l.Nodup → (∀ x ∈ l, x ∈ m) → l.length ≤ m.length
  | [], _, _, _ => Nat.zero_le _
  | a :: l, m, nd, h => by
    have p := List.perm_cons_erase (h a (by simp))
    have nd' := List.nodup_cons.mp nd
    have := nd_sub (l := l) (m := m.erase a) nd'.2 (fun x hx => (List.mem_erase_of_ne (fun z => nd'.1 (by rw [← z]; exact hx))).mpr (h x (by simp [hx])))
    rw [p.length_eq, List.length_cons, List.length_cons]
    omega
abbrev ltN (a b : Nat) : Bool := decide (a < b)
theorem lexB_lt : ∀ (a b : List Nat), lexB ltN a b = true ↔ a < b
  | [], [] => ⟨fun h => absurd h (by decide), fun h => absurd h (List.not_lt_nil _)⟩
  | [], _ :: _ => ⟨fun _ => List.nil_lt_cons .., fun _ => rfl⟩
  | _ :: _, [] => ⟨fun h => (by cases h), fun h => absurd h (List.not_lt_nil _)⟩
  | a :: x, b :: y => by
    have ih := lexB_lt x y
    rw [List.cons_lt_cons_iff, ← ih]
    show (if a = b then lexB ltN x y else decide (a < b)) = true ↔ _
    by_cases e : a = b
    · subst e
      rw [if_pos rfl]
      exact ⟨fun h => .inr ⟨rfl, h⟩, fun h => h.elim (fun z => absurd z (Nat.lt_irrefl _)) fun z => z.2⟩
    · rw [if_neg e, decide_eq_true_eq]
      exact ⟨.inl, fun h => h.elim id fun z => absurd z.1 e⟩
theorem lexB_app {a b : List Nat} (h : a.length = b.length) (c d : List Nat) : lexB ltN a b = true → lexB ltN (a ++ c) (b ++ d) = true := by
  induction a generalizing b with
  | nil =>
    cases b with
    | nil => intro z; cases z
    | cons _ _ => simp at h
  | cons x a ih =>
    cases b with
    | nil => simp at h
    | cons y b =>
      intro z
      have z : (if x = y then lexB ltN a b else decide (x < y)) = true := z
      show (if x = y then lexB ltN (a ++ c) (b ++ d) else decide (x < y)) = true
      by_cases e : x = y
      · rw [if_pos e] at z ⊢
        exact ih (by simpa using h) z
      · rw [if_neg e] at z ⊢
        exact z
theorem lexB_pre (a c d : List Nat) : lexB ltN (a ++ c) (a ++ d) = lexB ltN c d := by
  induction a with
  | nil => rfl
  | cons x a ih =>
    show (if x = x then lexB ltN (a ++ c) (a ++ d) else decide (x < x)) = _
    rw [if_pos rfl, ih]
/-- what may go on a row -/
def goOn (items row : List Nat) : List Nat := items.filter fun i => decide (row = []) || decide (row.getLastD 0 < i)
def chz (items : List Nat) : Nat → List (List Nat)
  | 0 => [[]]
  | s + 1 => (chz items s).flatMap fun row => (goOn items row).map fun i => row ++ [i]
/-- the shorter first, then the lesser -/
def ltR (a b : List Nat) : Bool := decide (a.length < b.length) || (decide (a.length = b.length) && lexB ltN a b)
theorem chz_len {items : List Nat} : ∀ (s : Nat), ∀ w ∈ chz items s, w.length = s
  | 0, w, h => by
    have : w = [] := by simpa [chz] using h
    rw [this]; rfl
  | s + 1, w, h => by
    obtain ⟨r, hr, h2⟩ := List.mem_flatMap.mp h
    obtain ⟨i, _, rfl⟩ := List.mem_map.mp h2
    rw [List.length_append, chz_len s r hr]; rfl
theorem asc_snoc {r : List Nat} {i : Nat} : (r ++ [i]).Pairwise (· < ·) ↔ r.Pairwise (· < ·) ∧ (r = [] ∨ r.getLastD 0 < i) := by
  rw [List.pairwise_append]
  constructor
  · rintro ⟨h1, _, h3⟩
    refine ⟨h1, ?_⟩
    cases e : r with
    | nil => exact .inl rfl
    | cons a l =>
      right
      have : r ≠ [] := by rw [e]; simp
      have hm : r.getLastD 0 ∈ r := by
        rw [List.getLastD_eq_getLast?, List.getLast?_eq_some_getLast this]
        exact List.getLast_mem this
      have := h3 _ hm i (by simp)
      rw [e] at this
      exact this
  · rintro ⟨h1, h2⟩
    refine ⟨h1, List.pairwise_singleton _ _, fun a ha b hb => ?_⟩
    rw [List.mem_singleton] at hb
    subst hb
    rcases h2 with rfl | h2
    · cases ha
    · obtain ⟨c, x, rfl⟩ : ∃ c x, r = c ++ [x] := by
        have : r ≠ [] := by rintro rfl; cases ha
        exact ⟨r.dropLast, r.getLast this, (List.dropLast_concat_getLast this).symm⟩
      rw [List.getLastD_eq_getLast?, List.getLast?_concat] at h2
      have h2 : x < b := h2
      rcases List.mem_append.mp ha with z | z
      · have := (List.pairwise_append.mp h1).2.2 a z x (by simp)
        omega
      · rw [List.mem_singleton] at z; omega
theorem chz_mem {items : List Nat} : ∀ (s : Nat) (w : List Nat), w ∈ chz items s ↔ w.length = s ∧ w.Pairwise (· < ·) ∧ ∀ x ∈ w, x ∈ items
  | 0, w => by
    show w ∈ [[]] ↔ _
    rw [List.mem_singleton]
    constructor
    · rintro rfl; exact ⟨rfl, .nil, by simp⟩
    · exact fun h => List.length_eq_zero_iff.mp h.1
  | s + 1, w => by
    have ih := chz_mem (items := items) s
    constructor
    · intro h
      obtain ⟨r, hr, h2⟩ := List.mem_flatMap.mp h
      obtain ⟨i, hi, rfl⟩ := List.mem_map.mp h2
      obtain ⟨a1, a2, a3⟩ := (ih r).mp hr
      obtain ⟨b1, b2⟩ := List.mem_filter.mp hi
      rw [Bool.or_eq_true, decide_eq_true_eq, decide_eq_true_eq] at b2
      refine ⟨by rw [List.length_append, a1]; rfl, asc_snoc.mpr ⟨a2, b2⟩, fun x hx => ?_⟩
      rcases List.mem_append.mp hx with z | z
      · exact a3 x z
      · rw [List.mem_singleton] at z; subst z; exact b1
    · rintro ⟨h1, h2, h3⟩
      have hne : w ≠ [] := by rintro rfl; cases h1
      obtain ⟨r, i, rfl⟩ : ∃ c x, w = c ++ [x] := ⟨w.dropLast, w.getLast hne, (List.dropLast_concat_getLast hne).symm⟩
      obtain ⟨a1, a2⟩ := asc_snoc.mp h2
      refine List.mem_flatMap.mpr ⟨r, (ih r).mpr ⟨by simpa using h1, a1, fun x hx => h3 x (by simp [hx])⟩, List.mem_map.mpr ⟨i, List.mem_filter.mpr ⟨h3 i (by simp), ?_⟩, rfl⟩⟩
      rw [Bool.or_eq_true, decide_eq_true_eq, decide_eq_true_eq]
      exact a2
theorem chz_pw {items : List Nat} (hi : items.Pairwise (· < ·)) : ∀ s : Nat, (chz items s).Pairwise (fun a b => lexB ltN a b = true)
  | 0 => List.pairwise_singleton _ _
  | s + 1 => by
    have ih := chz_pw hi s
    have hl := chz_len (items := items) s
    show ((chz items s).flatMap fun row => (goOn items row).map fun i => row ++ [i]).Pairwise _
    generalize chz items s = R at *
    induction R with
    | nil => exact .nil
    | cons r R ihR =>
      rw [List.flatMap_cons, List.pairwise_append]
      rw [List.pairwise_cons] at ih
      refine ⟨?_, ihR ih.2 fun w hw => hl w (by simp [hw]), fun a ha b hb => ?_⟩
      · rw [List.pairwise_map]
        refine (hi.filter _).imp fun {a b} hab => ?_
        rw [lexB_pre]
        show (if a = b then lexB ltN [] [] else decide (a < b)) = true
        rw [if_neg (by omega), decide_eq_true hab]
      · obtain ⟨i, _, rfl⟩ := List.mem_map.mp ha
        obtain ⟨r2, hr2, hb2⟩ := List.mem_flatMap.mp hb
        obtain ⟨j, _, rfl⟩ := List.mem_map.mp hb2
        exact lexB_app ((hl r (by simp)).trans (hl r2 (by simp [hr2])).symm) _ _ (ih.1 r2 hr2)
def allc (items : List Nat) (n : Nat) : List (List Nat) := (List.range n).flatMap (chz items)
theorem allc_succ (items : List Nat) (n : Nat) : allc items (n + 1) = allc items n ++ chz items n := by
  unfold allc
  rw [List.range_succ, List.flatMap_append]
  simp
theorem allc_pw {items : List Nat} (hi : items.Pairwise (· < ·)) : ∀ n : Nat, (allc items n).Pairwise (fun a b => ltR a b = true)
  | 0 => .nil
  | n + 1 => by
    rw [allc_succ, List.pairwise_append]
    refine ⟨allc_pw hi n, (chz_pw hi n).imp_of_mem fun {a b} ha hb h => ?_, fun a ha b hb => ?_⟩
    · unfold ltR
      rw [h, chz_len n a ha, chz_len n b hb, decide_eq_true rfl, Bool.and_true, Bool.or_true]
    · obtain ⟨s, hs, ha⟩ := List.mem_flatMap.mp ha
      have := List.mem_range.mp hs
      unfold ltR
      rw [chz_len s a ha, chz_len n b hb, decide_eq_true this, Bool.true_or]
theorem allc_mem {items : List Nat} {n : Nat} {w : List Nat} : w ∈ allc items n ↔ w.length < n ∧ w.Pairwise (· < ·) ∧ ∀ x ∈ w, x ∈ items := by
  unfold allc
  rw [List.mem_flatMap]
  constructor
  · rintro ⟨s, hs, h⟩
    obtain ⟨a, b⟩ := (chz_mem s w).mp h
    exact ⟨by rw [a]; exact List.mem_range.mp hs, b⟩
  · rintro ⟨a, b⟩
    exact ⟨w.length, List.mem_range.mpr a, (chz_mem _ w).mpr ⟨rfl, b⟩⟩
/-- the law's ways: each item doubles them -/
def dbl : List Nat → List (List Nat) := fun items => items.foldl (fun R i => R ++ R.map fun r => r ++ [i]) [[]]
theorem dbl_snoc (items : List Nat) (i : Nat) : dbl (items ++ [i]) = dbl items ++ (dbl items).map fun r => r ++ [i] := by
  unfold dbl
  rw [List.foldl_append]; rfl
theorem dbl_len : ∀ items : List Nat, (dbl items).length = 2 ^ items.length := fun items => by
  induction items using sn_ind with
  | nil => rfl
  | snoc l i ih => rw [dbl_snoc, List.length_append, List.length_map, ih, List.length_append, List.length_singleton, Nat.pow_succ]; omega
theorem dbl_head (items : List Nat) : (dbl items)[0]? = some [] := by
  induction items using sn_ind with
  | nil => rfl
  | snoc l i ih =>
    rw [dbl_snoc, List.getElem?_append_left (by rw [dbl_len]; exact Nat.pow_pos (by omega))]
    exact ih
theorem dbl_mem (items : List Nat) : items.Pairwise (· < ·) → ∀ w : List Nat, w ∈ dbl items ↔ w.Pairwise (· < ·) ∧ ∀ x ∈ w, x ∈ items := by
  induction items using sn_ind with
  | nil =>
    intro _ w
    show w ∈ [[]] ↔ _
    rw [List.mem_singleton]
    constructor
    · rintro rfl; exact ⟨.nil, by simp⟩
    · intro h
      cases w with
      | nil => rfl
      | cons a w => have := h.2 a (by simp); cases this
  | snoc l i ih =>
    intro pw w
    obtain ⟨pl, _, pi⟩ := List.pairwise_append.mp pw
    rw [dbl_snoc, List.mem_append, List.mem_map]
    constructor
    · rintro (h | ⟨r, hr, rfl⟩)
      · obtain ⟨a, b⟩ := (ih pl w).mp h
        exact ⟨a, fun x hx => by simp [b x hx]⟩
      · obtain ⟨a, b⟩ := (ih pl r).mp hr
        refine ⟨List.pairwise_append.mpr ⟨a, List.pairwise_singleton _ _, fun x hx y hy => ?_⟩, fun x hx => ?_⟩
        · rw [List.mem_singleton] at hy; subst hy
          exact pi x (b x hx) y (by simp)
        · rcases List.mem_append.mp hx with z | z
          · simp [b x z]
          · simp [List.mem_singleton.mp z]
    · rintro ⟨a, b⟩
      by_cases h : i ∈ w
      · right
        obtain ⟨c, d, rfl⟩ := List.append_of_mem h
        have hd : d = [] := by
          cases d with
          | nil => rfl
          | cons y d =>
            obtain ⟨_, h2, _⟩ := List.pairwise_append.mp a
            have h3 := (List.pairwise_cons.mp h2).1 y (by simp)
            rcases List.mem_append.mp (b y (by simp)) with z | z
            · have := pi y z i (by simp); omega
            · rw [List.mem_singleton] at z; omega
        subst hd
        refine ⟨c, (ih pl c).mpr ⟨(List.pairwise_append.mp a).1, fun x hx => ?_⟩, rfl⟩
        rcases List.mem_append.mp (b x (by simp [hx])) with z | z
        · exact z
        · rw [List.mem_singleton] at z
          subst z
          have := (List.pairwise_append.mp a).2.2 x hx x (by simp)
          omega
      · left
        refine (ih pl w).mpr ⟨a, fun x hx => ?_⟩
        rcases List.mem_append.mp (b x hx) with z | z
        · exact z
        · rw [List.mem_singleton] at z; subst z; exact absurd hx h
theorem ltR_irr (a : List Nat) : ltR a a = false := by
  unfold ltR
  have : lexB ltN a a = false := by
    cases h : lexB ltN a a with
    | false => rfl
    | true => exact absurd ((lexB_lt a a).mp h) (List.lt_irrefl a)
  rw [this, decide_eq_false (Nat.lt_irrefl _), Bool.and_false]; rfl
theorem asc_len {w items : List Nat} (hw : w.Pairwise (· < ·)) (h : ∀ x ∈ w, x ∈ items) : w.length ≤ items.length := by
  have nd : w.Nodup := hw.imp fun h => Nat.ne_of_lt h
  exact nd_sub nd h
/-- the first that is found is the least of the good ones -/
theorem first_least {items : List Nat} (hi : items.Pairwise (· < ·)) (P : List Nat → Bool) {a : List (List Nat)} {f : List Nat} {b : List (List Nat)} (e : allc items (items.length + 1) = a ++ f :: b) (ha : ∀ x ∈ a, P x = false) (hf : P f = true)
    {g : List Nat} {G : List (List Nat)} (pG : (g :: G).Perm ((dbl items).filter P)) (sG : (g :: G).Pairwise (fun x y => ltR y x = false)) : g = f := by
  have mem : ∀ w, w ∈ allc items (items.length + 1) ↔ w ∈ dbl items := fun w => by
    rw [allc_mem, dbl_mem items hi]
    constructor
    · exact fun h => h.2
    · exact fun h => ⟨by have := asc_len h.1 h.2; omega, h⟩
  have hfG : f ∈ g :: G := pG.mem_iff.mpr (List.mem_filter.mpr ⟨(mem f).mp (by rw [e]; simp), hf⟩)
  have hg := List.mem_filter.mp (pG.mem_iff.mp (show g ∈ g :: G by simp))
  have hga := (mem g).mpr hg.1
  rcases List.mem_cons.mp hfG with rfl | hfG
  · rfl
  · have h1 := (List.pairwise_cons.mp sG).1 f hfG
    rw [e] at hga
    rcases List.mem_append.mp hga with z | z
    · rw [ha g z] at hg; cases hg.2
    · rcases List.mem_cons.mp z with z | z
      · exact z
      · have pw := allc_pw hi (items.length + 1)
        rw [e] at pw
        have := (List.pairwise_cons.mp (List.pairwise_append.mp pw).2.1).1 g z
        rw [h1] at this
        cases this
theorem none_good {items : List Nat} (hi : items.Pairwise (· < ·)) (P : List Nat → Bool) (h : ∀ x ∈ allc items (items.length + 1), P x = false) : (dbl items).filter P = [] := by
  refine List.filter_eq_nil_iff.mpr fun w hw z => ?_
  obtain ⟨a, b⟩ := (dbl_mem items hi w).mp hw
  rw [h w (allc_mem.mpr ⟨by have := asc_len a b; omega, a, b⟩)] at z
  cases z
/-! ### a day without some of its events -/
def wo (l : List Ev) (w : List Nat) : List Ev := (l.zipIdx.filter fun p => decide (p.2 ∉ w)).map (·.1)
theorem wo_sl (l : List Ev) (w : List Nat) : (wo l w).Sublist l := by
  have h := (List.filter_sublist (l := l.zipIdx) (p := fun p => decide (p.2 ∉ w))).map (·.1)
  rw [List.zipIdx_map_fst] at h
  exact h
theorem wo_nil (l : List Ev) : wo l [] = l := by
  unfold wo
  rw [List.filter_eq_self.mpr fun p _ => by simp, List.zipIdx_map_fst]
/-- the places of the meets -/
def mts (l : List Ev) : List Nat := (l.zipIdx.filter fun p => !p.1.isPut).map (·.2)
theorem zip_snd (l : List Ev) : l.zipIdx.map (·.2) = List.range l.length := by
  rw [List.zipIdx_map_snd, List.range_eq_range']
theorem mts_asc (l : List Ev) : (mts l).Pairwise (· < ·) := by
  have h := (List.filter_sublist (l := l.zipIdx) (p := fun p => !p.1.isPut)).map (·.2)
  rw [zip_snd] at h
  exact List.pairwise_lt_range.sublist h
theorem mts_snoc (l : List Ev) (e : Ev) : mts (l ++ [e]) = if e.isPut then mts l else mts l ++ [l.length] := by
  unfold mts
  rw [List.zipIdx_append, List.filter_append, List.map_append]
  cases h : e.isPut <;> simp [h]
theorem mts_len (l : List Ev) : (mts l).length = (l.filter fun e => !e.isPut).length := by
  induction l using sn_ind with
  | nil => rfl
  | snoc l e ih =>
    rw [mts_snoc, List.filter_append, List.length_append, ← ih]
    cases h : e.isPut <;> simp [h]
theorem zip_at {l : List Ev} {p : Ev × Nat} (h : p ∈ l.zipIdx) : l[p.2]? = some p.1 := by
  obtain ⟨e, i⟩ := p
  exact List.mem_zipIdx_iff_getElem?.mp h
theorem zip_enum (l : List Ev) : enumD (l.map evD) = l.zipIdx.map fun p => D.tup [.int (p.2 : Int), evD p.1] := by
  unfold enumD
  rw [List.zipIdx_map, List.map_map]
  rfl
/-- the first choice that leaves few enough -/
def Lo (l : List Ev) (m : Int) : Option (List Nat) := (allc (mts l) ((mts l).length + 1)).find? fun w => decide ((chO (wo l w) : Int) ≤ m)
def loD : Option (List Nat) → D
  | some w => rwD w
  | none => .non
theorem chz_cap {items : List Nat} (hi : items.Pairwise (· < ·)) (s : Nat) : (chz items s).length ≤ 2 ^ items.length := by
  have nd : (chz items s).Nodup := (chz_pw hi s).imp fun {a b} h => by
    rintro rfl
    exact absurd ((lexB_lt a a).mp h) (List.lt_irrefl a)
  rw [← dbl_len items]
  refine nd_sub nd fun w hw => ?_
  obtain ⟨_, b, c⟩ := (chz_mem s w).mp hw
  exact (dbl_mem items hi w).mpr ⟨b, c⟩
def okE (row : List Nat) (j : Nat) : Bool := decide (row = []) || decide (row.getLastD 0 < j)
def accD (it row : List Nat) : List (List Nat) := (goOn it row).map fun i => row ++ [i]
def accC (it : List Nat) (R : List (List Nat)) : List (List Nat) := R.flatMap fun row => accD it row
theorem accC_chz (it : List Nat) (i : Nat) : accC it (chz it i) = chz it (i + 1) := rfl
theorem accC_snoc (it : List Nat) (R : List (List Nat)) (row : List Nat) : accC it (R ++ [row]) = accC it R ++ accD it row := by
  unfold accC
  rw [List.flatMap_append]; simp
theorem accD_nil (row : List Nat) : accD [] row = [] := rfl
theorem accD_snoc (it row : List Nat) (j : Nat) : accD (it ++ [j]) row = accD it row ++ if okE row j then [row ++ [j]] else [] := by
  unfold accD goOn
  rw [List.filter_append, List.map_append]
  congr 1
  show ([j].filter fun i => okE row i).map _ = _
  cases h : okE row j <;> simp [h]
theorem take_snoc {α : Type} {l : List α} {i : Nat} {a : α} (h : l[i]? = some a) : l.take (i + 1) = l.take i ++ [a] := by
  rw [List.take_add_one, h]; rfl
theorem acc_cap {it : List Nat} (hpw : it.Pairwise (· < ·)) (hit : it.length ≤ 10) {i n m : Nat} {row : List Nat} (hrow : (chz it i)[n]? = some row) : (accC it ((chz it i).take n) ++ accD (it.take m) row).length ≤ 1024 := by
  have h1 : (accD (it.take m) row).length ≤ (accD it row).length := by
    unfold accD goOn
    rw [List.length_map, List.length_map]
    exact ((List.take_sublist m it).filter _).length_le
  have h2 : accC it ((chz it i).take (n + 1)) = accC it ((chz it i).take n) ++ accD it row := by rw [take_snoc hrow, accC_snoc]
  have h3 : (accC it ((chz it i).take (n + 1))).length ≤ (accC it (chz it i)).length := by
    unfold accC
    conv => rhs; rw [← List.take_append_drop (n + 1) (chz it i), List.flatMap_append, List.length_append]
    exact Nat.le_add_right _ _
  have h4 : 2 ^ it.length ≤ 2 ^ 10 := Nat.pow_le_pow_right (by omega) hit
  have h5 := congrArg List.length h2
  have h6 := chz_cap hpw (i + 1)
  rw [accC_chz] at h3
  rw [List.length_append] at h5 ⊢
  omega
theorem at_last {row : List Nat} (h : row ≠ []) : atI row (-1) = some (row.getLastD 0) := by
  obtain ⟨c, i, rfl⟩ : ∃ c i, row = c ++ [i] := ⟨row.dropLast, row.getLast h, (List.dropLast_concat_getLast h).symm⟩
  have e1 : L2.ixN (c ++ [i]).length (-1) = some c.length := by
    unfold L2.ixN
    simp
    omega
  unfold L2.atI
  rw [e1]
  simp
theorem allc_split (it : List Nat) {i n : Nat} (h : i < n) : ∃ rest, allc it n = allc it i ++ chz it i ++ rest := by
  induction n with
  | zero => omega
  | succ n ih =>
    rw [allc_succ]
    by_cases e : i = n
    · subst e
      exact ⟨[], by rw [List.append_nil]⟩
    · obtain ⟨r, hr⟩ := ih (by omega)
      exact ⟨r ++ chz it n, by rw [hr, List.append_assoc (allc it i ++ chz it i)]⟩
theorem Lo_some {l : List Ev} {m : Int} {i : Nat} (hi : i < (mts l).length + 1) {a b : List (List Nat)} {w : List Nat} (e : chz (mts l) i = a ++ w :: b) (h1 : ∀ x ∈ allc (mts l) i, ¬ (chO (wo l x) : Int) ≤ m) (h2 : ∀ x ∈ a, ¬ (chO (wo l x) : Int) ≤ m) (h3 : (chO (wo l w) : Int) ≤ m) : Lo l m = some w := by
  obtain ⟨r, hr⟩ := allc_split (mts l) hi
  unfold Lo
  rw [hr, e, List.find?_eq_some_iff_append]
  refine ⟨decide_eq_true h3, allc (mts l) i ++ a, b ++ r, by simp, fun x hx => ?_⟩
  rw [Bool.not_eq_true']
  exact decide_eq_false ((List.mem_append.mp hx).elim (h1 x) (h2 x))
theorem Lo_none {l : List Ev} {m : Int} (h : ∀ x ∈ allc (mts l) ((mts l).length + 1), ¬ (chO (wo l x) : Int) ≤ m) : Lo l m = none := by
  unfold Lo
  rw [List.find?_eq_none]
  exact fun x hx z => h x hx (of_decide_eq_true z)
/-- as many chains as the day has: nothing is left out -/
theorem Lo_all {l : List Ev} {m : Int} (h : (chO l : Int) ≤ m) : Lo l m = some [] := by
  refine Lo_some (i := 0) (by omega) (a := []) (b := []) rfl (fun x hx => ?_) (fun x hx => by cases hx) (by rw [wo_nil]; exact h)
  cases hx
theorem mts_wo (l : List Ev) (w : List Nat) : (mts (wo l w)).length ≤ (mts l).length := by
  rw [mts_len, mts_len]
  exact ((wo_sl l w).filter _).length_le
theorem Lo_case {l : List Ev} {m : Int} {G : List (List Nat)} (pG : G.Perm ((dbl (mts l)).filter fun w => decide ((chO (wo l w) : Int) ≤ m))) (sG : G.Pairwise (fun x y => ltR y x = false)) : (G = [] ∧ Lo l m = none) ∨ ∃ w G', G = w :: G' ∧ Lo l m = some w ∧ (chO (wo l w) : Int) ≤ m ∧ w ∈ dbl (mts l) := by
  cases e : Lo l m with
  | none =>
    left
    refine ⟨?_, rfl⟩
    have z := none_good (mts_asc l) (fun w => decide ((chO (wo l w) : Int) ≤ m)) fun x hx => by
      have := List.find?_eq_none.mp e x hx
      simpa using this
    rw [z] at pG
    exact pG.eq_nil
  | some w =>
    right
    obtain ⟨hw, a, b, ea, ha⟩ := List.find?_eq_some_iff_append.mp e
    have ha2 : ∀ x ∈ a, (fun w => decide ((chO (wo l w) : Int) ≤ m)) x = false := fun x hx => by
      have := ha x hx
      rwa [Bool.not_eq_true'] at this
    have hm : w ∈ dbl (mts l) := by
      have h1 : w ∈ allc (mts l) ((mts l).length + 1) := by rw [ea]; simp
      exact (dbl_mem _ (mts_asc l) w).mpr (allc_mem.mp h1).2
    cases G with
    | nil =>
      have : w ∈ (dbl (mts l)).filter fun w => decide ((chO (wo l w) : Int) ≤ m) := List.mem_filter.mpr ⟨hm, hw⟩
      rw [← pG.mem_iff] at this
      cases this
    | cons g G =>
      have := first_least (mts_asc l) (fun w => decide ((chO (wo l w) : Int) ≤ m)) ea ha2 hw pG sG
      subst this
      exact ⟨_, _, rfl, rfl, of_decide_eq_true hw, hm⟩
theorem rngW {α : Type} (W : List (List Nat)) (g : List Nat → α) (P : List Nat → Bool) : (((List.range W.length).filter fun k => P (W.getD k [])).map fun k => g (W.getD k [])) = (W.filter P).map g := by
  have e : (List.range W.length).map (fun k => W.getD k []) = W := by
    apply List.ext_getElem?
    intro i
    rw [List.getElem?_map]
    by_cases h : i < W.length
    · rw [List.getElem?_range h, List.getElem?_eq_getElem h]
      simp [List.getD_eq_getElem?_getD, h]
    · rw [List.getElem?_eq_none (by rw [List.length_range]; omega), List.getElem?_eq_none (by omega)]; rfl
  conv => rhs; rw [← e, List.filter_map, List.map_map]
  rfl
/-! ### the days that are drawn -/
theorem evP (a b : Nat) : D.tup [D.str (Str.ofString "put"), D.int ((a : Int) + (b : Int))] = evD (.put (a + b)) := by
  rw [← of_eq_true sPP, evD, nD, Int.natCast_add]
theorem evM (a b c : Nat) : D.tup [D.str (Str.ofString "meet"), D.int ((a : Int) + (b : Int)), D.int ((a : Int) + (c : Int))] = evD (.meet (a + b) (a + c)) := by
  rw [← of_eq_true sMM, evD, nD, nD, Int.natCast_add, Int.natCast_add]
theorem other_ne {n h v : Nat} (h1 : h < n) (h2 : v < n - 1) : (h + 1 + v) % n < n ∧ (h + 1 + v) % n ≠ h := by
  refine ⟨Nat.mod_lt _ (by omega), ?_⟩
  by_cases e : h + 1 + v < n
  · rw [Nat.mod_eq_of_lt e]; omega
  · rw [Nat.mod_eq_sub_mod (by omega), Nat.mod_eq_of_lt (by omega)]; omega
section
variable {P : Program} {w : World} {K : PySem.W.Frag} {mg : Str → Option Value} {base : Heap}
theorem pr_check_most (G : Gv K mg) : Pr P w K mg base "check_most" 1 ["many", "most"] (S2 fun x y M Q => ∃ i j : Int, x = .int i ∧ y = .int j ∧ i ≤ j ∧ Q .non M) := by
  refine (pr3 (k := 0) G.d_check_most bi_check_most sc_check_most S2n (fun f cdv A outer s H E hr => (b_one (s_if (t_cmp od_gt (e_var 0) (e_var 1)) (b_one s_never) b_nil)))) ?_
  rintro _ M Q E ⟨_, _, rfl, i, j, rfl, rfl, hij, h⟩ H rep
  refine ⟨M, rep, fun _ h => h, ?_⟩
  simp only [startD, List.map_cons, List.map_nil, List.length_cons, List.length_nil, Nat.reduceAdd, Nat.reduceSub, Nat.zero_add, List.replicate, List.cons_append, List.nil_append]; simp (config := {failIfUnchanged := false}) only [dC, dOp, dTest, dChain, dAnd, dOr, dNot, dAndV, dOrV, dNotV, dIf, dNil, dCons, dTup, dLst, dCB, d1, dNoPart, dPart, dSl, dCut, dNeg, dSorted, dSum, dAll, dAny, dInt, dAbs, dMax, dMin, dIsi, isT, dNext, dSeq, dBrk, dCont, dNever, dExpr, dRet, dRetN, dIfS, dAsg, dPutI, dI0, dI, dIsN, dNotN, dRng1, dRng2, dRngDn, dZipI, dYes, dCall, dLM, dAppend, dExtend, dReverse, dInsert, dAugI, dRg1, dRg2, dTupRg, dLstRg, dNewK, dNewT, ↓S0_, ↓S1_, ↓S2_, ↓S3_, ↓S4_, ↓S5_, ↓S6_, List.map_cons, List.map_nil, List.length_cons, List.length_nil, List.replicate, List.cons_append, List.nil_append, Nat.reduceAdd, Nat.reduceSub, Nat.zero_add, List.getElem?_cons_zero, List.getElem?_cons_succ, Option.some.injEq, exists_eq_left, exists_eq_left', List.set_cons_zero, List.set_cons_succ, wipeD, D.int.injEq, D.bl.injEq, D.str.injEq, D.ref.injEq, D.tup.injEq, D.ty.injEq, true_and, and_true, forall_const, forall_eq', forall_eq, mt_int, mt_bool, mt_str, mt_tuple, mt_list, mt_dict, st_int_int, st_int_bool, st_int_str, st_int_tuple, st_int_list, st_int_dict, st_bool_int, st_bool_bool, st_bool_str, st_bool_tuple, st_bool_list, st_bool_dict, st_str_int, st_str_bool, st_str_str, st_str_tuple, st_str_list, st_str_dict, st_tuple_int, st_tuple_bool, st_tuple_str, st_tuple_tuple, st_tuple_list, st_tuple_dict, st_list_int, st_list_bool, st_list_str, st_list_tuple, st_list_list, st_list_dict, st_dict_int, st_dict_bool, st_dict_str, st_dict_tuple, st_dict_list, st_dict_dict, eq_self, Bool.true_eq_false, Bool.false_eq_true, false_implies, true_implies, implies_true, decide_eq_true_eq, decide_eq_false_iff_not, Bool.not_true, Bool.not_false, Bool.not_eq_true, Bool.not_eq_false, Bool.not_eq_true', Bool.not_eq_false', not_true_eq_false, not_false_eq_true, false_and, and_false, or_false, false_or, reduceCtorEq, ↓exLSu, ↓exDKu, ↓exDKd, ↓exLSd, ↓exLu, ↓dIxRu, ↓dPutu, ↓dGetAu, ↓dEq_int, ↓dNe_int, ↓dEq_bl, ↓dNe_bl, ↓dEq_str, ↓dNe_str, ↓dAdd_int, ↓exAt10, ↓exIx10, ↓exAt20, ↓exIx20, ↓exAt21, ↓exIx21, ↓exAt30, ↓exIx30, ↓exAt31, ↓exIx31, ↓exAt32, ↓exIx32, ↓exAt40, ↓exIx40, ↓exAt41, ↓exIx41, ↓exAt42, ↓exIx42, ↓exAt43, ↓exIx43, ↓exAt50, ↓exIx50, ↓exAt51, ↓exIx51, ↓exAt52, ↓exIx52, ↓exAt53, ↓exIx53, ↓exAt54, ↓exIx54, ↓exAt60, ↓exIx60, ↓exAt61, ↓exIx61, ↓exAt62, ↓exIx62, ↓exAt63, ↓exIx63, ↓exAt64, ↓exIx64, ↓exAt65, ↓exIx65, up_up, false_or, or_false, ↓exAtM, ↓dFlag_bl, ↓exBl, ↓exInt, ↓exRef, ↓dVar0, ↓dAug0, ↓dSet0, ↓dTgN0, ↓dTgW0, ↓dVar1, ↓dAug1, ↓dSet1, ↓dTgN1, ↓dTgW1, ↓dVar2, ↓dAug2, ↓dSet2, ↓dTgN2, ↓dTgW2, ↓dVar3, ↓dAug3, ↓dSet3, ↓dTgN3, ↓dTgW3, ↓dVar4, ↓dAug4, ↓dSet4, ↓dTgN4, ↓dTgW4, ↓dVar5, ↓dAug5, ↓dSet5, ↓dTgN5, ↓dTgW5, ↓dVar6, ↓dAug6, ↓dSet6, ↓dTgN6, ↓dTgW6, ↓dVar7, ↓dAug7, ↓dSet7, ↓dTgN7, ↓dTgW7, ↓dVar8, ↓dAug8, ↓dSet8, ↓dTgN8, ↓dTgW8, ↓dVar9, ↓dAug9, ↓dSet9, ↓dTgN9, ↓dTgW9, ↓dVar10, ↓dAug10, ↓dSet10, ↓dTgN10, ↓dTgW10, ↓dVar11, ↓dAug11, ↓dSet11, ↓dTgN11, ↓dTgW11, ↓dVar12, ↓dAug12, ↓dSet12, ↓dTgN12, ↓dTgW12, ↓dVar13, ↓dAug13, ↓dSet13, ↓dTgN13, ↓dTgW13, ↓dVar14, ↓dAug14, ↓dSet14, ↓dTgN14, ↓dTgW14, ↓dVar15, ↓dAug15, ↓dSet15, ↓dTgN15, ↓dTgW15, ↓dVar16, ↓dAug16, ↓dSet16, ↓dTgN16, ↓dTgW16, ↓dVar17, ↓dAug17, ↓dSet17, ↓dTgN17, ↓dTgW17, ↓dVar18, ↓dAug18, ↓dSet18, ↓dTgN18, ↓dTgW18, ↓dVar19, ↓dAug19, ↓dSet19, ↓dTgN19, ↓dTgW19, ↓dTg_t2, ↓dTg_t3, ↓exGetM, ↓exSumU, nD, plD, rwD, ↓dAdd_tup, ↓dAdd_ref, dIx_tup, dIx_str, dIx_ref, dIx_kl, dListOf_tup, dListOf_kl, dListOf_ref, dLen_tup, dLen_str, dLen_kl, dLen_ref, dTupOf_tup, dTupOf_ref, dSeqI_x, sqX_tup, sqX_ref, sqX_str, dEnumI_x, enX_tup, enX_ref, dSrtSet, dSortA, dIsi2, isT2, Bool.or_true, Bool.true_or, Bool.or_false, Bool.or_self, dReprR, dReprT, dDGet2]
  exact ⟨fun z => absurd z (by omega), fun _ => dn0 h⟩
theorem pr_choices (G : Gv K mg) : Pr P w K mg base "choices" 1 ["items", "size"] (S2 fun x y M Q => ∃ (a : Addr) (it : List Nat) (s : Nat), x = .ref a ∧ y = nD s ∧ M a = some (.lst (it.map nD)) ∧ it.Pairwise (· < ·) ∧ it.length ≤ 10 ∧ s ≤ 10 ∧ ∀ f M', Sub M' M → M f = none → M' f = some (.lst ((chz it s).map rwD)) → Q (.ref f) M') := by
  refine (pr3 (k := 0) G.d_choices bi_choices sc_choices S2n (fun f cdv A outer s H E hr => (b_cons (s_set 2 sc_choices.nd (e_lst (a_cons (e_tup a_nil) a_nil)))
      (b_cons (s_for PassesOwn.never rfl (i_rng1 (by rfl) G.b_range (a_cons (e_var 1) a_nil)) (g_nm 3 sc_choices.nd)
      (b_one (s_setLc2 2 (own := [("row", 4), ("item", 5)]) [5] rfl sc_choices.nd (sw_true rfl rfl rfl (by decide +kernel)) (i_seq (e_var 2)) (blkOk_by (by rfl)) (fun _ _ _ _ _ => (g_nm 4 sc_choices.nd)) (fun _ _ _ _ _ => ts_nil) (fun _ _ _ _ _ => (i_seq (e_var 0))) (fun _ _ _ _ _ => (g_nm 5 sc_choices.nd)) (fun _ _ _ _ _ => (ts_one (PW3.pt (w_or (t_cmp (od_eq (hu3 hr)) (e_callB cd_len (by rfl) G.b_len rfl (a_cons (e_var 4) a_nil)) e_int) (w_or1 (t_cmp od_gt (e_var 5) (e_ix (ixd (hu_of hr)) (e_var 4) (e_neg e_int)))))))) (fun _ _ _ _ _ => (e_op od_add (e_var 4) (e_tup (a_cons (e_var 5) a_nil)))))))
      (b_one (s_ret (e_var 2))))))) ?_
  rintro _ M Q E ⟨_, _, rfl, a, it, s, rfl, rfl, ha, hpw, hit, hs, h⟩ H rep
  refine ⟨M, rep, fun _ h => h, ?_⟩
  simp only [startD, List.map_cons, List.map_nil, List.length_cons, List.length_nil, Nat.reduceAdd, Nat.reduceSub, Nat.zero_add, List.replicate, List.cons_append, List.nil_append]; simp (config := {failIfUnchanged := false}) only [dC, dOp, dTest, dChain, dAnd, dOr, dNot, dAndV, dOrV, dNotV, dIf, dNil, dCons, dTup, dLst, dCB, d1, dNoPart, dPart, dSl, dCut, dNeg, dSorted, dSum, dAll, dAny, dInt, dAbs, dMax, dMin, dIsi, isT, dNext, dSeq, dBrk, dCont, dNever, dExpr, dRet, dRetN, dIfS, dAsg, dPutI, dI0, dI, dIsN, dNotN, dRng1, dRng2, dRngDn, dZipI, dYes, dCall, dLM, dAppend, dExtend, dReverse, dInsert, dAugI, dRg1, dRg2, dTupRg, dLstRg, dNewK, dNewT, ↓S0_, ↓S1_, ↓S2_, ↓S3_, ↓S4_, ↓S5_, ↓S6_, List.map_cons, List.map_nil, List.length_cons, List.length_nil, List.replicate, List.cons_append, List.nil_append, Nat.reduceAdd, Nat.reduceSub, Nat.zero_add, List.getElem?_cons_zero, List.getElem?_cons_succ, Option.some.injEq, exists_eq_left, exists_eq_left', List.set_cons_zero, List.set_cons_succ, wipeD, D.int.injEq, D.bl.injEq, D.str.injEq, D.ref.injEq, D.tup.injEq, D.ty.injEq, true_and, and_true, forall_const, forall_eq', forall_eq, mt_int, mt_bool, mt_str, mt_tuple, mt_list, mt_dict, st_int_int, st_int_bool, st_int_str, st_int_tuple, st_int_list, st_int_dict, st_bool_int, st_bool_bool, st_bool_str, st_bool_tuple, st_bool_list, st_bool_dict, st_str_int, st_str_bool, st_str_str, st_str_tuple, st_str_list, st_str_dict, st_tuple_int, st_tuple_bool, st_tuple_str, st_tuple_tuple, st_tuple_list, st_tuple_dict, st_list_int, st_list_bool, st_list_str, st_list_tuple, st_list_list, st_list_dict, st_dict_int, st_dict_bool, st_dict_str, st_dict_tuple, st_dict_list, st_dict_dict, eq_self, Bool.true_eq_false, Bool.false_eq_true, false_implies, true_implies, implies_true, decide_eq_true_eq, decide_eq_false_iff_not, Bool.not_true, Bool.not_false, Bool.not_eq_true, Bool.not_eq_false, Bool.not_eq_true', Bool.not_eq_false', not_true_eq_false, not_false_eq_true, false_and, and_false, or_false, false_or, reduceCtorEq, ↓exLSu, ↓exDKu, ↓exDKd, ↓exLSd, ↓exLu, ↓dIxRu, ↓dPutu, ↓dGetAu, ↓dEq_int, ↓dNe_int, ↓dEq_bl, ↓dNe_bl, ↓dEq_str, ↓dNe_str, ↓dAdd_int, ↓exAt10, ↓exIx10, ↓exAt20, ↓exIx20, ↓exAt21, ↓exIx21, ↓exAt30, ↓exIx30, ↓exAt31, ↓exIx31, ↓exAt32, ↓exIx32, ↓exAt40, ↓exIx40, ↓exAt41, ↓exIx41, ↓exAt42, ↓exIx42, ↓exAt43, ↓exIx43, ↓exAt50, ↓exIx50, ↓exAt51, ↓exIx51, ↓exAt52, ↓exIx52, ↓exAt53, ↓exIx53, ↓exAt54, ↓exIx54, ↓exAt60, ↓exIx60, ↓exAt61, ↓exIx61, ↓exAt62, ↓exIx62, ↓exAt63, ↓exIx63, ↓exAt64, ↓exIx64, ↓exAt65, ↓exIx65, up_up, false_or, or_false, ↓exAtM, ↓dFlag_bl, ↓exBl, ↓exInt, ↓exRef, ↓dVar0, ↓dAug0, ↓dSet0, ↓dTgN0, ↓dTgW0, ↓dVar1, ↓dAug1, ↓dSet1, ↓dTgN1, ↓dTgW1, ↓dVar2, ↓dAug2, ↓dSet2, ↓dTgN2, ↓dTgW2, ↓dVar3, ↓dAug3, ↓dSet3, ↓dTgN3, ↓dTgW3, ↓dVar4, ↓dAug4, ↓dSet4, ↓dTgN4, ↓dTgW4, ↓dVar5, ↓dAug5, ↓dSet5, ↓dTgN5, ↓dTgW5, ↓dVar6, ↓dAug6, ↓dSet6, ↓dTgN6, ↓dTgW6, ↓dVar7, ↓dAug7, ↓dSet7, ↓dTgN7, ↓dTgW7, ↓dVar8, ↓dAug8, ↓dSet8, ↓dTgN8, ↓dTgW8, ↓dVar9, ↓dAug9, ↓dSet9, ↓dTgN9, ↓dTgW9, ↓dVar10, ↓dAug10, ↓dSet10, ↓dTgN10, ↓dTgW10, ↓dVar11, ↓dAug11, ↓dSet11, ↓dTgN11, ↓dTgW11, ↓dVar12, ↓dAug12, ↓dSet12, ↓dTgN12, ↓dTgW12, ↓dVar13, ↓dAug13, ↓dSet13, ↓dTgN13, ↓dTgW13, ↓dVar14, ↓dAug14, ↓dSet14, ↓dTgN14, ↓dTgW14, ↓dVar15, ↓dAug15, ↓dSet15, ↓dTgN15, ↓dTgW15, ↓dVar16, ↓dAug16, ↓dSet16, ↓dTgN16, ↓dTgW16, ↓dVar17, ↓dAug17, ↓dSet17, ↓dTgN17, ↓dTgW17, ↓dVar18, ↓dAug18, ↓dSet18, ↓dTgN18, ↓dTgW18, ↓dVar19, ↓dAug19, ↓dSet19, ↓dTgN19, ↓dTgW19, ↓dTg_t2, ↓dTg_t3, ↓exGetM, ↓exSumU, nD, plD, rwD, ↓dAdd_tup, ↓dAdd_ref, dIx_tup, dIx_str, dIx_ref, dIx_kl, dListOf_tup, dListOf_kl, dListOf_ref, dLen_tup, dLen_str, dLen_kl, dLen_ref, dTupOf_tup, dTupOf_ref, dSeqI_x, sqX_tup, sqX_ref, sqX_str, dEnumI_x, enX_tup, enX_ref, dSrtSet, dSortA, dIsi2, isT2, Bool.or_true, Bool.true_or, Bool.or_false, Bool.or_self, dReprR, dReprT, dDGet2]
  intro f hf
  refine dFor_g fun F1 T1 h1 t1 => ?_; simp only [dFor, dC, dOp, dTest, dChain, dAnd, dOr, dNot, dAndV, dOrV, dNotV, dIf, dNil, dCons, dTup, dLst, dCB, d1, dNoPart, dPart, dSl, dCut, dNeg, dSorted, dSum, dAll, dAny, dInt, dAbs, dMax, dMin, dIsi, isT, dNext, dSeq, dBrk, dCont, dNever, dExpr, dRet, dRetN, dIfS, dAsg, dPutI, dI0, dI, dIsN, dNotN, dRng1, dRng2, dRngDn, dZipI, dYes, dCall, dLM, dAppend, dExtend, dReverse, dInsert, dAugI, dRg1, dRg2, dTupRg, dLstRg, dNewK, dNewT, ↓S0_, ↓S1_, ↓S2_, ↓S3_, ↓S4_, ↓S5_, ↓S6_, List.map_cons, List.map_nil, List.length_cons, List.length_nil, List.replicate, List.cons_append, List.nil_append, Nat.reduceAdd, Nat.reduceSub, Nat.zero_add, List.getElem?_cons_zero, List.getElem?_cons_succ, Option.some.injEq, exists_eq_left, exists_eq_left', List.set_cons_zero, List.set_cons_succ, wipeD, D.int.injEq, D.bl.injEq, D.str.injEq, D.ref.injEq, D.tup.injEq, D.ty.injEq, true_and, and_true, forall_const, forall_eq', forall_eq, mt_int, mt_bool, mt_str, mt_tuple, mt_list, mt_dict, st_int_int, st_int_bool, st_int_str, st_int_tuple, st_int_list, st_int_dict, st_bool_int, st_bool_bool, st_bool_str, st_bool_tuple, st_bool_list, st_bool_dict, st_str_int, st_str_bool, st_str_str, st_str_tuple, st_str_list, st_str_dict, st_tuple_int, st_tuple_bool, st_tuple_str, st_tuple_tuple, st_tuple_list, st_tuple_dict, st_list_int, st_list_bool, st_list_str, st_list_tuple, st_list_list, st_list_dict, st_dict_int, st_dict_bool, st_dict_str, st_dict_tuple, st_dict_list, st_dict_dict, eq_self, Bool.true_eq_false, Bool.false_eq_true, false_implies, true_implies, implies_true, decide_eq_true_eq, decide_eq_false_iff_not, Bool.not_true, Bool.not_false, Bool.not_eq_true, Bool.not_eq_false, Bool.not_eq_true', Bool.not_eq_false', not_true_eq_false, not_false_eq_true, false_and, and_false, or_false, false_or, reduceCtorEq, ↓exLSu, ↓exDKu, ↓exDKd, ↓exLSd, ↓exLu, ↓dIxRu, ↓dPutu, ↓dGetAu, ↓dEq_int, ↓dNe_int, ↓dEq_bl, ↓dNe_bl, ↓dEq_str, ↓dNe_str, ↓dAdd_int, ↓exAt10, ↓exIx10, ↓exAt20, ↓exIx20, ↓exAt21, ↓exIx21, ↓exAt30, ↓exIx30, ↓exAt31, ↓exIx31, ↓exAt32, ↓exIx32, ↓exAt40, ↓exIx40, ↓exAt41, ↓exIx41, ↓exAt42, ↓exIx42, ↓exAt43, ↓exIx43, ↓exAt50, ↓exIx50, ↓exAt51, ↓exIx51, ↓exAt52, ↓exIx52, ↓exAt53, ↓exIx53, ↓exAt54, ↓exIx54, ↓exAt60, ↓exIx60, ↓exAt61, ↓exIx61, ↓exAt62, ↓exIx62, ↓exAt63, ↓exIx63, ↓exAt64, ↓exIx64, ↓exAt65, ↓exIx65, up_up, false_or, or_false, ↓exAtM, ↓dFlag_bl, ↓exBl, ↓exInt, ↓exRef, ↓dVar0, ↓dAug0, ↓dSet0, ↓dTgN0, ↓dTgW0, ↓dVar1, ↓dAug1, ↓dSet1, ↓dTgN1, ↓dTgW1, ↓dVar2, ↓dAug2, ↓dSet2, ↓dTgN2, ↓dTgW2, ↓dVar3, ↓dAug3, ↓dSet3, ↓dTgN3, ↓dTgW3, ↓dVar4, ↓dAug4, ↓dSet4, ↓dTgN4, ↓dTgW4, ↓dVar5, ↓dAug5, ↓dSet5, ↓dTgN5, ↓dTgW5, ↓dVar6, ↓dAug6, ↓dSet6, ↓dTgN6, ↓dTgW6, ↓dVar7, ↓dAug7, ↓dSet7, ↓dTgN7, ↓dTgW7, ↓dVar8, ↓dAug8, ↓dSet8, ↓dTgN8, ↓dTgW8, ↓dVar9, ↓dAug9, ↓dSet9, ↓dTgN9, ↓dTgW9, ↓dVar10, ↓dAug10, ↓dSet10, ↓dTgN10, ↓dTgW10, ↓dVar11, ↓dAug11, ↓dSet11, ↓dTgN11, ↓dTgW11, ↓dVar12, ↓dAug12, ↓dSet12, ↓dTgN12, ↓dTgW12, ↓dVar13, ↓dAug13, ↓dSet13, ↓dTgN13, ↓dTgW13, ↓dVar14, ↓dAug14, ↓dSet14, ↓dTgN14, ↓dTgW14, ↓dVar15, ↓dAug15, ↓dSet15, ↓dTgN15, ↓dTgW15, ↓dVar16, ↓dAug16, ↓dSet16, ↓dTgN16, ↓dTgW16, ↓dVar17, ↓dAug17, ↓dSet17, ↓dTgN17, ↓dTgW17, ↓dVar18, ↓dAug18, ↓dSet18, ↓dTgN18, ↓dTgW18, ↓dVar19, ↓dAug19, ↓dSet19, ↓dTgN19, ↓dTgW19, ↓dTg_t2, ↓dTg_t3, ↓exGetM, ↓exSumU, nD, plD, rwD, ↓dAdd_tup, ↓dAdd_ref, dIx_tup, dIx_str, dIx_ref, dIx_kl, dListOf_tup, dListOf_kl, dListOf_ref, dLen_tup, dLen_str, dLen_kl, dLen_ref, dTupOf_tup, dTupOf_ref, dSeqI_x, sqX_tup, sqX_ref, sqX_str, dEnumI_x, enX_tup, enX_ref, dSrtSet, dSortA, dIsi2, isT2, Bool.or_true, Bool.true_or, Bool.or_false, Bool.or_self, dReprR, dReprT, dDGet2]
  rw [rng0]
  refine ⟨by omega, forN (fun i δ M' => Sub M' M ∧ ∃ g c d e, M g = none ∧ M' g = some (.lst ((chz it i).map rwD)) ∧ δ = [some (.ref a), some (nD s), some (.ref g), c, d, e]) ⟨Sub.new hf (by intro _ z; cases z), f, _, _, _, hf, up_same, rfl⟩ ?_ ?_⟩
  · rintro i z δ' M1 pre P' hz ⟨s1, g, c, d, e, hg0, hg, rfl⟩ hP
    obtain ⟨hi, rfl⟩ := rgx hz
    have ha1 := s1.1 _ _ ha
    subst t1
    simp (config := {failIfUnchanged := false}) only [dC, dOp, dTest, dChain, dAnd, dOr, dNot, dAndV, dOrV, dNotV, dIf, dNil, dCons, dTup, dLst, dCB, d1, dNoPart, dPart, dSl, dCut, dNeg, dSorted, dSum, dAll, dAny, dInt, dAbs, dMax, dMin, dIsi, isT, dNext, dSeq, dBrk, dCont, dNever, dExpr, dRet, dRetN, dIfS, dAsg, dPutI, dI0, dI, dIsN, dNotN, dRng1, dRng2, dRngDn, dZipI, dYes, dCall, dLM, dAppend, dExtend, dReverse, dInsert, dAugI, dRg1, dRg2, dTupRg, dLstRg, dNewK, dNewT, ↓S0_, ↓S1_, ↓S2_, ↓S3_, ↓S4_, ↓S5_, ↓S6_, List.map_cons, List.map_nil, List.length_cons, List.length_nil, List.replicate, List.cons_append, List.nil_append, Nat.reduceAdd, Nat.reduceSub, Nat.zero_add, List.getElem?_cons_zero, List.getElem?_cons_succ, Option.some.injEq, exists_eq_left, exists_eq_left', List.set_cons_zero, List.set_cons_succ, wipeD, D.int.injEq, D.bl.injEq, D.str.injEq, D.ref.injEq, D.tup.injEq, D.ty.injEq, true_and, and_true, forall_const, forall_eq', forall_eq, mt_int, mt_bool, mt_str, mt_tuple, mt_list, mt_dict, st_int_int, st_int_bool, st_int_str, st_int_tuple, st_int_list, st_int_dict, st_bool_int, st_bool_bool, st_bool_str, st_bool_tuple, st_bool_list, st_bool_dict, st_str_int, st_str_bool, st_str_str, st_str_tuple, st_str_list, st_str_dict, st_tuple_int, st_tuple_bool, st_tuple_str, st_tuple_tuple, st_tuple_list, st_tuple_dict, st_list_int, st_list_bool, st_list_str, st_list_tuple, st_list_list, st_list_dict, st_dict_int, st_dict_bool, st_dict_str, st_dict_tuple, st_dict_list, st_dict_dict, eq_self, Bool.true_eq_false, Bool.false_eq_true, false_implies, true_implies, implies_true, decide_eq_true_eq, decide_eq_false_iff_not, Bool.not_true, Bool.not_false, Bool.not_eq_true, Bool.not_eq_false, Bool.not_eq_true', Bool.not_eq_false', not_true_eq_false, not_false_eq_true, false_and, and_false, or_false, false_or, reduceCtorEq, ↓exLSu, ↓exDKu, ↓exDKd, ↓exLSd, ↓exLu, ↓dIxRu, ↓dPutu, ↓dGetAu, ↓dEq_int, ↓dNe_int, ↓dEq_bl, ↓dNe_bl, ↓dEq_str, ↓dNe_str, ↓dAdd_int, ↓exAt10, ↓exIx10, ↓exAt20, ↓exIx20, ↓exAt21, ↓exIx21, ↓exAt30, ↓exIx30, ↓exAt31, ↓exIx31, ↓exAt32, ↓exIx32, ↓exAt40, ↓exIx40, ↓exAt41, ↓exIx41, ↓exAt42, ↓exIx42, ↓exAt43, ↓exIx43, ↓exAt50, ↓exIx50, ↓exAt51, ↓exIx51, ↓exAt52, ↓exIx52, ↓exAt53, ↓exIx53, ↓exAt54, ↓exIx54, ↓exAt60, ↓exIx60, ↓exAt61, ↓exIx61, ↓exAt62, ↓exIx62, ↓exAt63, ↓exIx63, ↓exAt64, ↓exIx64, ↓exAt65, ↓exIx65, up_up, false_or, or_false, ↓exAtM, ↓dFlag_bl, ↓exBl, ↓exInt, ↓exRef, ↓dVar0, ↓dAug0, ↓dSet0, ↓dTgN0, ↓dTgW0, ↓dVar1, ↓dAug1, ↓dSet1, ↓dTgN1, ↓dTgW1, ↓dVar2, ↓dAug2, ↓dSet2, ↓dTgN2, ↓dTgW2, ↓dVar3, ↓dAug3, ↓dSet3, ↓dTgN3, ↓dTgW3, ↓dVar4, ↓dAug4, ↓dSet4, ↓dTgN4, ↓dTgW4, ↓dVar5, ↓dAug5, ↓dSet5, ↓dTgN5, ↓dTgW5, ↓dVar6, ↓dAug6, ↓dSet6, ↓dTgN6, ↓dTgW6, ↓dVar7, ↓dAug7, ↓dSet7, ↓dTgN7, ↓dTgW7, ↓dVar8, ↓dAug8, ↓dSet8, ↓dTgN8, ↓dTgW8, ↓dVar9, ↓dAug9, ↓dSet9, ↓dTgN9, ↓dTgW9, ↓dVar10, ↓dAug10, ↓dSet10, ↓dTgN10, ↓dTgW10, ↓dVar11, ↓dAug11, ↓dSet11, ↓dTgN11, ↓dTgW11, ↓dVar12, ↓dAug12, ↓dSet12, ↓dTgN12, ↓dTgW12, ↓dVar13, ↓dAug13, ↓dSet13, ↓dTgN13, ↓dTgW13, ↓dVar14, ↓dAug14, ↓dSet14, ↓dTgN14, ↓dTgW14, ↓dVar15, ↓dAug15, ↓dSet15, ↓dTgN15, ↓dTgW15, ↓dVar16, ↓dAug16, ↓dSet16, ↓dTgN16, ↓dTgW16, ↓dVar17, ↓dAug17, ↓dSet17, ↓dTgN17, ↓dTgW17, ↓dVar18, ↓dAug18, ↓dSet18, ↓dTgN18, ↓dTgW18, ↓dVar19, ↓dAug19, ↓dSet19, ↓dTgN19, ↓dTgW19, ↓dTg_t2, ↓dTg_t3, ↓exGetM, ↓exSumU, nD, plD, rwD, ↓dAdd_tup, ↓dAdd_ref, dIx_tup, dIx_str, dIx_ref, dIx_kl, dListOf_tup, dListOf_kl, dListOf_ref, dLen_tup, dLen_str, dLen_kl, dLen_ref, dTupOf_tup, dTupOf_ref, dSeqI_x, sqX_tup, sqX_ref, sqX_str, dEnumI_x, enX_tup, enX_ref, dSrtSet, dSortA, dIsi2, isT2, Bool.or_true, Bool.true_or, Bool.or_false, Bool.or_self, dReprR, dReprT, dDGet2]
    refine dLc2_g fun F2 T2 I2 S2 U2 h2 t2 i2 s2 u2 => ?_; simp only [dLc2, dC, dOp, dTest, dChain, dAnd, dOr, dNot, dAndV, dOrV, dNotV, dIf, dNil, dCons, dTup, dLst, dCB, d1, dNoPart, dPart, dSl, dCut, dNeg, dSorted, dSum, dAll, dAny, dInt, dAbs, dMax, dMin, dIsi, isT, dNext, dSeq, dBrk, dCont, dNever, dExpr, dRet, dRetN, dIfS, dAsg, dPutI, dI0, dI, dIsN, dNotN, dRng1, dRng2, dRngDn, dZipI, dYes, dCall, dLM, dAppend, dExtend, dReverse, dInsert, dAugI, dRg1, dRg2, dTupRg, dLstRg, dNewK, dNewT, ↓S0_, ↓S1_, ↓S2_, ↓S3_, ↓S4_, ↓S5_, ↓S6_, List.map_cons, List.map_nil, List.length_cons, List.length_nil, List.replicate, List.cons_append, List.nil_append, Nat.reduceAdd, Nat.reduceSub, Nat.zero_add, List.getElem?_cons_zero, List.getElem?_cons_succ, Option.some.injEq, exists_eq_left, exists_eq_left', List.set_cons_zero, List.set_cons_succ, wipeD, D.int.injEq, D.bl.injEq, D.str.injEq, D.ref.injEq, D.tup.injEq, D.ty.injEq, true_and, and_true, forall_const, forall_eq', forall_eq, mt_int, mt_bool, mt_str, mt_tuple, mt_list, mt_dict, st_int_int, st_int_bool, st_int_str, st_int_tuple, st_int_list, st_int_dict, st_bool_int, st_bool_bool, st_bool_str, st_bool_tuple, st_bool_list, st_bool_dict, st_str_int, st_str_bool, st_str_str, st_str_tuple, st_str_list, st_str_dict, st_tuple_int, st_tuple_bool, st_tuple_str, st_tuple_tuple, st_tuple_list, st_tuple_dict, st_list_int, st_list_bool, st_list_str, st_list_tuple, st_list_list, st_list_dict, st_dict_int, st_dict_bool, st_dict_str, st_dict_tuple, st_dict_list, st_dict_dict, eq_self, Bool.true_eq_false, Bool.false_eq_true, false_implies, true_implies, implies_true, decide_eq_true_eq, decide_eq_false_iff_not, Bool.not_true, Bool.not_false, Bool.not_eq_true, Bool.not_eq_false, Bool.not_eq_true', Bool.not_eq_false', not_true_eq_false, not_false_eq_true, false_and, and_false, or_false, false_or, reduceCtorEq, ↓exLSu, ↓exDKu, ↓exDKd, ↓exLSd, ↓exLu, ↓dIxRu, ↓dPutu, ↓dGetAu, ↓dEq_int, ↓dNe_int, ↓dEq_bl, ↓dNe_bl, ↓dEq_str, ↓dNe_str, ↓dAdd_int, ↓exAt10, ↓exIx10, ↓exAt20, ↓exIx20, ↓exAt21, ↓exIx21, ↓exAt30, ↓exIx30, ↓exAt31, ↓exIx31, ↓exAt32, ↓exIx32, ↓exAt40, ↓exIx40, ↓exAt41, ↓exIx41, ↓exAt42, ↓exIx42, ↓exAt43, ↓exIx43, ↓exAt50, ↓exIx50, ↓exAt51, ↓exIx51, ↓exAt52, ↓exIx52, ↓exAt53, ↓exIx53, ↓exAt54, ↓exIx54, ↓exAt60, ↓exIx60, ↓exAt61, ↓exIx61, ↓exAt62, ↓exIx62, ↓exAt63, ↓exIx63, ↓exAt64, ↓exIx64, ↓exAt65, ↓exIx65, up_up, false_or, or_false, ↓exAtM, ↓dFlag_bl, ↓exBl, ↓exInt, ↓exRef, ↓dVar0, ↓dAug0, ↓dSet0, ↓dTgN0, ↓dTgW0, ↓dVar1, ↓dAug1, ↓dSet1, ↓dTgN1, ↓dTgW1, ↓dVar2, ↓dAug2, ↓dSet2, ↓dTgN2, ↓dTgW2, ↓dVar3, ↓dAug3, ↓dSet3, ↓dTgN3, ↓dTgW3, ↓dVar4, ↓dAug4, ↓dSet4, ↓dTgN4, ↓dTgW4, ↓dVar5, ↓dAug5, ↓dSet5, ↓dTgN5, ↓dTgW5, ↓dVar6, ↓dAug6, ↓dSet6, ↓dTgN6, ↓dTgW6, ↓dVar7, ↓dAug7, ↓dSet7, ↓dTgN7, ↓dTgW7, ↓dVar8, ↓dAug8, ↓dSet8, ↓dTgN8, ↓dTgW8, ↓dVar9, ↓dAug9, ↓dSet9, ↓dTgN9, ↓dTgW9, ↓dVar10, ↓dAug10, ↓dSet10, ↓dTgN10, ↓dTgW10, ↓dVar11, ↓dAug11, ↓dSet11, ↓dTgN11, ↓dTgW11, ↓dVar12, ↓dAug12, ↓dSet12, ↓dTgN12, ↓dTgW12, ↓dVar13, ↓dAug13, ↓dSet13, ↓dTgN13, ↓dTgW13, ↓dVar14, ↓dAug14, ↓dSet14, ↓dTgN14, ↓dTgW14, ↓dVar15, ↓dAug15, ↓dSet15, ↓dTgN15, ↓dTgW15, ↓dVar16, ↓dAug16, ↓dSet16, ↓dTgN16, ↓dTgW16, ↓dVar17, ↓dAug17, ↓dSet17, ↓dTgN17, ↓dTgW17, ↓dVar18, ↓dAug18, ↓dSet18, ↓dTgN18, ↓dTgW18, ↓dVar19, ↓dAug19, ↓dSet19, ↓dTgN19, ↓dTgW19, ↓dTg_t2, ↓dTg_t3, ↓exGetM, ↓exSumU, nD, plD, rwD, ↓dAdd_tup, ↓dAdd_ref, dIx_tup, dIx_str, dIx_ref, dIx_kl, dListOf_tup, dListOf_kl, dListOf_ref, dLen_tup, dLen_str, dLen_kl, dLen_ref, dTupOf_tup, dTupOf_ref, dSeqI_x, sqX_tup, sqX_ref, sqX_str, dEnumI_x, enX_tup, enX_ref, dSrtSet, dSortA, dIsi2, isT2, Bool.or_true, Bool.true_or, Bool.or_false, Bool.or_self, dReprR, dReprT, dDGet2]
    refine ⟨_, .inl hg, fun pre acc M' => M' = M1 ∧ acc = (accC it ((chz it i).take pre.length)).map rwD, ⟨rfl, rfl⟩, ?_, ?_⟩
    · rintro pre x post acc M' ex ⟨rfl, rfl⟩
      have hx : ((chz it i).map rwD)[pre.length]? = some x := by rw [ex]; simp
      rw [List.getElem?_map] at hx
      obtain ⟨row, hrow, rfl⟩ := Option.map_eq_some_iff.mp hx
      have hrl : row.length = i := chz_len i row (List.mem_of_getElem? hrow)
      refine ⟨.inl hg, ?_⟩
      subst t2; subst i2; subst s2; subst u2
      simp (config := {failIfUnchanged := false}) only [dC, dOp, dTest, dChain, dAnd, dOr, dNot, dAndV, dOrV, dNotV, dIf, dNil, dCons, dTup, dLst, dCB, d1, dNoPart, dPart, dSl, dCut, dNeg, dSorted, dSum, dAll, dAny, dInt, dAbs, dMax, dMin, dIsi, isT, dNext, dSeq, dBrk, dCont, dNever, dExpr, dRet, dRetN, dIfS, dAsg, dPutI, dI0, dI, dIsN, dNotN, dRng1, dRng2, dRngDn, dZipI, dYes, dCall, dLM, dAppend, dExtend, dReverse, dInsert, dAugI, dRg1, dRg2, dTupRg, dLstRg, dNewK, dNewT, ↓S0_, ↓S1_, ↓S2_, ↓S3_, ↓S4_, ↓S5_, ↓S6_, List.map_cons, List.map_nil, List.length_cons, List.length_nil, List.replicate, List.cons_append, List.nil_append, Nat.reduceAdd, Nat.reduceSub, Nat.zero_add, List.getElem?_cons_zero, List.getElem?_cons_succ, Option.some.injEq, exists_eq_left, exists_eq_left', List.set_cons_zero, List.set_cons_succ, wipeD, D.int.injEq, D.bl.injEq, D.str.injEq, D.ref.injEq, D.tup.injEq, D.ty.injEq, true_and, and_true, forall_const, forall_eq', forall_eq, mt_int, mt_bool, mt_str, mt_tuple, mt_list, mt_dict, st_int_int, st_int_bool, st_int_str, st_int_tuple, st_int_list, st_int_dict, st_bool_int, st_bool_bool, st_bool_str, st_bool_tuple, st_bool_list, st_bool_dict, st_str_int, st_str_bool, st_str_str, st_str_tuple, st_str_list, st_str_dict, st_tuple_int, st_tuple_bool, st_tuple_str, st_tuple_tuple, st_tuple_list, st_tuple_dict, st_list_int, st_list_bool, st_list_str, st_list_tuple, st_list_list, st_list_dict, st_dict_int, st_dict_bool, st_dict_str, st_dict_tuple, st_dict_list, st_dict_dict, eq_self, Bool.true_eq_false, Bool.false_eq_true, false_implies, true_implies, implies_true, decide_eq_true_eq, decide_eq_false_iff_not, Bool.not_true, Bool.not_false, Bool.not_eq_true, Bool.not_eq_false, Bool.not_eq_true', Bool.not_eq_false', not_true_eq_false, not_false_eq_true, false_and, and_false, or_false, false_or, reduceCtorEq, ↓exLSu, ↓exDKu, ↓exDKd, ↓exLSd, ↓exLu, ↓dIxRu, ↓dPutu, ↓dGetAu, ↓dEq_int, ↓dNe_int, ↓dEq_bl, ↓dNe_bl, ↓dEq_str, ↓dNe_str, ↓dAdd_int, ↓exAt10, ↓exIx10, ↓exAt20, ↓exIx20, ↓exAt21, ↓exIx21, ↓exAt30, ↓exIx30, ↓exAt31, ↓exIx31, ↓exAt32, ↓exIx32, ↓exAt40, ↓exIx40, ↓exAt41, ↓exIx41, ↓exAt42, ↓exIx42, ↓exAt43, ↓exIx43, ↓exAt50, ↓exIx50, ↓exAt51, ↓exIx51, ↓exAt52, ↓exIx52, ↓exAt53, ↓exIx53, ↓exAt54, ↓exIx54, ↓exAt60, ↓exIx60, ↓exAt61, ↓exIx61, ↓exAt62, ↓exIx62, ↓exAt63, ↓exIx63, ↓exAt64, ↓exIx64, ↓exAt65, ↓exIx65, up_up, false_or, or_false, ↓exAtM, ↓dFlag_bl, ↓exBl, ↓exInt, ↓exRef, ↓dVar0, ↓dAug0, ↓dSet0, ↓dTgN0, ↓dTgW0, ↓dVar1, ↓dAug1, ↓dSet1, ↓dTgN1, ↓dTgW1, ↓dVar2, ↓dAug2, ↓dSet2, ↓dTgN2, ↓dTgW2, ↓dVar3, ↓dAug3, ↓dSet3, ↓dTgN3, ↓dTgW3, ↓dVar4, ↓dAug4, ↓dSet4, ↓dTgN4, ↓dTgW4, ↓dVar5, ↓dAug5, ↓dSet5, ↓dTgN5, ↓dTgW5, ↓dVar6, ↓dAug6, ↓dSet6, ↓dTgN6, ↓dTgW6, ↓dVar7, ↓dAug7, ↓dSet7, ↓dTgN7, ↓dTgW7, ↓dVar8, ↓dAug8, ↓dSet8, ↓dTgN8, ↓dTgW8, ↓dVar9, ↓dAug9, ↓dSet9, ↓dTgN9, ↓dTgW9, ↓dVar10, ↓dAug10, ↓dSet10, ↓dTgN10, ↓dTgW10, ↓dVar11, ↓dAug11, ↓dSet11, ↓dTgN11, ↓dTgW11, ↓dVar12, ↓dAug12, ↓dSet12, ↓dTgN12, ↓dTgW12, ↓dVar13, ↓dAug13, ↓dSet13, ↓dTgN13, ↓dTgW13, ↓dVar14, ↓dAug14, ↓dSet14, ↓dTgN14, ↓dTgW14, ↓dVar15, ↓dAug15, ↓dSet15, ↓dTgN15, ↓dTgW15, ↓dVar16, ↓dAug16, ↓dSet16, ↓dTgN16, ↓dTgW16, ↓dVar17, ↓dAug17, ↓dSet17, ↓dTgN17, ↓dTgW17, ↓dVar18, ↓dAug18, ↓dSet18, ↓dTgN18, ↓dTgW18, ↓dVar19, ↓dAug19, ↓dSet19, ↓dTgN19, ↓dTgW19, ↓dTg_t2, ↓dTg_t3, ↓exGetM, ↓exSumU, nD, plD, rwD, ↓dAdd_tup, ↓dAdd_ref, dIx_tup, dIx_str, dIx_ref, dIx_kl, dListOf_tup, dListOf_kl, dListOf_ref, dLen_tup, dLen_str, dLen_kl, dLen_ref, dTupOf_tup, dTupOf_ref, dSeqI_x, sqX_tup, sqX_ref, sqX_str, dEnumI_x, enX_tup, enX_ref, dSrtSet, dSortA, dIsi2, isT2, Bool.or_true, Bool.true_or, Bool.or_false, Bool.or_self, dReprR, dReprT, dDGet2]
      refine ⟨_, .inl ha1, fun pre1 acc1 M2 => M2 = M' ∧ acc1 = (accC it ((chz it i).take pre.length) ++ accD (it.take pre1.length) row).map rwD, ⟨rfl, by simp [accD_nil]⟩, ?_, ?_⟩
      · rintro pre1 x1 post1 acc1 M2 ex1 ⟨rfl, rfl⟩
        have hx1 : (it.map nD)[pre1.length]? = some x1 := by rw [ex1]; simp
        rw [List.getElem?_map] at hx1
        obtain ⟨j, hj, rfl⟩ := Option.map_eq_some_iff.mp hx1
        have c1 := acc_cap (m := pre1.length) hpw hit hrow
        have nx : ∀ b : Bool, okE row j = b → accD (it.take (pre1 ++ [nD j]).length) row = accD (it.take pre1.length) row ++ if b = true then [row ++ [j]] else [] := fun b hb => by
          rw [List.length_append, List.length_singleton, take_snoc hj, accD_snoc, hb]
        have eT : (accC it ((chz it i).take pre.length) ++ accD (it.take pre1.length) row).map rwD ++ [D.tup (row.map nD ++ [nD j])] = (accC it ((chz it i).take pre.length) ++ (accD (it.take pre1.length) row ++ [row ++ [j]])).map rwD := by
          simp only [List.map_append, List.map_cons, List.map_nil, rwD, List.append_assoc]
        have yes : okE row j = true → ∃ M7, T3.Sub M2 M7 ∧ M7 = M2 ∧ (accC it ((chz it i).take pre.length) ++ accD (it.take pre1.length) row).map rwD ++ [D.tup (row.map nD ++ [nD j])] = (accC it ((chz it i).take pre.length) ++ accD (it.take (pre1 ++ [nD j]).length) row).map rwD := fun h => ⟨M2, Sub.refl, rfl, by rw [eT, nx true h, if_pos rfl]⟩
        have no : okE row j = false → ∃ M7, T3.Sub M2 M7 ∧ M7 = M2 ∧ (accC it ((chz it i).take pre.length) ++ accD (it.take pre1.length) row).map rwD = (accC it ((chz it i).take pre.length) ++ accD (it.take (pre1 ++ [nD j]).length) row).map rwD := fun h => ⟨M2, Sub.refl, rfl, by rw [nx false h, if_neg (by decide), List.append_nil]⟩
        have l1 : ((accC it ((chz it i).take pre.length) ++ accD (it.take pre1.length) row).map rwD).length < sizeLine := by rw [List.length_map, sizeLine_eq]; omega
        have l2 : (row.map nD).length + 1 ≤ sizeLine := by rw [List.length_map, sizeLine_eq]; omega
        refine ⟨.inl ha1, ?_⟩
        generalize accC it ((chz it i).take pre.length) = A at *
        refine ⟨fun z => ⟨l1, l2, yes ?_⟩, fun z => ?_⟩
        · have : row = [] := by
            rw [List.length_map] at z
            exact List.length_eq_zero_iff.mp (by omega)
          unfold okE
          rw [decide_eq_true this, Bool.true_or]
        · have ne : row ≠ [] := by rintro rfl; exact z rfl
          refine ⟨_, at_last ne, ?_⟩
          show (((row.getLastD 0 : Nat) : Int) < (j : Int) → _) ∧ (¬ ((row.getLastD 0 : Nat) : Int) < (j : Int) → _)
          exact ⟨fun h => ⟨l1, l2, yes (by unfold okE; rw [decide_eq_true (show row.getLastD 0 < j by omega), Bool.or_true])⟩, fun h => no (by unfold okE; rw [decide_eq_false ne, decide_eq_false (show ¬ row.getLastD 0 < j by omega)]; rfl)⟩
      · rintro acc1 M4 ⟨rfl, rfl⟩
        refine ⟨.inl ha1, M4, Sub.refl, rfl, ?_⟩
        rw [List.length_map, List.take_length, List.length_append, List.length_singleton, take_snoc hrow, accC_snoc]
    · rintro acc M' ⟨rfl, rfl⟩
      rw [List.length_map, List.take_length, accC_chz]
      refine ⟨.inl hg, fun q hq => ?_⟩
      rw [h2]
      simp (config := {failIfUnchanged := false}) only [dC, dOp, dTest, dChain, dAnd, dOr, dNot, dAndV, dOrV, dNotV, dIf, dNil, dCons, dTup, dLst, dCB, d1, dNoPart, dPart, dSl, dCut, dNeg, dSorted, dSum, dAll, dAny, dInt, dAbs, dMax, dMin, dIsi, isT, dNext, dSeq, dBrk, dCont, dNever, dExpr, dRet, dRetN, dIfS, dAsg, dPutI, dI0, dI, dIsN, dNotN, dRng1, dRng2, dRngDn, dZipI, dYes, dCall, dLM, dAppend, dExtend, dReverse, dInsert, dAugI, dRg1, dRg2, dTupRg, dLstRg, dNewK, dNewT, ↓S0_, ↓S1_, ↓S2_, ↓S3_, ↓S4_, ↓S5_, ↓S6_, List.map_cons, List.map_nil, List.length_cons, List.length_nil, List.replicate, List.cons_append, List.nil_append, Nat.reduceAdd, Nat.reduceSub, Nat.zero_add, List.getElem?_cons_zero, List.getElem?_cons_succ, Option.some.injEq, exists_eq_left, exists_eq_left', List.set_cons_zero, List.set_cons_succ, wipeD, D.int.injEq, D.bl.injEq, D.str.injEq, D.ref.injEq, D.tup.injEq, D.ty.injEq, true_and, and_true, forall_const, forall_eq', forall_eq, mt_int, mt_bool, mt_str, mt_tuple, mt_list, mt_dict, st_int_int, st_int_bool, st_int_str, st_int_tuple, st_int_list, st_int_dict, st_bool_int, st_bool_bool, st_bool_str, st_bool_tuple, st_bool_list, st_bool_dict, st_str_int, st_str_bool, st_str_str, st_str_tuple, st_str_list, st_str_dict, st_tuple_int, st_tuple_bool, st_tuple_str, st_tuple_tuple, st_tuple_list, st_tuple_dict, st_list_int, st_list_bool, st_list_str, st_list_tuple, st_list_list, st_list_dict, st_dict_int, st_dict_bool, st_dict_str, st_dict_tuple, st_dict_list, st_dict_dict, eq_self, Bool.true_eq_false, Bool.false_eq_true, false_implies, true_implies, implies_true, decide_eq_true_eq, decide_eq_false_iff_not, Bool.not_true, Bool.not_false, Bool.not_eq_true, Bool.not_eq_false, Bool.not_eq_true', Bool.not_eq_false', not_true_eq_false, not_false_eq_true, false_and, and_false, or_false, false_or, reduceCtorEq, ↓exLSu, ↓exDKu, ↓exDKd, ↓exLSd, ↓exLu, ↓dIxRu, ↓dPutu, ↓dGetAu, ↓dEq_int, ↓dNe_int, ↓dEq_bl, ↓dNe_bl, ↓dEq_str, ↓dNe_str, ↓dAdd_int, ↓exAt10, ↓exIx10, ↓exAt20, ↓exIx20, ↓exAt21, ↓exIx21, ↓exAt30, ↓exIx30, ↓exAt31, ↓exIx31, ↓exAt32, ↓exIx32, ↓exAt40, ↓exIx40, ↓exAt41, ↓exIx41, ↓exAt42, ↓exIx42, ↓exAt43, ↓exIx43, ↓exAt50, ↓exIx50, ↓exAt51, ↓exIx51, ↓exAt52, ↓exIx52, ↓exAt53, ↓exIx53, ↓exAt54, ↓exIx54, ↓exAt60, ↓exIx60, ↓exAt61, ↓exIx61, ↓exAt62, ↓exIx62, ↓exAt63, ↓exIx63, ↓exAt64, ↓exIx64, ↓exAt65, ↓exIx65, up_up, false_or, or_false, ↓exAtM, ↓dFlag_bl, ↓exBl, ↓exInt, ↓exRef, ↓dVar0, ↓dAug0, ↓dSet0, ↓dTgN0, ↓dTgW0, ↓dVar1, ↓dAug1, ↓dSet1, ↓dTgN1, ↓dTgW1, ↓dVar2, ↓dAug2, ↓dSet2, ↓dTgN2, ↓dTgW2, ↓dVar3, ↓dAug3, ↓dSet3, ↓dTgN3, ↓dTgW3, ↓dVar4, ↓dAug4, ↓dSet4, ↓dTgN4, ↓dTgW4, ↓dVar5, ↓dAug5, ↓dSet5, ↓dTgN5, ↓dTgW5, ↓dVar6, ↓dAug6, ↓dSet6, ↓dTgN6, ↓dTgW6, ↓dVar7, ↓dAug7, ↓dSet7, ↓dTgN7, ↓dTgW7, ↓dVar8, ↓dAug8, ↓dSet8, ↓dTgN8, ↓dTgW8, ↓dVar9, ↓dAug9, ↓dSet9, ↓dTgN9, ↓dTgW9, ↓dVar10, ↓dAug10, ↓dSet10, ↓dTgN10, ↓dTgW10, ↓dVar11, ↓dAug11, ↓dSet11, ↓dTgN11, ↓dTgW11, ↓dVar12, ↓dAug12, ↓dSet12, ↓dTgN12, ↓dTgW12, ↓dVar13, ↓dAug13, ↓dSet13, ↓dTgN13, ↓dTgW13, ↓dVar14, ↓dAug14, ↓dSet14, ↓dTgN14, ↓dTgW14, ↓dVar15, ↓dAug15, ↓dSet15, ↓dTgN15, ↓dTgW15, ↓dVar16, ↓dAug16, ↓dSet16, ↓dTgN16, ↓dTgW16, ↓dVar17, ↓dAug17, ↓dSet17, ↓dTgN17, ↓dTgW17, ↓dVar18, ↓dAug18, ↓dSet18, ↓dTgN18, ↓dTgW18, ↓dVar19, ↓dAug19, ↓dSet19, ↓dTgN19, ↓dTgW19, ↓dTg_t2, ↓dTg_t3, ↓exGetM, ↓exSumU, nD, plD, rwD, ↓dAdd_tup, ↓dAdd_ref, dIx_tup, dIx_str, dIx_ref, dIx_kl, dListOf_tup, dListOf_kl, dListOf_ref, dLen_tup, dLen_str, dLen_kl, dLen_ref, dTupOf_tup, dTupOf_ref, dSeqI_x, sqX_tup, sqX_ref, sqX_str, dEnumI_x, enX_tup, enX_ref, dSrtSet, dSortA, dIsi2, isT2, Bool.or_true, Bool.true_or, Bool.or_false, Bool.or_self, dReprR, dReprT, dDGet2]
      exact sb0 (hP _ _ ⟨(Sub.new hq (by intro _ z; cases z)).trans s1, q, _, _, _, s1.free hq, up_same, rfl⟩)
  · rintro δ' M1 ⟨s1, g, c, d, e, hg0, hg, rfl⟩
    rw [rg_len] at hg
    rw [h1]
    simp (config := {failIfUnchanged := false}) only [dC, dOp, dTest, dChain, dAnd, dOr, dNot, dAndV, dOrV, dNotV, dIf, dNil, dCons, dTup, dLst, dCB, d1, dNoPart, dPart, dSl, dCut, dNeg, dSorted, dSum, dAll, dAny, dInt, dAbs, dMax, dMin, dIsi, isT, dNext, dSeq, dBrk, dCont, dNever, dExpr, dRet, dRetN, dIfS, dAsg, dPutI, dI0, dI, dIsN, dNotN, dRng1, dRng2, dRngDn, dZipI, dYes, dCall, dLM, dAppend, dExtend, dReverse, dInsert, dAugI, dRg1, dRg2, dTupRg, dLstRg, dNewK, dNewT, ↓S0_, ↓S1_, ↓S2_, ↓S3_, ↓S4_, ↓S5_, ↓S6_, List.map_cons, List.map_nil, List.length_cons, List.length_nil, List.replicate, List.cons_append, List.nil_append, Nat.reduceAdd, Nat.reduceSub, Nat.zero_add, List.getElem?_cons_zero, List.getElem?_cons_succ, Option.some.injEq, exists_eq_left, exists_eq_left', List.set_cons_zero, List.set_cons_succ, wipeD, D.int.injEq, D.bl.injEq, D.str.injEq, D.ref.injEq, D.tup.injEq, D.ty.injEq, true_and, and_true, forall_const, forall_eq', forall_eq, mt_int, mt_bool, mt_str, mt_tuple, mt_list, mt_dict, st_int_int, st_int_bool, st_int_str, st_int_tuple, st_int_list, st_int_dict, st_bool_int, st_bool_bool, st_bool_str, st_bool_tuple, st_bool_list, st_bool_dict, st_str_int, st_str_bool, st_str_str, st_str_tuple, st_str_list, st_str_dict, st_tuple_int, st_tuple_bool, st_tuple_str, st_tuple_tuple, st_tuple_list, st_tuple_dict, st_list_int, st_list_bool, st_list_str, st_list_tuple, st_list_list, st_list_dict, st_dict_int, st_dict_bool, st_dict_str, st_dict_tuple, st_dict_list, st_dict_dict, eq_self, Bool.true_eq_false, Bool.false_eq_true, false_implies, true_implies, implies_true, decide_eq_true_eq, decide_eq_false_iff_not, Bool.not_true, Bool.not_false, Bool.not_eq_true, Bool.not_eq_false, Bool.not_eq_true', Bool.not_eq_false', not_true_eq_false, not_false_eq_true, false_and, and_false, or_false, false_or, reduceCtorEq, ↓exLSu, ↓exDKu, ↓exDKd, ↓exLSd, ↓exLu, ↓dIxRu, ↓dPutu, ↓dGetAu, ↓dEq_int, ↓dNe_int, ↓dEq_bl, ↓dNe_bl, ↓dEq_str, ↓dNe_str, ↓dAdd_int, ↓exAt10, ↓exIx10, ↓exAt20, ↓exIx20, ↓exAt21, ↓exIx21, ↓exAt30, ↓exIx30, ↓exAt31, ↓exIx31, ↓exAt32, ↓exIx32, ↓exAt40, ↓exIx40, ↓exAt41, ↓exIx41, ↓exAt42, ↓exIx42, ↓exAt43, ↓exIx43, ↓exAt50, ↓exIx50, ↓exAt51, ↓exIx51, ↓exAt52, ↓exIx52, ↓exAt53, ↓exIx53, ↓exAt54, ↓exIx54, ↓exAt60, ↓exIx60, ↓exAt61, ↓exIx61, ↓exAt62, ↓exIx62, ↓exAt63, ↓exIx63, ↓exAt64, ↓exIx64, ↓exAt65, ↓exIx65, up_up, false_or, or_false, ↓exAtM, ↓dFlag_bl, ↓exBl, ↓exInt, ↓exRef, ↓dVar0, ↓dAug0, ↓dSet0, ↓dTgN0, ↓dTgW0, ↓dVar1, ↓dAug1, ↓dSet1, ↓dTgN1, ↓dTgW1, ↓dVar2, ↓dAug2, ↓dSet2, ↓dTgN2, ↓dTgW2, ↓dVar3, ↓dAug3, ↓dSet3, ↓dTgN3, ↓dTgW3, ↓dVar4, ↓dAug4, ↓dSet4, ↓dTgN4, ↓dTgW4, ↓dVar5, ↓dAug5, ↓dSet5, ↓dTgN5, ↓dTgW5, ↓dVar6, ↓dAug6, ↓dSet6, ↓dTgN6, ↓dTgW6, ↓dVar7, ↓dAug7, ↓dSet7, ↓dTgN7, ↓dTgW7, ↓dVar8, ↓dAug8, ↓dSet8, ↓dTgN8, ↓dTgW8, ↓dVar9, ↓dAug9, ↓dSet9, ↓dTgN9, ↓dTgW9, ↓dVar10, ↓dAug10, ↓dSet10, ↓dTgN10, ↓dTgW10, ↓dVar11, ↓dAug11, ↓dSet11, ↓dTgN11, ↓dTgW11, ↓dVar12, ↓dAug12, ↓dSet12, ↓dTgN12, ↓dTgW12, ↓dVar13, ↓dAug13, ↓dSet13, ↓dTgN13, ↓dTgW13, ↓dVar14, ↓dAug14, ↓dSet14, ↓dTgN14, ↓dTgW14, ↓dVar15, ↓dAug15, ↓dSet15, ↓dTgN15, ↓dTgW15, ↓dVar16, ↓dAug16, ↓dSet16, ↓dTgN16, ↓dTgW16, ↓dVar17, ↓dAug17, ↓dSet17, ↓dTgN17, ↓dTgW17, ↓dVar18, ↓dAug18, ↓dSet18, ↓dTgN18, ↓dTgW18, ↓dVar19, ↓dAug19, ↓dSet19, ↓dTgN19, ↓dTgW19, ↓dTg_t2, ↓dTg_t3, ↓exGetM, ↓exSumU, nD, plD, rwD, ↓dAdd_tup, ↓dAdd_ref, dIx_tup, dIx_str, dIx_ref, dIx_kl, dListOf_tup, dListOf_kl, dListOf_ref, dLen_tup, dLen_str, dLen_kl, dLen_ref, dTupOf_tup, dTupOf_ref, dSeqI_x, sqX_tup, sqX_ref, sqX_str, dEnumI_x, enX_tup, enX_ref, dSrtSet, dSortA, dIsi2, isT2, Bool.or_true, Bool.true_or, Bool.or_false, Bool.or_self, dReprR, dReprT, dDGet2]
    exact dn0 (h g M1 s1 hg0 hg)
theorem pr_without (G : Gv K mg) : Pr P w K mg base "without" 1 ["events", "left"] (S2 fun x y M Q => ∃ l w, DayO M x l ∧ y = rwD w ∧ w.length ≤ 100 ∧ ∀ f M', Sub M' M → M f = none → M' f = some (.lst ((wo l w).map evD)) → Q (.ref f) M') := by
  refine (pr3 (k := 0) G.d_without bi_without sc_without S2n (fun f cdv A outer s H E hr => (b_one (s_ret (e_lc (own := [("index", 2), ("event", 3)]) rfl sc_without.nd (i_enum (by rfl) G.b_enumerate (a_cons (e_var 0) a_nil)) (blkOk_by (by rfl)) (fun _ _ _ _ _ => (g_t2 rfl (g_nm 2 sc_without.nd) (g_nm 3 sc_without.nd))) (fun _ _ _ _ _ => (ts_one (t_cmp (od_notin (hu_of hr)) (e_var 2) (e_var 1)))) (fun _ _ _ _ _ => (e_var 3))))))) ?_
  rintro _ M Q E ⟨x, _, rfl, l, w, hd, rfl, hw, h⟩ H rep
  refine ⟨M, rep, fun _ h => h, ?_⟩
  have h60 := hd.len
  simp only [startD, List.map_cons, List.map_nil, List.length_cons, List.length_nil, Nat.reduceAdd, Nat.reduceSub, Nat.zero_add, List.replicate, List.cons_append, List.nil_append]; simp (config := {failIfUnchanged := false}) only [dC, dOp, dTest, dChain, dAnd, dOr, dNot, dAndV, dOrV, dNotV, dIf, dNil, dCons, dTup, dLst, dCB, d1, dNoPart, dPart, dSl, dCut, dNeg, dSorted, dSum, dAll, dAny, dInt, dAbs, dMax, dMin, dIsi, isT, dNext, dSeq, dBrk, dCont, dNever, dExpr, dRet, dRetN, dIfS, dAsg, dPutI, dI0, dI, dIsN, dNotN, dRng1, dRng2, dRngDn, dZipI, dYes, dCall, dLM, dAppend, dExtend, dReverse, dInsert, dAugI, dRg1, dRg2, dTupRg, dLstRg, dNewK, dNewT, ↓S0_, ↓S1_, ↓S2_, ↓S3_, ↓S4_, ↓S5_, ↓S6_, List.map_cons, List.map_nil, List.length_cons, List.length_nil, List.replicate, List.cons_append, List.nil_append, Nat.reduceAdd, Nat.reduceSub, Nat.zero_add, List.getElem?_cons_zero, List.getElem?_cons_succ, Option.some.injEq, exists_eq_left, exists_eq_left', List.set_cons_zero, List.set_cons_succ, wipeD, D.int.injEq, D.bl.injEq, D.str.injEq, D.ref.injEq, D.tup.injEq, D.ty.injEq, true_and, and_true, forall_const, forall_eq', forall_eq, mt_int, mt_bool, mt_str, mt_tuple, mt_list, mt_dict, st_int_int, st_int_bool, st_int_str, st_int_tuple, st_int_list, st_int_dict, st_bool_int, st_bool_bool, st_bool_str, st_bool_tuple, st_bool_list, st_bool_dict, st_str_int, st_str_bool, st_str_str, st_str_tuple, st_str_list, st_str_dict, st_tuple_int, st_tuple_bool, st_tuple_str, st_tuple_tuple, st_tuple_list, st_tuple_dict, st_list_int, st_list_bool, st_list_str, st_list_tuple, st_list_list, st_list_dict, st_dict_int, st_dict_bool, st_dict_str, st_dict_tuple, st_dict_list, st_dict_dict, eq_self, Bool.true_eq_false, Bool.false_eq_true, false_implies, true_implies, implies_true, decide_eq_true_eq, decide_eq_false_iff_not, Bool.not_true, Bool.not_false, Bool.not_eq_true, Bool.not_eq_false, Bool.not_eq_true', Bool.not_eq_false', not_true_eq_false, not_false_eq_true, false_and, and_false, or_false, false_or, reduceCtorEq, ↓exLSu, ↓exDKu, ↓exDKd, ↓exLSd, ↓exLu, ↓dIxRu, ↓dPutu, ↓dGetAu, ↓dEq_int, ↓dNe_int, ↓dEq_bl, ↓dNe_bl, ↓dEq_str, ↓dNe_str, ↓dAdd_int, ↓exAt10, ↓exIx10, ↓exAt20, ↓exIx20, ↓exAt21, ↓exIx21, ↓exAt30, ↓exIx30, ↓exAt31, ↓exIx31, ↓exAt32, ↓exIx32, ↓exAt40, ↓exIx40, ↓exAt41, ↓exIx41, ↓exAt42, ↓exIx42, ↓exAt43, ↓exIx43, ↓exAt50, ↓exIx50, ↓exAt51, ↓exIx51, ↓exAt52, ↓exIx52, ↓exAt53, ↓exIx53, ↓exAt54, ↓exIx54, ↓exAt60, ↓exIx60, ↓exAt61, ↓exIx61, ↓exAt62, ↓exIx62, ↓exAt63, ↓exIx63, ↓exAt64, ↓exIx64, ↓exAt65, ↓exIx65, up_up, false_or, or_false, ↓exAtM, ↓dFlag_bl, ↓exBl, ↓exInt, ↓exRef, ↓dVar0, ↓dAug0, ↓dSet0, ↓dTgN0, ↓dTgW0, ↓dVar1, ↓dAug1, ↓dSet1, ↓dTgN1, ↓dTgW1, ↓dVar2, ↓dAug2, ↓dSet2, ↓dTgN2, ↓dTgW2, ↓dVar3, ↓dAug3, ↓dSet3, ↓dTgN3, ↓dTgW3, ↓dVar4, ↓dAug4, ↓dSet4, ↓dTgN4, ↓dTgW4, ↓dVar5, ↓dAug5, ↓dSet5, ↓dTgN5, ↓dTgW5, ↓dVar6, ↓dAug6, ↓dSet6, ↓dTgN6, ↓dTgW6, ↓dVar7, ↓dAug7, ↓dSet7, ↓dTgN7, ↓dTgW7, ↓dVar8, ↓dAug8, ↓dSet8, ↓dTgN8, ↓dTgW8, ↓dVar9, ↓dAug9, ↓dSet9, ↓dTgN9, ↓dTgW9, ↓dVar10, ↓dAug10, ↓dSet10, ↓dTgN10, ↓dTgW10, ↓dVar11, ↓dAug11, ↓dSet11, ↓dTgN11, ↓dTgW11, ↓dVar12, ↓dAug12, ↓dSet12, ↓dTgN12, ↓dTgW12, ↓dVar13, ↓dAug13, ↓dSet13, ↓dTgN13, ↓dTgW13, ↓dVar14, ↓dAug14, ↓dSet14, ↓dTgN14, ↓dTgW14, ↓dVar15, ↓dAug15, ↓dSet15, ↓dTgN15, ↓dTgW15, ↓dVar16, ↓dAug16, ↓dSet16, ↓dTgN16, ↓dTgW16, ↓dVar17, ↓dAug17, ↓dSet17, ↓dTgN17, ↓dTgW17, ↓dVar18, ↓dAug18, ↓dSet18, ↓dTgN18, ↓dTgW18, ↓dVar19, ↓dAug19, ↓dSet19, ↓dTgN19, ↓dTgW19, ↓dTg_t2, ↓dTg_t3, ↓exGetM, ↓exSumU, nD, plD, rwD, ↓dAdd_tup, ↓dAdd_ref, dIx_tup, dIx_str, dIx_ref, dIx_kl, dListOf_tup, dListOf_kl, dListOf_ref, dLen_tup, dLen_str, dLen_kl, dLen_ref, dTupOf_tup, dTupOf_ref, dSeqI_x, sqX_tup, sqX_ref, sqX_str, dEnumI_x, enX_tup, enX_ref, dSrtSet, dSortA, dIsi2, isT2, Bool.or_true, Bool.true_or, Bool.or_false, Bool.or_self, dReprR, dReprT, dDGet2]
  refine dLc_g fun F1 T1 U1 h1 t1 u1 => ?_; simp only [dLc, dC, dOp, dTest, dChain, dAnd, dOr, dNot, dAndV, dOrV, dNotV, dIf, dNil, dCons, dTup, dLst, dCB, d1, dNoPart, dPart, dSl, dCut, dNeg, dSorted, dSum, dAll, dAny, dInt, dAbs, dMax, dMin, dIsi, isT, dNext, dSeq, dBrk, dCont, dNever, dExpr, dRet, dRetN, dIfS, dAsg, dPutI, dI0, dI, dIsN, dNotN, dRng1, dRng2, dRngDn, dZipI, dYes, dCall, dLM, dAppend, dExtend, dReverse, dInsert, dAugI, dRg1, dRg2, dTupRg, dLstRg, dNewK, dNewT, ↓S0_, ↓S1_, ↓S2_, ↓S3_, ↓S4_, ↓S5_, ↓S6_, List.map_cons, List.map_nil, List.length_cons, List.length_nil, List.replicate, List.cons_append, List.nil_append, Nat.reduceAdd, Nat.reduceSub, Nat.zero_add, List.getElem?_cons_zero, List.getElem?_cons_succ, Option.some.injEq, exists_eq_left, exists_eq_left', List.set_cons_zero, List.set_cons_succ, wipeD, D.int.injEq, D.bl.injEq, D.str.injEq, D.ref.injEq, D.tup.injEq, D.ty.injEq, true_and, and_true, forall_const, forall_eq', forall_eq, mt_int, mt_bool, mt_str, mt_tuple, mt_list, mt_dict, st_int_int, st_int_bool, st_int_str, st_int_tuple, st_int_list, st_int_dict, st_bool_int, st_bool_bool, st_bool_str, st_bool_tuple, st_bool_list, st_bool_dict, st_str_int, st_str_bool, st_str_str, st_str_tuple, st_str_list, st_str_dict, st_tuple_int, st_tuple_bool, st_tuple_str, st_tuple_tuple, st_tuple_list, st_tuple_dict, st_list_int, st_list_bool, st_list_str, st_list_tuple, st_list_list, st_list_dict, st_dict_int, st_dict_bool, st_dict_str, st_dict_tuple, st_dict_list, st_dict_dict, eq_self, Bool.true_eq_false, Bool.false_eq_true, false_implies, true_implies, implies_true, decide_eq_true_eq, decide_eq_false_iff_not, Bool.not_true, Bool.not_false, Bool.not_eq_true, Bool.not_eq_false, Bool.not_eq_true', Bool.not_eq_false', not_true_eq_false, not_false_eq_true, false_and, and_false, or_false, false_or, reduceCtorEq, ↓exLSu, ↓exDKu, ↓exDKd, ↓exLSd, ↓exLu, ↓dIxRu, ↓dPutu, ↓dGetAu, ↓dEq_int, ↓dNe_int, ↓dEq_bl, ↓dNe_bl, ↓dEq_str, ↓dNe_str, ↓dAdd_int, ↓exAt10, ↓exIx10, ↓exAt20, ↓exIx20, ↓exAt21, ↓exIx21, ↓exAt30, ↓exIx30, ↓exAt31, ↓exIx31, ↓exAt32, ↓exIx32, ↓exAt40, ↓exIx40, ↓exAt41, ↓exIx41, ↓exAt42, ↓exIx42, ↓exAt43, ↓exIx43, ↓exAt50, ↓exIx50, ↓exAt51, ↓exIx51, ↓exAt52, ↓exIx52, ↓exAt53, ↓exIx53, ↓exAt54, ↓exIx54, ↓exAt60, ↓exIx60, ↓exAt61, ↓exIx61, ↓exAt62, ↓exIx62, ↓exAt63, ↓exIx63, ↓exAt64, ↓exIx64, ↓exAt65, ↓exIx65, up_up, false_or, or_false, ↓exAtM, ↓dFlag_bl, ↓exBl, ↓exInt, ↓exRef, ↓dVar0, ↓dAug0, ↓dSet0, ↓dTgN0, ↓dTgW0, ↓dVar1, ↓dAug1, ↓dSet1, ↓dTgN1, ↓dTgW1, ↓dVar2, ↓dAug2, ↓dSet2, ↓dTgN2, ↓dTgW2, ↓dVar3, ↓dAug3, ↓dSet3, ↓dTgN3, ↓dTgW3, ↓dVar4, ↓dAug4, ↓dSet4, ↓dTgN4, ↓dTgW4, ↓dVar5, ↓dAug5, ↓dSet5, ↓dTgN5, ↓dTgW5, ↓dVar6, ↓dAug6, ↓dSet6, ↓dTgN6, ↓dTgW6, ↓dVar7, ↓dAug7, ↓dSet7, ↓dTgN7, ↓dTgW7, ↓dVar8, ↓dAug8, ↓dSet8, ↓dTgN8, ↓dTgW8, ↓dVar9, ↓dAug9, ↓dSet9, ↓dTgN9, ↓dTgW9, ↓dVar10, ↓dAug10, ↓dSet10, ↓dTgN10, ↓dTgW10, ↓dVar11, ↓dAug11, ↓dSet11, ↓dTgN11, ↓dTgW11, ↓dVar12, ↓dAug12, ↓dSet12, ↓dTgN12, ↓dTgW12, ↓dVar13, ↓dAug13, ↓dSet13, ↓dTgN13, ↓dTgW13, ↓dVar14, ↓dAug14, ↓dSet14, ↓dTgN14, ↓dTgW14, ↓dVar15, ↓dAug15, ↓dSet15, ↓dTgN15, ↓dTgW15, ↓dVar16, ↓dAug16, ↓dSet16, ↓dTgN16, ↓dTgW16, ↓dVar17, ↓dAug17, ↓dSet17, ↓dTgN17, ↓dTgW17, ↓dVar18, ↓dAug18, ↓dSet18, ↓dTgN18, ↓dTgW18, ↓dVar19, ↓dAug19, ↓dSet19, ↓dTgN19, ↓dTgW19, ↓dTg_t2, ↓dTg_t3, ↓exGetM, ↓exSumU, nD, plD, rwD, ↓dAdd_tup, ↓dAdd_ref, dIx_tup, dIx_str, dIx_ref, dIx_kl, dListOf_tup, dListOf_kl, dListOf_ref, dLen_tup, dLen_str, dLen_kl, dLen_ref, dTupOf_tup, dTupOf_ref, dSeqI_x, sqX_tup, sqX_ref, sqX_str, dEnumI_x, enX_tup, enX_ref, dSrtSet, dSortA, dIsi2, isT2, Bool.or_true, Bool.true_or, Bool.or_false, Bool.or_self, dReprR, dReprT, dDGet2]
  refine enX_of hd.sq Sub.refl fun g hg => ⟨by rw [enumD_len, List.length_map]; exact Nat.le_of_lt (small1000 (by omega)), lcF (fun p : Ev × Nat => D.tup [.int (p.2 : Int), evD p.1]) (fun p => evD p.1) (fun p => decide (p.2 ∉ w)) l.zipIdx (zip_enum l) (fun l1 p t pre acc P' e1 y1 y2 => ⟨hg _ Sub.refl, ?_⟩) ⟨hg _ Sub.refl, fun q hq => ?_⟩⟩
  · obtain ⟨e, i⟩ := p
    have em : ((i : Nat) : Int) ∈ (w.map fun n : Nat => (n : Int)) ↔ i ∈ w := by
      rw [List.mem_map]
      exact ⟨fun ⟨a, h1, h2⟩ => by have : a = i := by omega
                                   rwa [← this], fun z => ⟨_, z, rfl⟩⟩
    subst t1; subst u1
    simp (config := {failIfUnchanged := false}) only [dC, dOp, dTest, dChain, dAnd, dOr, dNot, dAndV, dOrV, dNotV, dIf, dNil, dCons, dTup, dLst, dCB, d1, dNoPart, dPart, dSl, dCut, dNeg, dSorted, dSum, dAll, dAny, dInt, dAbs, dMax, dMin, dIsi, isT, dNext, dSeq, dBrk, dCont, dNever, dExpr, dRet, dRetN, dIfS, dAsg, dPutI, dI0, dI, dIsN, dNotN, dRng1, dRng2, dRngDn, dZipI, dYes, dCall, dLM, dAppend, dExtend, dReverse, dInsert, dAugI, dRg1, dRg2, dTupRg, dLstRg, dNewK, dNewT, ↓S0_, ↓S1_, ↓S2_, ↓S3_, ↓S4_, ↓S5_, ↓S6_, List.map_cons, List.map_nil, List.length_cons, List.length_nil, List.replicate, List.cons_append, List.nil_append, Nat.reduceAdd, Nat.reduceSub, Nat.zero_add, List.getElem?_cons_zero, List.getElem?_cons_succ, Option.some.injEq, exists_eq_left, exists_eq_left', List.set_cons_zero, List.set_cons_succ, wipeD, D.int.injEq, D.bl.injEq, D.str.injEq, D.ref.injEq, D.tup.injEq, D.ty.injEq, true_and, and_true, forall_const, forall_eq', forall_eq, mt_int, mt_bool, mt_str, mt_tuple, mt_list, mt_dict, st_int_int, st_int_bool, st_int_str, st_int_tuple, st_int_list, st_int_dict, st_bool_int, st_bool_bool, st_bool_str, st_bool_tuple, st_bool_list, st_bool_dict, st_str_int, st_str_bool, st_str_str, st_str_tuple, st_str_list, st_str_dict, st_tuple_int, st_tuple_bool, st_tuple_str, st_tuple_tuple, st_tuple_list, st_tuple_dict, st_list_int, st_list_bool, st_list_str, st_list_tuple, st_list_list, st_list_dict, st_dict_int, st_dict_bool, st_dict_str, st_dict_tuple, st_dict_list, st_dict_dict, eq_self, Bool.true_eq_false, Bool.false_eq_true, false_implies, true_implies, implies_true, decide_eq_true_eq, decide_eq_false_iff_not, Bool.not_true, Bool.not_false, Bool.not_eq_true, Bool.not_eq_false, Bool.not_eq_true', Bool.not_eq_false', not_true_eq_false, not_false_eq_true, false_and, and_false, or_false, false_or, reduceCtorEq, ↓exLSu, ↓exDKu, ↓exDKd, ↓exLSd, ↓exLu, ↓dIxRu, ↓dPutu, ↓dGetAu, ↓dEq_int, ↓dNe_int, ↓dEq_bl, ↓dNe_bl, ↓dEq_str, ↓dNe_str, ↓dAdd_int, ↓exAt10, ↓exIx10, ↓exAt20, ↓exIx20, ↓exAt21, ↓exIx21, ↓exAt30, ↓exIx30, ↓exAt31, ↓exIx31, ↓exAt32, ↓exIx32, ↓exAt40, ↓exIx40, ↓exAt41, ↓exIx41, ↓exAt42, ↓exIx42, ↓exAt43, ↓exIx43, ↓exAt50, ↓exIx50, ↓exAt51, ↓exIx51, ↓exAt52, ↓exIx52, ↓exAt53, ↓exIx53, ↓exAt54, ↓exIx54, ↓exAt60, ↓exIx60, ↓exAt61, ↓exIx61, ↓exAt62, ↓exIx62, ↓exAt63, ↓exIx63, ↓exAt64, ↓exIx64, ↓exAt65, ↓exIx65, up_up, false_or, or_false, ↓exAtM, ↓dFlag_bl, ↓exBl, ↓exInt, ↓exRef, ↓dVar0, ↓dAug0, ↓dSet0, ↓dTgN0, ↓dTgW0, ↓dVar1, ↓dAug1, ↓dSet1, ↓dTgN1, ↓dTgW1, ↓dVar2, ↓dAug2, ↓dSet2, ↓dTgN2, ↓dTgW2, ↓dVar3, ↓dAug3, ↓dSet3, ↓dTgN3, ↓dTgW3, ↓dVar4, ↓dAug4, ↓dSet4, ↓dTgN4, ↓dTgW4, ↓dVar5, ↓dAug5, ↓dSet5, ↓dTgN5, ↓dTgW5, ↓dVar6, ↓dAug6, ↓dSet6, ↓dTgN6, ↓dTgW6, ↓dVar7, ↓dAug7, ↓dSet7, ↓dTgN7, ↓dTgW7, ↓dVar8, ↓dAug8, ↓dSet8, ↓dTgN8, ↓dTgW8, ↓dVar9, ↓dAug9, ↓dSet9, ↓dTgN9, ↓dTgW9, ↓dVar10, ↓dAug10, ↓dSet10, ↓dTgN10, ↓dTgW10, ↓dVar11, ↓dAug11, ↓dSet11, ↓dTgN11, ↓dTgW11, ↓dVar12, ↓dAug12, ↓dSet12, ↓dTgN12, ↓dTgW12, ↓dVar13, ↓dAug13, ↓dSet13, ↓dTgN13, ↓dTgW13, ↓dVar14, ↓dAug14, ↓dSet14, ↓dTgN14, ↓dTgW14, ↓dVar15, ↓dAug15, ↓dSet15, ↓dTgN15, ↓dTgW15, ↓dVar16, ↓dAug16, ↓dSet16, ↓dTgN16, ↓dTgW16, ↓dVar17, ↓dAug17, ↓dSet17, ↓dTgN17, ↓dTgW17, ↓dVar18, ↓dAug18, ↓dSet18, ↓dTgN18, ↓dTgW18, ↓dVar19, ↓dAug19, ↓dSet19, ↓dTgN19, ↓dTgW19, ↓dTg_t2, ↓dTg_t3, ↓exGetM, ↓exSumU, nD, plD, rwD, ↓dAdd_tup, ↓dAdd_ref, dIx_tup, dIx_str, dIx_ref, dIx_kl, dListOf_tup, dListOf_kl, dListOf_ref, dLen_tup, dLen_str, dLen_kl, dLen_ref, dTupOf_tup, dTupOf_ref, dSeqI_x, sqX_tup, sqX_ref, sqX_str, dEnumI_x, enX_tup, enX_ref, dSrtSet, dSortA, dIsi2, isT2, Bool.or_true, Bool.true_or, Bool.or_false, Bool.or_self, dReprR, dReprT, dDGet2]
    refine .inl ⟨_, w.map (fun n : Nat => (n : Int)), rfl, by rw [nD_ints]; exact .t, ?_⟩
    by_cases hi : i ∈ w
    · rw [decide_eq_true (em.mpr hi)]
      exact ⟨fun z => absurd z (by decide), fun _ => sb0 (y2 (decide_eq_false fun z => z hi))⟩
    · rw [decide_eq_false fun z => hi (em.mp z)]
      exact ⟨fun _ => sb0 (y1 (decide_eq_true hi)), fun z => absurd z (by decide)⟩
  · rw [h1]
    simp (config := {failIfUnchanged := false}) only [dC, dOp, dTest, dChain, dAnd, dOr, dNot, dAndV, dOrV, dNotV, dIf, dNil, dCons, dTup, dLst, dCB, d1, dNoPart, dPart, dSl, dCut, dNeg, dSorted, dSum, dAll, dAny, dInt, dAbs, dMax, dMin, dIsi, isT, dNext, dSeq, dBrk, dCont, dNever, dExpr, dRet, dRetN, dIfS, dAsg, dPutI, dI0, dI, dIsN, dNotN, dRng1, dRng2, dRngDn, dZipI, dYes, dCall, dLM, dAppend, dExtend, dReverse, dInsert, dAugI, dRg1, dRg2, dTupRg, dLstRg, dNewK, dNewT, ↓S0_, ↓S1_, ↓S2_, ↓S3_, ↓S4_, ↓S5_, ↓S6_, List.map_cons, List.map_nil, List.length_cons, List.length_nil, List.replicate, List.cons_append, List.nil_append, Nat.reduceAdd, Nat.reduceSub, Nat.zero_add, List.getElem?_cons_zero, List.getElem?_cons_succ, Option.some.injEq, exists_eq_left, exists_eq_left', List.set_cons_zero, List.set_cons_succ, wipeD, D.int.injEq, D.bl.injEq, D.str.injEq, D.ref.injEq, D.tup.injEq, D.ty.injEq, true_and, and_true, forall_const, forall_eq', forall_eq, mt_int, mt_bool, mt_str, mt_tuple, mt_list, mt_dict, st_int_int, st_int_bool, st_int_str, st_int_tuple, st_int_list, st_int_dict, st_bool_int, st_bool_bool, st_bool_str, st_bool_tuple, st_bool_list, st_bool_dict, st_str_int, st_str_bool, st_str_str, st_str_tuple, st_str_list, st_str_dict, st_tuple_int, st_tuple_bool, st_tuple_str, st_tuple_tuple, st_tuple_list, st_tuple_dict, st_list_int, st_list_bool, st_list_str, st_list_tuple, st_list_list, st_list_dict, st_dict_int, st_dict_bool, st_dict_str, st_dict_tuple, st_dict_list, st_dict_dict, eq_self, Bool.true_eq_false, Bool.false_eq_true, false_implies, true_implies, implies_true, decide_eq_true_eq, decide_eq_false_iff_not, Bool.not_true, Bool.not_false, Bool.not_eq_true, Bool.not_eq_false, Bool.not_eq_true', Bool.not_eq_false', not_true_eq_false, not_false_eq_true, false_and, and_false, or_false, false_or, reduceCtorEq, ↓exLSu, ↓exDKu, ↓exDKd, ↓exLSd, ↓exLu, ↓dIxRu, ↓dPutu, ↓dGetAu, ↓dEq_int, ↓dNe_int, ↓dEq_bl, ↓dNe_bl, ↓dEq_str, ↓dNe_str, ↓dAdd_int, ↓exAt10, ↓exIx10, ↓exAt20, ↓exIx20, ↓exAt21, ↓exIx21, ↓exAt30, ↓exIx30, ↓exAt31, ↓exIx31, ↓exAt32, ↓exIx32, ↓exAt40, ↓exIx40, ↓exAt41, ↓exIx41, ↓exAt42, ↓exIx42, ↓exAt43, ↓exIx43, ↓exAt50, ↓exIx50, ↓exAt51, ↓exIx51, ↓exAt52, ↓exIx52, ↓exAt53, ↓exIx53, ↓exAt54, ↓exIx54, ↓exAt60, ↓exIx60, ↓exAt61, ↓exIx61, ↓exAt62, ↓exIx62, ↓exAt63, ↓exIx63, ↓exAt64, ↓exIx64, ↓exAt65, ↓exIx65, up_up, false_or, or_false, ↓exAtM, ↓dFlag_bl, ↓exBl, ↓exInt, ↓exRef, ↓dVar0, ↓dAug0, ↓dSet0, ↓dTgN0, ↓dTgW0, ↓dVar1, ↓dAug1, ↓dSet1, ↓dTgN1, ↓dTgW1, ↓dVar2, ↓dAug2, ↓dSet2, ↓dTgN2, ↓dTgW2, ↓dVar3, ↓dAug3, ↓dSet3, ↓dTgN3, ↓dTgW3, ↓dVar4, ↓dAug4, ↓dSet4, ↓dTgN4, ↓dTgW4, ↓dVar5, ↓dAug5, ↓dSet5, ↓dTgN5, ↓dTgW5, ↓dVar6, ↓dAug6, ↓dSet6, ↓dTgN6, ↓dTgW6, ↓dVar7, ↓dAug7, ↓dSet7, ↓dTgN7, ↓dTgW7, ↓dVar8, ↓dAug8, ↓dSet8, ↓dTgN8, ↓dTgW8, ↓dVar9, ↓dAug9, ↓dSet9, ↓dTgN9, ↓dTgW9, ↓dVar10, ↓dAug10, ↓dSet10, ↓dTgN10, ↓dTgW10, ↓dVar11, ↓dAug11, ↓dSet11, ↓dTgN11, ↓dTgW11, ↓dVar12, ↓dAug12, ↓dSet12, ↓dTgN12, ↓dTgW12, ↓dVar13, ↓dAug13, ↓dSet13, ↓dTgN13, ↓dTgW13, ↓dVar14, ↓dAug14, ↓dSet14, ↓dTgN14, ↓dTgW14, ↓dVar15, ↓dAug15, ↓dSet15, ↓dTgN15, ↓dTgW15, ↓dVar16, ↓dAug16, ↓dSet16, ↓dTgN16, ↓dTgW16, ↓dVar17, ↓dAug17, ↓dSet17, ↓dTgN17, ↓dTgW17, ↓dVar18, ↓dAug18, ↓dSet18, ↓dTgN18, ↓dTgW18, ↓dVar19, ↓dAug19, ↓dSet19, ↓dTgN19, ↓dTgW19, ↓dTg_t2, ↓dTg_t3, ↓exGetM, ↓exSumU, nD, plD, rwD, ↓dAdd_tup, ↓dAdd_ref, dIx_tup, dIx_str, dIx_ref, dIx_kl, dListOf_tup, dListOf_kl, dListOf_ref, dLen_tup, dLen_str, dLen_kl, dLen_ref, dTupOf_tup, dTupOf_ref, dSeqI_x, sqX_tup, sqX_ref, sqX_str, dEnumI_x, enX_tup, enX_ref, dSrtSet, dSortA, dIsi2, isT2, Bool.or_true, Bool.true_or, Bool.or_false, Bool.or_self, dReprR, dReprT, dDGet2]
    rw [show (fun p : Ev × Nat => evD p.1) = evD ∘ (·.1) from rfl, ← List.map_map]
    exact dn0 (h q _ (Sub.new hq (by intro _ z; cases z)) hq up_same)
theorem pr__law_without (G : Gv K mg) : Pr P w K mg base "_law_without" 1 ["_law_events", "_law_left"] (S2 fun x y M Q => ∃ a l w, x = .ref a ∧ M a = some (.lst (l.map evD)) ∧ l.length ≤ 60 ∧ y = rwD w ∧ w.length ≤ 100 ∧ ∀ f M', Sub M' M → M f = none → M' f = some (.lst ((wo l w).map evD)) → Q (.ref f) M') := by
  refine (pr3 (k := 0) G.d__law_without bi__law_without sc__law_without S2n (fun f cdv A outer s H E hr => (b_one (s_ret (e_lc (own := [("_law_k", 2)]) rfl sc__law_without.nd (i_rng1 (by rfl) G.b_range (a_cons (e_callB cd_len (by rfl) G.b_len rfl (a_cons (e_var 0) a_nil)) a_nil)) (blkOk_by (by rfl)) (fun _ _ _ _ _ => (g_nm 2 sc__law_without.nd)) (fun _ _ _ _ _ => (ts_one (t_cmp (od_notin (hu_of hr)) (e_var 2) (e_var 1)))) (fun _ _ _ _ _ => (e_ix (ixd (hu_of hr)) (e_var 0) (e_var 2)))))))) ?_
  rintro _ M Q E ⟨_, _, rfl, a, l, w, rfl, ha, hl, rfl, hw, h⟩ H rep
  refine ⟨M, rep, fun _ h => h, ?_⟩
  simp only [startD, List.map_cons, List.map_nil, List.length_cons, List.length_nil, Nat.reduceAdd, Nat.reduceSub, Nat.zero_add, List.replicate, List.cons_append, List.nil_append]; simp (config := {failIfUnchanged := false}) only [dC, dOp, dTest, dChain, dAnd, dOr, dNot, dAndV, dOrV, dNotV, dIf, dNil, dCons, dTup, dLst, dCB, d1, dNoPart, dPart, dSl, dCut, dNeg, dSorted, dSum, dAll, dAny, dInt, dAbs, dMax, dMin, dIsi, isT, dNext, dSeq, dBrk, dCont, dNever, dExpr, dRet, dRetN, dIfS, dAsg, dPutI, dI0, dI, dIsN, dNotN, dRng1, dRng2, dRngDn, dZipI, dYes, dCall, dLM, dAppend, dExtend, dReverse, dInsert, dAugI, dRg1, dRg2, dTupRg, dLstRg, dNewK, dNewT, ↓S0_, ↓S1_, ↓S2_, ↓S3_, ↓S4_, ↓S5_, ↓S6_, List.map_cons, List.map_nil, List.length_cons, List.length_nil, List.replicate, List.cons_append, List.nil_append, Nat.reduceAdd, Nat.reduceSub, Nat.zero_add, List.getElem?_cons_zero, List.getElem?_cons_succ, Option.some.injEq, exists_eq_left, exists_eq_left', List.set_cons_zero, List.set_cons_succ, wipeD, D.int.injEq, D.bl.injEq, D.str.injEq, D.ref.injEq, D.tup.injEq, D.ty.injEq, true_and, and_true, forall_const, forall_eq', forall_eq, mt_int, mt_bool, mt_str, mt_tuple, mt_list, mt_dict, st_int_int, st_int_bool, st_int_str, st_int_tuple, st_int_list, st_int_dict, st_bool_int, st_bool_bool, st_bool_str, st_bool_tuple, st_bool_list, st_bool_dict, st_str_int, st_str_bool, st_str_str, st_str_tuple, st_str_list, st_str_dict, st_tuple_int, st_tuple_bool, st_tuple_str, st_tuple_tuple, st_tuple_list, st_tuple_dict, st_list_int, st_list_bool, st_list_str, st_list_tuple, st_list_list, st_list_dict, st_dict_int, st_dict_bool, st_dict_str, st_dict_tuple, st_dict_list, st_dict_dict, eq_self, Bool.true_eq_false, Bool.false_eq_true, false_implies, true_implies, implies_true, decide_eq_true_eq, decide_eq_false_iff_not, Bool.not_true, Bool.not_false, Bool.not_eq_true, Bool.not_eq_false, Bool.not_eq_true', Bool.not_eq_false', not_true_eq_false, not_false_eq_true, false_and, and_false, or_false, false_or, reduceCtorEq, ↓exLSu, ↓exDKu, ↓exDKd, ↓exLSd, ↓exLu, ↓dIxRu, ↓dPutu, ↓dGetAu, ↓dEq_int, ↓dNe_int, ↓dEq_bl, ↓dNe_bl, ↓dEq_str, ↓dNe_str, ↓dAdd_int, ↓exAt10, ↓exIx10, ↓exAt20, ↓exIx20, ↓exAt21, ↓exIx21, ↓exAt30, ↓exIx30, ↓exAt31, ↓exIx31, ↓exAt32, ↓exIx32, ↓exAt40, ↓exIx40, ↓exAt41, ↓exIx41, ↓exAt42, ↓exIx42, ↓exAt43, ↓exIx43, ↓exAt50, ↓exIx50, ↓exAt51, ↓exIx51, ↓exAt52, ↓exIx52, ↓exAt53, ↓exIx53, ↓exAt54, ↓exIx54, ↓exAt60, ↓exIx60, ↓exAt61, ↓exIx61, ↓exAt62, ↓exIx62, ↓exAt63, ↓exIx63, ↓exAt64, ↓exIx64, ↓exAt65, ↓exIx65, up_up, false_or, or_false, ↓exAtM, ↓dFlag_bl, ↓exBl, ↓exInt, ↓exRef, ↓dVar0, ↓dAug0, ↓dSet0, ↓dTgN0, ↓dTgW0, ↓dVar1, ↓dAug1, ↓dSet1, ↓dTgN1, ↓dTgW1, ↓dVar2, ↓dAug2, ↓dSet2, ↓dTgN2, ↓dTgW2, ↓dVar3, ↓dAug3, ↓dSet3, ↓dTgN3, ↓dTgW3, ↓dVar4, ↓dAug4, ↓dSet4, ↓dTgN4, ↓dTgW4, ↓dVar5, ↓dAug5, ↓dSet5, ↓dTgN5, ↓dTgW5, ↓dVar6, ↓dAug6, ↓dSet6, ↓dTgN6, ↓dTgW6, ↓dVar7, ↓dAug7, ↓dSet7, ↓dTgN7, ↓dTgW7, ↓dVar8, ↓dAug8, ↓dSet8, ↓dTgN8, ↓dTgW8, ↓dVar9, ↓dAug9, ↓dSet9, ↓dTgN9, ↓dTgW9, ↓dVar10, ↓dAug10, ↓dSet10, ↓dTgN10, ↓dTgW10, ↓dVar11, ↓dAug11, ↓dSet11, ↓dTgN11, ↓dTgW11, ↓dVar12, ↓dAug12, ↓dSet12, ↓dTgN12, ↓dTgW12, ↓dVar13, ↓dAug13, ↓dSet13, ↓dTgN13, ↓dTgW13, ↓dVar14, ↓dAug14, ↓dSet14, ↓dTgN14, ↓dTgW14, ↓dVar15, ↓dAug15, ↓dSet15, ↓dTgN15, ↓dTgW15, ↓dVar16, ↓dAug16, ↓dSet16, ↓dTgN16, ↓dTgW16, ↓dVar17, ↓dAug17, ↓dSet17, ↓dTgN17, ↓dTgW17, ↓dVar18, ↓dAug18, ↓dSet18, ↓dTgN18, ↓dTgW18, ↓dVar19, ↓dAug19, ↓dSet19, ↓dTgN19, ↓dTgW19, ↓dTg_t2, ↓dTg_t3, ↓exGetM, ↓exSumU, nD, plD, rwD, ↓dAdd_tup, ↓dAdd_ref, dIx_tup, dIx_str, dIx_ref, dIx_kl, dListOf_tup, dListOf_kl, dListOf_ref, dLen_tup, dLen_str, dLen_kl, dLen_ref, dTupOf_tup, dTupOf_ref, dSeqI_x, sqX_tup, sqX_ref, sqX_str, dEnumI_x, enX_tup, enX_ref, dSrtSet, dSortA, dIsi2, isT2, Bool.or_true, Bool.true_or, Bool.or_false, Bool.or_self, dReprR, dReprT, dDGet2, ↓exLS ha, ↓exDKh ha]
  refine dLc_g fun F1 T1 U1 h1 t1 u1 => ?_; simp only [dLc, dC, dOp, dTest, dChain, dAnd, dOr, dNot, dAndV, dOrV, dNotV, dIf, dNil, dCons, dTup, dLst, dCB, d1, dNoPart, dPart, dSl, dCut, dNeg, dSorted, dSum, dAll, dAny, dInt, dAbs, dMax, dMin, dIsi, isT, dNext, dSeq, dBrk, dCont, dNever, dExpr, dRet, dRetN, dIfS, dAsg, dPutI, dI0, dI, dIsN, dNotN, dRng1, dRng2, dRngDn, dZipI, dYes, dCall, dLM, dAppend, dExtend, dReverse, dInsert, dAugI, dRg1, dRg2, dTupRg, dLstRg, dNewK, dNewT, ↓S0_, ↓S1_, ↓S2_, ↓S3_, ↓S4_, ↓S5_, ↓S6_, List.map_cons, List.map_nil, List.length_cons, List.length_nil, List.replicate, List.cons_append, List.nil_append, Nat.reduceAdd, Nat.reduceSub, Nat.zero_add, List.getElem?_cons_zero, List.getElem?_cons_succ, Option.some.injEq, exists_eq_left, exists_eq_left', List.set_cons_zero, List.set_cons_succ, wipeD, D.int.injEq, D.bl.injEq, D.str.injEq, D.ref.injEq, D.tup.injEq, D.ty.injEq, true_and, and_true, forall_const, forall_eq', forall_eq, mt_int, mt_bool, mt_str, mt_tuple, mt_list, mt_dict, st_int_int, st_int_bool, st_int_str, st_int_tuple, st_int_list, st_int_dict, st_bool_int, st_bool_bool, st_bool_str, st_bool_tuple, st_bool_list, st_bool_dict, st_str_int, st_str_bool, st_str_str, st_str_tuple, st_str_list, st_str_dict, st_tuple_int, st_tuple_bool, st_tuple_str, st_tuple_tuple, st_tuple_list, st_tuple_dict, st_list_int, st_list_bool, st_list_str, st_list_tuple, st_list_list, st_list_dict, st_dict_int, st_dict_bool, st_dict_str, st_dict_tuple, st_dict_list, st_dict_dict, eq_self, Bool.true_eq_false, Bool.false_eq_true, false_implies, true_implies, implies_true, decide_eq_true_eq, decide_eq_false_iff_not, Bool.not_true, Bool.not_false, Bool.not_eq_true, Bool.not_eq_false, Bool.not_eq_true', Bool.not_eq_false', not_true_eq_false, not_false_eq_true, false_and, and_false, or_false, false_or, reduceCtorEq, ↓exLSu, ↓exDKu, ↓exDKd, ↓exLSd, ↓exLu, ↓dIxRu, ↓dPutu, ↓dGetAu, ↓dEq_int, ↓dNe_int, ↓dEq_bl, ↓dNe_bl, ↓dEq_str, ↓dNe_str, ↓dAdd_int, ↓exAt10, ↓exIx10, ↓exAt20, ↓exIx20, ↓exAt21, ↓exIx21, ↓exAt30, ↓exIx30, ↓exAt31, ↓exIx31, ↓exAt32, ↓exIx32, ↓exAt40, ↓exIx40, ↓exAt41, ↓exIx41, ↓exAt42, ↓exIx42, ↓exAt43, ↓exIx43, ↓exAt50, ↓exIx50, ↓exAt51, ↓exIx51, ↓exAt52, ↓exIx52, ↓exAt53, ↓exIx53, ↓exAt54, ↓exIx54, ↓exAt60, ↓exIx60, ↓exAt61, ↓exIx61, ↓exAt62, ↓exIx62, ↓exAt63, ↓exIx63, ↓exAt64, ↓exIx64, ↓exAt65, ↓exIx65, up_up, false_or, or_false, ↓exAtM, ↓dFlag_bl, ↓exBl, ↓exInt, ↓exRef, ↓dVar0, ↓dAug0, ↓dSet0, ↓dTgN0, ↓dTgW0, ↓dVar1, ↓dAug1, ↓dSet1, ↓dTgN1, ↓dTgW1, ↓dVar2, ↓dAug2, ↓dSet2, ↓dTgN2, ↓dTgW2, ↓dVar3, ↓dAug3, ↓dSet3, ↓dTgN3, ↓dTgW3, ↓dVar4, ↓dAug4, ↓dSet4, ↓dTgN4, ↓dTgW4, ↓dVar5, ↓dAug5, ↓dSet5, ↓dTgN5, ↓dTgW5, ↓dVar6, ↓dAug6, ↓dSet6, ↓dTgN6, ↓dTgW6, ↓dVar7, ↓dAug7, ↓dSet7, ↓dTgN7, ↓dTgW7, ↓dVar8, ↓dAug8, ↓dSet8, ↓dTgN8, ↓dTgW8, ↓dVar9, ↓dAug9, ↓dSet9, ↓dTgN9, ↓dTgW9, ↓dVar10, ↓dAug10, ↓dSet10, ↓dTgN10, ↓dTgW10, ↓dVar11, ↓dAug11, ↓dSet11, ↓dTgN11, ↓dTgW11, ↓dVar12, ↓dAug12, ↓dSet12, ↓dTgN12, ↓dTgW12, ↓dVar13, ↓dAug13, ↓dSet13, ↓dTgN13, ↓dTgW13, ↓dVar14, ↓dAug14, ↓dSet14, ↓dTgN14, ↓dTgW14, ↓dVar15, ↓dAug15, ↓dSet15, ↓dTgN15, ↓dTgW15, ↓dVar16, ↓dAug16, ↓dSet16, ↓dTgN16, ↓dTgW16, ↓dVar17, ↓dAug17, ↓dSet17, ↓dTgN17, ↓dTgW17, ↓dVar18, ↓dAug18, ↓dSet18, ↓dTgN18, ↓dTgW18, ↓dVar19, ↓dAug19, ↓dSet19, ↓dTgN19, ↓dTgW19, ↓dTg_t2, ↓dTg_t3, ↓exGetM, ↓exSumU, nD, plD, rwD, ↓dAdd_tup, ↓dAdd_ref, dIx_tup, dIx_str, dIx_ref, dIx_kl, dListOf_tup, dListOf_kl, dListOf_ref, dLen_tup, dLen_str, dLen_kl, dLen_ref, dTupOf_tup, dTupOf_ref, dSeqI_x, sqX_tup, sqX_ref, sqX_str, dEnumI_x, enX_tup, enX_ref, dSrtSet, dSortA, dIsi2, isT2, Bool.or_true, Bool.true_or, Bool.or_false, Bool.or_self, dReprR, dReprT, dDGet2]
  have er : rngD 0 ((l.map evD).length : Int) = l.zipIdx.map fun p => nD p.2 := by
    rw [List.length_map, rng0, ← zip_snd l, List.map_map]; rfl
  refine .inl ⟨_, .inl ha, by rw [List.length_map]; omega, by rw [List.length_map, rng0, List.length_map, List.length_range]; exact Nat.le_of_lt (small1000 (by omega)), lcF (fun p : Ev × Nat => nD p.2) (fun p => evD p.1) (fun p => decide (p.2 ∉ w)) l.zipIdx er (fun l1 p t pre acc P' e1 y1 y2 => ?_) (fun q hq => ?_)⟩
  · have hz := zip_at (show p ∈ l.zipIdx by rw [e1]; simp)
    obtain ⟨e, i⟩ := p
    have em : ((i : Nat) : Int) ∈ (w.map fun n : Nat => (n : Int)) ↔ i ∈ w := by
      rw [List.mem_map]
      exact ⟨fun ⟨a, h1, h2⟩ => by have : a = i := by omega
                                   rwa [← this], fun z => ⟨_, z, rfl⟩⟩
    subst t1; subst u1
    simp (config := {failIfUnchanged := false}) only [dC, dOp, dTest, dChain, dAnd, dOr, dNot, dAndV, dOrV, dNotV, dIf, dNil, dCons, dTup, dLst, dCB, d1, dNoPart, dPart, dSl, dCut, dNeg, dSorted, dSum, dAll, dAny, dInt, dAbs, dMax, dMin, dIsi, isT, dNext, dSeq, dBrk, dCont, dNever, dExpr, dRet, dRetN, dIfS, dAsg, dPutI, dI0, dI, dIsN, dNotN, dRng1, dRng2, dRngDn, dZipI, dYes, dCall, dLM, dAppend, dExtend, dReverse, dInsert, dAugI, dRg1, dRg2, dTupRg, dLstRg, dNewK, dNewT, ↓S0_, ↓S1_, ↓S2_, ↓S3_, ↓S4_, ↓S5_, ↓S6_, List.map_cons, List.map_nil, List.length_cons, List.length_nil, List.replicate, List.cons_append, List.nil_append, Nat.reduceAdd, Nat.reduceSub, Nat.zero_add, List.getElem?_cons_zero, List.getElem?_cons_succ, Option.some.injEq, exists_eq_left, exists_eq_left', List.set_cons_zero, List.set_cons_succ, wipeD, D.int.injEq, D.bl.injEq, D.str.injEq, D.ref.injEq, D.tup.injEq, D.ty.injEq, true_and, and_true, forall_const, forall_eq', forall_eq, mt_int, mt_bool, mt_str, mt_tuple, mt_list, mt_dict, st_int_int, st_int_bool, st_int_str, st_int_tuple, st_int_list, st_int_dict, st_bool_int, st_bool_bool, st_bool_str, st_bool_tuple, st_bool_list, st_bool_dict, st_str_int, st_str_bool, st_str_str, st_str_tuple, st_str_list, st_str_dict, st_tuple_int, st_tuple_bool, st_tuple_str, st_tuple_tuple, st_tuple_list, st_tuple_dict, st_list_int, st_list_bool, st_list_str, st_list_tuple, st_list_list, st_list_dict, st_dict_int, st_dict_bool, st_dict_str, st_dict_tuple, st_dict_list, st_dict_dict, eq_self, Bool.true_eq_false, Bool.false_eq_true, false_implies, true_implies, implies_true, decide_eq_true_eq, decide_eq_false_iff_not, Bool.not_true, Bool.not_false, Bool.not_eq_true, Bool.not_eq_false, Bool.not_eq_true', Bool.not_eq_false', not_true_eq_false, not_false_eq_true, false_and, and_false, or_false, false_or, reduceCtorEq, ↓exLSu, ↓exDKu, ↓exDKd, ↓exLSd, ↓exLu, ↓dIxRu, ↓dPutu, ↓dGetAu, ↓dEq_int, ↓dNe_int, ↓dEq_bl, ↓dNe_bl, ↓dEq_str, ↓dNe_str, ↓dAdd_int, ↓exAt10, ↓exIx10, ↓exAt20, ↓exIx20, ↓exAt21, ↓exIx21, ↓exAt30, ↓exIx30, ↓exAt31, ↓exIx31, ↓exAt32, ↓exIx32, ↓exAt40, ↓exIx40, ↓exAt41, ↓exIx41, ↓exAt42, ↓exIx42, ↓exAt43, ↓exIx43, ↓exAt50, ↓exIx50, ↓exAt51, ↓exIx51, ↓exAt52, ↓exIx52, ↓exAt53, ↓exIx53, ↓exAt54, ↓exIx54, ↓exAt60, ↓exIx60, ↓exAt61, ↓exIx61, ↓exAt62, ↓exIx62, ↓exAt63, ↓exIx63, ↓exAt64, ↓exIx64, ↓exAt65, ↓exIx65, up_up, false_or, or_false, ↓exAtM, ↓dFlag_bl, ↓exBl, ↓exInt, ↓exRef, ↓dVar0, ↓dAug0, ↓dSet0, ↓dTgN0, ↓dTgW0, ↓dVar1, ↓dAug1, ↓dSet1, ↓dTgN1, ↓dTgW1, ↓dVar2, ↓dAug2, ↓dSet2, ↓dTgN2, ↓dTgW2, ↓dVar3, ↓dAug3, ↓dSet3, ↓dTgN3, ↓dTgW3, ↓dVar4, ↓dAug4, ↓dSet4, ↓dTgN4, ↓dTgW4, ↓dVar5, ↓dAug5, ↓dSet5, ↓dTgN5, ↓dTgW5, ↓dVar6, ↓dAug6, ↓dSet6, ↓dTgN6, ↓dTgW6, ↓dVar7, ↓dAug7, ↓dSet7, ↓dTgN7, ↓dTgW7, ↓dVar8, ↓dAug8, ↓dSet8, ↓dTgN8, ↓dTgW8, ↓dVar9, ↓dAug9, ↓dSet9, ↓dTgN9, ↓dTgW9, ↓dVar10, ↓dAug10, ↓dSet10, ↓dTgN10, ↓dTgW10, ↓dVar11, ↓dAug11, ↓dSet11, ↓dTgN11, ↓dTgW11, ↓dVar12, ↓dAug12, ↓dSet12, ↓dTgN12, ↓dTgW12, ↓dVar13, ↓dAug13, ↓dSet13, ↓dTgN13, ↓dTgW13, ↓dVar14, ↓dAug14, ↓dSet14, ↓dTgN14, ↓dTgW14, ↓dVar15, ↓dAug15, ↓dSet15, ↓dTgN15, ↓dTgW15, ↓dVar16, ↓dAug16, ↓dSet16, ↓dTgN16, ↓dTgW16, ↓dVar17, ↓dAug17, ↓dSet17, ↓dTgN17, ↓dTgW17, ↓dVar18, ↓dAug18, ↓dSet18, ↓dTgN18, ↓dTgW18, ↓dVar19, ↓dAug19, ↓dSet19, ↓dTgN19, ↓dTgW19, ↓dTg_t2, ↓dTg_t3, ↓exGetM, ↓exSumU, nD, plD, rwD, ↓dAdd_tup, ↓dAdd_ref, dIx_tup, dIx_str, dIx_ref, dIx_kl, dListOf_tup, dListOf_kl, dListOf_ref, dLen_tup, dLen_str, dLen_kl, dLen_ref, dTupOf_tup, dTupOf_ref, dSeqI_x, sqX_tup, sqX_ref, sqX_str, dEnumI_x, enX_tup, enX_ref, dSrtSet, dSortA, dIsi2, isT2, Bool.or_true, Bool.true_or, Bool.or_false, Bool.or_self, dReprR, dReprT, dDGet2, ↓dIxRh ha]
    refine .inl ⟨_, w.map (fun n : Nat => (n : Int)), rfl, by rw [nD_ints]; exact .t, ?_⟩
    by_cases hi : i ∈ w
    · rw [decide_eq_true (em.mpr hi)]
      exact ⟨fun z => absurd z (by decide), fun _ => sb0 (y2 (decide_eq_false fun z => z hi))⟩
    · rw [decide_eq_false fun z => hi (em.mp z)]
      exact ⟨fun _ => ⟨_, atI_nat hz, sb0 (y1 (decide_eq_true hi))⟩, fun z => absurd z (by decide)⟩
  · rw [h1]
    simp (config := {failIfUnchanged := false}) only [dC, dOp, dTest, dChain, dAnd, dOr, dNot, dAndV, dOrV, dNotV, dIf, dNil, dCons, dTup, dLst, dCB, d1, dNoPart, dPart, dSl, dCut, dNeg, dSorted, dSum, dAll, dAny, dInt, dAbs, dMax, dMin, dIsi, isT, dNext, dSeq, dBrk, dCont, dNever, dExpr, dRet, dRetN, dIfS, dAsg, dPutI, dI0, dI, dIsN, dNotN, dRng1, dRng2, dRngDn, dZipI, dYes, dCall, dLM, dAppend, dExtend, dReverse, dInsert, dAugI, dRg1, dRg2, dTupRg, dLstRg, dNewK, dNewT, ↓S0_, ↓S1_, ↓S2_, ↓S3_, ↓S4_, ↓S5_, ↓S6_, List.map_cons, List.map_nil, List.length_cons, List.length_nil, List.replicate, List.cons_append, List.nil_append, Nat.reduceAdd, Nat.reduceSub, Nat.zero_add, List.getElem?_cons_zero, List.getElem?_cons_succ, Option.some.injEq, exists_eq_left, exists_eq_left', List.set_cons_zero, List.set_cons_succ, wipeD, D.int.injEq, D.bl.injEq, D.str.injEq, D.ref.injEq, D.tup.injEq, D.ty.injEq, true_and, and_true, forall_const, forall_eq', forall_eq, mt_int, mt_bool, mt_str, mt_tuple, mt_list, mt_dict, st_int_int, st_int_bool, st_int_str, st_int_tuple, st_int_list, st_int_dict, st_bool_int, st_bool_bool, st_bool_str, st_bool_tuple, st_bool_list, st_bool_dict, st_str_int, st_str_bool, st_str_str, st_str_tuple, st_str_list, st_str_dict, st_tuple_int, st_tuple_bool, st_tuple_str, st_tuple_tuple, st_tuple_list, st_tuple_dict, st_list_int, st_list_bool, st_list_str, st_list_tuple, st_list_list, st_list_dict, st_dict_int, st_dict_bool, st_dict_str, st_dict_tuple, st_dict_list, st_dict_dict, eq_self, Bool.true_eq_false, Bool.false_eq_true, false_implies, true_implies, implies_true, decide_eq_true_eq, decide_eq_false_iff_not, Bool.not_true, Bool.not_false, Bool.not_eq_true, Bool.not_eq_false, Bool.not_eq_true', Bool.not_eq_false', not_true_eq_false, not_false_eq_true, false_and, and_false, or_false, false_or, reduceCtorEq, ↓exLSu, ↓exDKu, ↓exDKd, ↓exLSd, ↓exLu, ↓dIxRu, ↓dPutu, ↓dGetAu, ↓dEq_int, ↓dNe_int, ↓dEq_bl, ↓dNe_bl, ↓dEq_str, ↓dNe_str, ↓dAdd_int, ↓exAt10, ↓exIx10, ↓exAt20, ↓exIx20, ↓exAt21, ↓exIx21, ↓exAt30, ↓exIx30, ↓exAt31, ↓exIx31, ↓exAt32, ↓exIx32, ↓exAt40, ↓exIx40, ↓exAt41, ↓exIx41, ↓exAt42, ↓exIx42, ↓exAt43, ↓exIx43, ↓exAt50, ↓exIx50, ↓exAt51, ↓exIx51, ↓exAt52, ↓exIx52, ↓exAt53, ↓exIx53, ↓exAt54, ↓exIx54, ↓exAt60, ↓exIx60, ↓exAt61, ↓exIx61, ↓exAt62, ↓exIx62, ↓exAt63, ↓exIx63, ↓exAt64, ↓exIx64, ↓exAt65, ↓exIx65, up_up, false_or, or_false, ↓exAtM, ↓dFlag_bl, ↓exBl, ↓exInt, ↓exRef, ↓dVar0, ↓dAug0, ↓dSet0, ↓dTgN0, ↓dTgW0, ↓dVar1, ↓dAug1, ↓dSet1, ↓dTgN1, ↓dTgW1, ↓dVar2, ↓dAug2, ↓dSet2, ↓dTgN2, ↓dTgW2, ↓dVar3, ↓dAug3, ↓dSet3, ↓dTgN3, ↓dTgW3, ↓dVar4, ↓dAug4, ↓dSet4, ↓dTgN4, ↓dTgW4, ↓dVar5, ↓dAug5, ↓dSet5, ↓dTgN5, ↓dTgW5, ↓dVar6, ↓dAug6, ↓dSet6, ↓dTgN6, ↓dTgW6, ↓dVar7, ↓dAug7, ↓dSet7, ↓dTgN7, ↓dTgW7, ↓dVar8, ↓dAug8, ↓dSet8, ↓dTgN8, ↓dTgW8, ↓dVar9, ↓dAug9, ↓dSet9, ↓dTgN9, ↓dTgW9, ↓dVar10, ↓dAug10, ↓dSet10, ↓dTgN10, ↓dTgW10, ↓dVar11, ↓dAug11, ↓dSet11, ↓dTgN11, ↓dTgW11, ↓dVar12, ↓dAug12, ↓dSet12, ↓dTgN12, ↓dTgW12, ↓dVar13, ↓dAug13, ↓dSet13, ↓dTgN13, ↓dTgW13, ↓dVar14, ↓dAug14, ↓dSet14, ↓dTgN14, ↓dTgW14, ↓dVar15, ↓dAug15, ↓dSet15, ↓dTgN15, ↓dTgW15, ↓dVar16, ↓dAug16, ↓dSet16, ↓dTgN16, ↓dTgW16, ↓dVar17, ↓dAug17, ↓dSet17, ↓dTgN17, ↓dTgW17, ↓dVar18, ↓dAug18, ↓dSet18, ↓dTgN18, ↓dTgW18, ↓dVar19, ↓dAug19, ↓dSet19, ↓dTgN19, ↓dTgW19, ↓dTg_t2, ↓dTg_t3, ↓exGetM, ↓exSumU, nD, plD, rwD, ↓dAdd_tup, ↓dAdd_ref, dIx_tup, dIx_str, dIx_ref, dIx_kl, dListOf_tup, dListOf_kl, dListOf_ref, dLen_tup, dLen_str, dLen_kl, dLen_ref, dTupOf_tup, dTupOf_ref, dSeqI_x, sqX_tup, sqX_ref, sqX_str, dEnumI_x, enX_tup, enX_ref, dSrtSet, dSortA, dIsi2, isT2, Bool.or_true, Bool.true_or, Bool.or_false, Bool.or_self, dReprR, dReprT, dDGet2]
    rw [show (fun p : Ev × Nat => evD p.1) = evD ∘ (·.1) from rfl, ← List.map_map]
    exact dn0 (h q _ (Sub.new hq (by intro _ z; cases z)) hq up_same)
theorem pr__law_choices (G : Gv K mg) : Pr P w K mg base "_law_choices" 1 ["_law_events"] (S1 fun x M Q => ∃ a l, x = .ref a ∧ M a = some (.lst (l.map evD)) ∧ l.length ≤ 60 ∧ (mts l).length ≤ 10 ∧ ∀ f M', Sub M' M → M f = none → M' f = some (.lst ((dbl (mts l)).map rwD)) → Q (.ref f) M') := by
  refine (pr3 (k := 0) G.d__law_choices bi__law_choices sc__law_choices S1n (fun f cdv A outer s H E hr => (b_cons (s_set 1 sc__law_choices.nd (e_lst (a_cons (e_tup a_nil) a_nil)))
      (b_cons (s_for PassesOwn.never rfl (i_rng1 (by rfl) G.b_range (a_cons (e_callB cd_len (by rfl) G.b_len rfl (a_cons (e_var 0) a_nil)) a_nil)) (g_nm 2 sc__law_choices.nd)
      (b_one (s_if (t_cmp (od_eq (hu3 hr)) (e_ix (ixd (hu_of hr)) (e_ix (ixd (hu_of hr)) (e_var 0) (e_var 2)) e_int) e_str) (b_one (s_set 1 sc__law_choices.nd (e_op od_add (e_var 1) (e_lc (own := [("_law_row", 3)]) rfl sc__law_choices.nd (i_seq (e_var 1)) (blkOk_by (by rfl)) (fun _ _ _ _ _ => (g_nm 3 sc__law_choices.nd)) (fun _ _ _ _ _ => ts_nil) (fun _ _ _ _ _ => (e_op od_add (e_var 3) (e_tup (a_cons (e_var 2) a_nil)))))))) b_nil)))
      (b_one (s_ret (e_var 1))))))) ?_
  rintro _ M Q E ⟨_, rfl, a, l, rfl, ha, hl, hm, h⟩ H rep
  refine ⟨M, rep, fun _ h => h, ?_⟩
  simp only [startD, List.map_cons, List.map_nil, List.length_cons, List.length_nil, Nat.reduceAdd, Nat.reduceSub, Nat.zero_add, List.replicate, List.cons_append, List.nil_append]; simp (config := {failIfUnchanged := false}) only [dC, dOp, dTest, dChain, dAnd, dOr, dNot, dAndV, dOrV, dNotV, dIf, dNil, dCons, dTup, dLst, dCB, d1, dNoPart, dPart, dSl, dCut, dNeg, dSorted, dSum, dAll, dAny, dInt, dAbs, dMax, dMin, dIsi, isT, dNext, dSeq, dBrk, dCont, dNever, dExpr, dRet, dRetN, dIfS, dAsg, dPutI, dI0, dI, dIsN, dNotN, dRng1, dRng2, dRngDn, dZipI, dYes, dCall, dLM, dAppend, dExtend, dReverse, dInsert, dAugI, dRg1, dRg2, dTupRg, dLstRg, dNewK, dNewT, ↓S0_, ↓S1_, ↓S2_, ↓S3_, ↓S4_, ↓S5_, ↓S6_, List.map_cons, List.map_nil, List.length_cons, List.length_nil, List.replicate, List.cons_append, List.nil_append, Nat.reduceAdd, Nat.reduceSub, Nat.zero_add, List.getElem?_cons_zero, List.getElem?_cons_succ, Option.some.injEq, exists_eq_left, exists_eq_left', List.set_cons_zero, List.set_cons_succ, wipeD, D.int.injEq, D.bl.injEq, D.str.injEq, D.ref.injEq, D.tup.injEq, D.ty.injEq, true_and, and_true, forall_const, forall_eq', forall_eq, mt_int, mt_bool, mt_str, mt_tuple, mt_list, mt_dict, st_int_int, st_int_bool, st_int_str, st_int_tuple, st_int_list, st_int_dict, st_bool_int, st_bool_bool, st_bool_str, st_bool_tuple, st_bool_list, st_bool_dict, st_str_int, st_str_bool, st_str_str, st_str_tuple, st_str_list, st_str_dict, st_tuple_int, st_tuple_bool, st_tuple_str, st_tuple_tuple, st_tuple_list, st_tuple_dict, st_list_int, st_list_bool, st_list_str, st_list_tuple, st_list_list, st_list_dict, st_dict_int, st_dict_bool, st_dict_str, st_dict_tuple, st_dict_list, st_dict_dict, eq_self, Bool.true_eq_false, Bool.false_eq_true, false_implies, true_implies, implies_true, decide_eq_true_eq, decide_eq_false_iff_not, Bool.not_true, Bool.not_false, Bool.not_eq_true, Bool.not_eq_false, Bool.not_eq_true', Bool.not_eq_false', not_true_eq_false, not_false_eq_true, false_and, and_false, or_false, false_or, reduceCtorEq, ↓exLSu, ↓exDKu, ↓exDKd, ↓exLSd, ↓exLu, ↓dIxRu, ↓dPutu, ↓dGetAu, ↓dEq_int, ↓dNe_int, ↓dEq_bl, ↓dNe_bl, ↓dEq_str, ↓dNe_str, ↓dAdd_int, ↓exAt10, ↓exIx10, ↓exAt20, ↓exIx20, ↓exAt21, ↓exIx21, ↓exAt30, ↓exIx30, ↓exAt31, ↓exIx31, ↓exAt32, ↓exIx32, ↓exAt40, ↓exIx40, ↓exAt41, ↓exIx41, ↓exAt42, ↓exIx42, ↓exAt43, ↓exIx43, ↓exAt50, ↓exIx50, ↓exAt51, ↓exIx51, ↓exAt52, ↓exIx52, ↓exAt53, ↓exIx53, ↓exAt54, ↓exIx54, ↓exAt60, ↓exIx60, ↓exAt61, ↓exIx61, ↓exAt62, ↓exIx62, ↓exAt63, ↓exIx63, ↓exAt64, ↓exIx64, ↓exAt65, ↓exIx65, up_up, false_or, or_false, ↓exAtM, ↓dFlag_bl, ↓exBl, ↓exInt, ↓exRef, ↓dVar0, ↓dAug0, ↓dSet0, ↓dTgN0, ↓dTgW0, ↓dVar1, ↓dAug1, ↓dSet1, ↓dTgN1, ↓dTgW1, ↓dVar2, ↓dAug2, ↓dSet2, ↓dTgN2, ↓dTgW2, ↓dVar3, ↓dAug3, ↓dSet3, ↓dTgN3, ↓dTgW3, ↓dVar4, ↓dAug4, ↓dSet4, ↓dTgN4, ↓dTgW4, ↓dVar5, ↓dAug5, ↓dSet5, ↓dTgN5, ↓dTgW5, ↓dVar6, ↓dAug6, ↓dSet6, ↓dTgN6, ↓dTgW6, ↓dVar7, ↓dAug7, ↓dSet7, ↓dTgN7, ↓dTgW7, ↓dVar8, ↓dAug8, ↓dSet8, ↓dTgN8, ↓dTgW8, ↓dVar9, ↓dAug9, ↓dSet9, ↓dTgN9, ↓dTgW9, ↓dVar10, ↓dAug10, ↓dSet10, ↓dTgN10, ↓dTgW10, ↓dVar11, ↓dAug11, ↓dSet11, ↓dTgN11, ↓dTgW11, ↓dVar12, ↓dAug12, ↓dSet12, ↓dTgN12, ↓dTgW12, ↓dVar13, ↓dAug13, ↓dSet13, ↓dTgN13, ↓dTgW13, ↓dVar14, ↓dAug14, ↓dSet14, ↓dTgN14, ↓dTgW14, ↓dVar15, ↓dAug15, ↓dSet15, ↓dTgN15, ↓dTgW15, ↓dVar16, ↓dAug16, ↓dSet16, ↓dTgN16, ↓dTgW16, ↓dVar17, ↓dAug17, ↓dSet17, ↓dTgN17, ↓dTgW17, ↓dVar18, ↓dAug18, ↓dSet18, ↓dTgN18, ↓dTgW18, ↓dVar19, ↓dAug19, ↓dSet19, ↓dTgN19, ↓dTgW19, ↓dTg_t2, ↓dTg_t3, ↓exGetM, ↓exSumU, nD, plD, rwD, ↓dAdd_tup, ↓dAdd_ref, dIx_tup, dIx_str, dIx_ref, dIx_kl, dListOf_tup, dListOf_kl, dListOf_ref, dLen_tup, dLen_str, dLen_kl, dLen_ref, dTupOf_tup, dTupOf_ref, dSeqI_x, sqX_tup, sqX_ref, sqX_str, dEnumI_x, enX_tup, enX_ref, dSrtSet, dSortA, dIsi2, isT2, Bool.or_true, Bool.true_or, Bool.or_false, Bool.or_self, dReprR, dReprT, dDGet2, ↓exLS ha, ↓exDKh ha]
  intro f hf
  refine dFor_g fun F1 T1 h1 t1 => ?_; simp only [dFor, dC, dOp, dTest, dChain, dAnd, dOr, dNot, dAndV, dOrV, dNotV, dIf, dNil, dCons, dTup, dLst, dCB, d1, dNoPart, dPart, dSl, dCut, dNeg, dSorted, dSum, dAll, dAny, dInt, dAbs, dMax, dMin, dIsi, isT, dNext, dSeq, dBrk, dCont, dNever, dExpr, dRet, dRetN, dIfS, dAsg, dPutI, dI0, dI, dIsN, dNotN, dRng1, dRng2, dRngDn, dZipI, dYes, dCall, dLM, dAppend, dExtend, dReverse, dInsert, dAugI, dRg1, dRg2, dTupRg, dLstRg, dNewK, dNewT, ↓S0_, ↓S1_, ↓S2_, ↓S3_, ↓S4_, ↓S5_, ↓S6_, List.map_cons, List.map_nil, List.length_cons, List.length_nil, List.replicate, List.cons_append, List.nil_append, Nat.reduceAdd, Nat.reduceSub, Nat.zero_add, List.getElem?_cons_zero, List.getElem?_cons_succ, Option.some.injEq, exists_eq_left, exists_eq_left', List.set_cons_zero, List.set_cons_succ, wipeD, D.int.injEq, D.bl.injEq, D.str.injEq, D.ref.injEq, D.tup.injEq, D.ty.injEq, true_and, and_true, forall_const, forall_eq', forall_eq, mt_int, mt_bool, mt_str, mt_tuple, mt_list, mt_dict, st_int_int, st_int_bool, st_int_str, st_int_tuple, st_int_list, st_int_dict, st_bool_int, st_bool_bool, st_bool_str, st_bool_tuple, st_bool_list, st_bool_dict, st_str_int, st_str_bool, st_str_str, st_str_tuple, st_str_list, st_str_dict, st_tuple_int, st_tuple_bool, st_tuple_str, st_tuple_tuple, st_tuple_list, st_tuple_dict, st_list_int, st_list_bool, st_list_str, st_list_tuple, st_list_list, st_list_dict, st_dict_int, st_dict_bool, st_dict_str, st_dict_tuple, st_dict_list, st_dict_dict, eq_self, Bool.true_eq_false, Bool.false_eq_true, false_implies, true_implies, implies_true, decide_eq_true_eq, decide_eq_false_iff_not, Bool.not_true, Bool.not_false, Bool.not_eq_true, Bool.not_eq_false, Bool.not_eq_true', Bool.not_eq_false', not_true_eq_false, not_false_eq_true, false_and, and_false, or_false, false_or, reduceCtorEq, ↓exLSu, ↓exDKu, ↓exDKd, ↓exLSd, ↓exLu, ↓dIxRu, ↓dPutu, ↓dGetAu, ↓dEq_int, ↓dNe_int, ↓dEq_bl, ↓dNe_bl, ↓dEq_str, ↓dNe_str, ↓dAdd_int, ↓exAt10, ↓exIx10, ↓exAt20, ↓exIx20, ↓exAt21, ↓exIx21, ↓exAt30, ↓exIx30, ↓exAt31, ↓exIx31, ↓exAt32, ↓exIx32, ↓exAt40, ↓exIx40, ↓exAt41, ↓exIx41, ↓exAt42, ↓exIx42, ↓exAt43, ↓exIx43, ↓exAt50, ↓exIx50, ↓exAt51, ↓exIx51, ↓exAt52, ↓exIx52, ↓exAt53, ↓exIx53, ↓exAt54, ↓exIx54, ↓exAt60, ↓exIx60, ↓exAt61, ↓exIx61, ↓exAt62, ↓exIx62, ↓exAt63, ↓exIx63, ↓exAt64, ↓exIx64, ↓exAt65, ↓exIx65, up_up, false_or, or_false, ↓exAtM, ↓dFlag_bl, ↓exBl, ↓exInt, ↓exRef, ↓dVar0, ↓dAug0, ↓dSet0, ↓dTgN0, ↓dTgW0, ↓dVar1, ↓dAug1, ↓dSet1, ↓dTgN1, ↓dTgW1, ↓dVar2, ↓dAug2, ↓dSet2, ↓dTgN2, ↓dTgW2, ↓dVar3, ↓dAug3, ↓dSet3, ↓dTgN3, ↓dTgW3, ↓dVar4, ↓dAug4, ↓dSet4, ↓dTgN4, ↓dTgW4, ↓dVar5, ↓dAug5, ↓dSet5, ↓dTgN5, ↓dTgW5, ↓dVar6, ↓dAug6, ↓dSet6, ↓dTgN6, ↓dTgW6, ↓dVar7, ↓dAug7, ↓dSet7, ↓dTgN7, ↓dTgW7, ↓dVar8, ↓dAug8, ↓dSet8, ↓dTgN8, ↓dTgW8, ↓dVar9, ↓dAug9, ↓dSet9, ↓dTgN9, ↓dTgW9, ↓dVar10, ↓dAug10, ↓dSet10, ↓dTgN10, ↓dTgW10, ↓dVar11, ↓dAug11, ↓dSet11, ↓dTgN11, ↓dTgW11, ↓dVar12, ↓dAug12, ↓dSet12, ↓dTgN12, ↓dTgW12, ↓dVar13, ↓dAug13, ↓dSet13, ↓dTgN13, ↓dTgW13, ↓dVar14, ↓dAug14, ↓dSet14, ↓dTgN14, ↓dTgW14, ↓dVar15, ↓dAug15, ↓dSet15, ↓dTgN15, ↓dTgW15, ↓dVar16, ↓dAug16, ↓dSet16, ↓dTgN16, ↓dTgW16, ↓dVar17, ↓dAug17, ↓dSet17, ↓dTgN17, ↓dTgW17, ↓dVar18, ↓dAug18, ↓dSet18, ↓dTgN18, ↓dTgW18, ↓dVar19, ↓dAug19, ↓dSet19, ↓dTgN19, ↓dTgW19, ↓dTg_t2, ↓dTg_t3, ↓exGetM, ↓exSumU, nD, plD, rwD, ↓dAdd_tup, ↓dAdd_ref, dIx_tup, dIx_str, dIx_ref, dIx_kl, dListOf_tup, dListOf_kl, dListOf_ref, dLen_tup, dLen_str, dLen_kl, dLen_ref, dTupOf_tup, dTupOf_ref, dSeqI_x, sqX_tup, sqX_ref, sqX_str, dEnumI_x, enX_tup, enX_ref, dSrtSet, dSortA, dIsi2, isT2, Bool.or_true, Bool.true_or, Bool.or_false, Bool.or_self, dReprR, dReprT, dDGet2]
  have s1 : Sub (up M f (.lst [D.tup []])) M := Sub.new hf (by intro _ z; cases z)
  have ha1 := s1.1 _ _ ha
  refine .inl ⟨_, .inl ha1, ?_⟩
  rw [List.length_map, rng0]
  refine ⟨by omega, forN (fun i δ M' => Sub M' M ∧ ∃ g c d, M g = none ∧ M' g = some (.lst ((dbl (mts (l.take i))).map rwD)) ∧ δ = [some (.ref a), some (.ref g), c, d]) ⟨s1, f, _, _, hf, up_same, rfl⟩ ?_ ?_⟩
  · rintro i z δ' M1 pre P' hz ⟨s2, g, c, d, hg0, hg, rfl⟩ hP
    obtain ⟨hi, rfl⟩ := rgx hz
    have he : l[i]? = some l[i] := List.getElem?_eq_getElem hi
    generalize l[i] = e at *
    have et : l.take (i + 1) = l.take i ++ [e] := take_snoc he
    have ms := mts_snoc (l.take i) e
    rw [← et, List.length_take, Nat.min_eq_left (by omega)] at ms
    have ha2 := s2.1 _ _ ha
    have dl := dbl_len (mts (l.take i))
    have ml : (mts (l.take i)).length ≤ 10 := by
      refine Nat.le_trans ?_ hm
      rw [mts_len, mts_len]
      exact ((List.take_sublist i l).filter _).length_le
    have dl2 : (dbl (mts (l.take i))).length ≤ 1024 := by
      rw [dl]
      exact Nat.pow_le_pow_right (n := 2) (by omega) ml
    subst t1
    cases e with
    | put b =>
      simp (config := {failIfUnchanged := false}) only [dC, dOp, dTest, dChain, dAnd, dOr, dNot, dAndV, dOrV, dNotV, dIf, dNil, dCons, dTup, dLst, dCB, d1, dNoPart, dPart, dSl, dCut, dNeg, dSorted, dSum, dAll, dAny, dInt, dAbs, dMax, dMin, dIsi, isT, dNext, dSeq, dBrk, dCont, dNever, dExpr, dRet, dRetN, dIfS, dAsg, dPutI, dI0, dI, dIsN, dNotN, dRng1, dRng2, dRngDn, dZipI, dYes, dCall, dLM, dAppend, dExtend, dReverse, dInsert, dAugI, dRg1, dRg2, dTupRg, dLstRg, dNewK, dNewT, ↓S0_, ↓S1_, ↓S2_, ↓S3_, ↓S4_, ↓S5_, ↓S6_, List.map_cons, List.map_nil, List.length_cons, List.length_nil, List.replicate, List.cons_append, List.nil_append, Nat.reduceAdd, Nat.reduceSub, Nat.zero_add, List.getElem?_cons_zero, List.getElem?_cons_succ, Option.some.injEq, exists_eq_left, exists_eq_left', List.set_cons_zero, List.set_cons_succ, wipeD, D.int.injEq, D.bl.injEq, D.str.injEq, D.ref.injEq, D.tup.injEq, D.ty.injEq, true_and, and_true, forall_const, forall_eq', forall_eq, mt_int, mt_bool, mt_str, mt_tuple, mt_list, mt_dict, st_int_int, st_int_bool, st_int_str, st_int_tuple, st_int_list, st_int_dict, st_bool_int, st_bool_bool, st_bool_str, st_bool_tuple, st_bool_list, st_bool_dict, st_str_int, st_str_bool, st_str_str, st_str_tuple, st_str_list, st_str_dict, st_tuple_int, st_tuple_bool, st_tuple_str, st_tuple_tuple, st_tuple_list, st_tuple_dict, st_list_int, st_list_bool, st_list_str, st_list_tuple, st_list_list, st_list_dict, st_dict_int, st_dict_bool, st_dict_str, st_dict_tuple, st_dict_list, st_dict_dict, eq_self, Bool.true_eq_false, Bool.false_eq_true, false_implies, true_implies, implies_true, decide_eq_true_eq, decide_eq_false_iff_not, Bool.not_true, Bool.not_false, Bool.not_eq_true, Bool.not_eq_false, Bool.not_eq_true', Bool.not_eq_false', not_true_eq_false, not_false_eq_true, false_and, and_false, or_false, false_or, reduceCtorEq, ↓exLSu, ↓exDKu, ↓exDKd, ↓exLSd, ↓exLu, ↓dIxRu, ↓dPutu, ↓dGetAu, ↓dEq_int, ↓dNe_int, ↓dEq_bl, ↓dNe_bl, ↓dEq_str, ↓dNe_str, ↓dAdd_int, ↓exAt10, ↓exIx10, ↓exAt20, ↓exIx20, ↓exAt21, ↓exIx21, ↓exAt30, ↓exIx30, ↓exAt31, ↓exIx31, ↓exAt32, ↓exIx32, ↓exAt40, ↓exIx40, ↓exAt41, ↓exIx41, ↓exAt42, ↓exIx42, ↓exAt43, ↓exIx43, ↓exAt50, ↓exIx50, ↓exAt51, ↓exIx51, ↓exAt52, ↓exIx52, ↓exAt53, ↓exIx53, ↓exAt54, ↓exIx54, ↓exAt60, ↓exIx60, ↓exAt61, ↓exIx61, ↓exAt62, ↓exIx62, ↓exAt63, ↓exIx63, ↓exAt64, ↓exIx64, ↓exAt65, ↓exIx65, up_up, false_or, or_false, ↓exAtM, ↓dFlag_bl, ↓exBl, ↓exInt, ↓exRef, ↓dVar0, ↓dAug0, ↓dSet0, ↓dTgN0, ↓dTgW0, ↓dVar1, ↓dAug1, ↓dSet1, ↓dTgN1, ↓dTgW1, ↓dVar2, ↓dAug2, ↓dSet2, ↓dTgN2, ↓dTgW2, ↓dVar3, ↓dAug3, ↓dSet3, ↓dTgN3, ↓dTgW3, ↓dVar4, ↓dAug4, ↓dSet4, ↓dTgN4, ↓dTgW4, ↓dVar5, ↓dAug5, ↓dSet5, ↓dTgN5, ↓dTgW5, ↓dVar6, ↓dAug6, ↓dSet6, ↓dTgN6, ↓dTgW6, ↓dVar7, ↓dAug7, ↓dSet7, ↓dTgN7, ↓dTgW7, ↓dVar8, ↓dAug8, ↓dSet8, ↓dTgN8, ↓dTgW8, ↓dVar9, ↓dAug9, ↓dSet9, ↓dTgN9, ↓dTgW9, ↓dVar10, ↓dAug10, ↓dSet10, ↓dTgN10, ↓dTgW10, ↓dVar11, ↓dAug11, ↓dSet11, ↓dTgN11, ↓dTgW11, ↓dVar12, ↓dAug12, ↓dSet12, ↓dTgN12, ↓dTgW12, ↓dVar13, ↓dAug13, ↓dSet13, ↓dTgN13, ↓dTgW13, ↓dVar14, ↓dAug14, ↓dSet14, ↓dTgN14, ↓dTgW14, ↓dVar15, ↓dAug15, ↓dSet15, ↓dTgN15, ↓dTgW15, ↓dVar16, ↓dAug16, ↓dSet16, ↓dTgN16, ↓dTgW16, ↓dVar17, ↓dAug17, ↓dSet17, ↓dTgN17, ↓dTgW17, ↓dVar18, ↓dAug18, ↓dSet18, ↓dTgN18, ↓dTgW18, ↓dVar19, ↓dAug19, ↓dSet19, ↓dTgN19, ↓dTgW19, ↓dTg_t2, ↓dTg_t3, ↓exGetM, ↓exSumU, nD, plD, rwD, ↓dAdd_tup, ↓dAdd_ref, dIx_tup, dIx_str, dIx_ref, dIx_kl, dListOf_tup, dListOf_kl, dListOf_ref, dLen_tup, dLen_str, dLen_kl, dLen_ref, dTupOf_tup, dTupOf_ref, dSeqI_x, sqX_tup, sqX_ref, sqX_str, dEnumI_x, enX_tup, enX_ref, dSrtSet, dSortA, dIsi2, isT2, Bool.or_true, Bool.true_or, Bool.or_false, Bool.or_self, dReprR, dReprT, dDGet2, ↓dIxRh ha2]
      refine ⟨_, atI_nat he, ?_⟩
      simp (config := {failIfUnchanged := false}) only [dC, dOp, dTest, dChain, dAnd, dOr, dNot, dAndV, dOrV, dNotV, dIf, dNil, dCons, dTup, dLst, dCB, d1, dNoPart, dPart, dSl, dCut, dNeg, dSorted, dSum, dAll, dAny, dInt, dAbs, dMax, dMin, dIsi, isT, dNext, dSeq, dBrk, dCont, dNever, dExpr, dRet, dRetN, dIfS, dAsg, dPutI, dI0, dI, dIsN, dNotN, dRng1, dRng2, dRngDn, dZipI, dYes, dCall, dLM, dAppend, dExtend, dReverse, dInsert, dAugI, dRg1, dRg2, dTupRg, dLstRg, dNewK, dNewT, ↓S0_, ↓S1_, ↓S2_, ↓S3_, ↓S4_, ↓S5_, ↓S6_, List.map_cons, List.map_nil, List.length_cons, List.length_nil, List.replicate, List.cons_append, List.nil_append, Nat.reduceAdd, Nat.reduceSub, Nat.zero_add, List.getElem?_cons_zero, List.getElem?_cons_succ, Option.some.injEq, exists_eq_left, exists_eq_left', List.set_cons_zero, List.set_cons_succ, wipeD, D.int.injEq, D.bl.injEq, D.str.injEq, D.ref.injEq, D.tup.injEq, D.ty.injEq, true_and, and_true, forall_const, forall_eq', forall_eq, mt_int, mt_bool, mt_str, mt_tuple, mt_list, mt_dict, st_int_int, st_int_bool, st_int_str, st_int_tuple, st_int_list, st_int_dict, st_bool_int, st_bool_bool, st_bool_str, st_bool_tuple, st_bool_list, st_bool_dict, st_str_int, st_str_bool, st_str_str, st_str_tuple, st_str_list, st_str_dict, st_tuple_int, st_tuple_bool, st_tuple_str, st_tuple_tuple, st_tuple_list, st_tuple_dict, st_list_int, st_list_bool, st_list_str, st_list_tuple, st_list_list, st_list_dict, st_dict_int, st_dict_bool, st_dict_str, st_dict_tuple, st_dict_list, st_dict_dict, eq_self, Bool.true_eq_false, Bool.false_eq_true, false_implies, true_implies, implies_true, decide_eq_true_eq, decide_eq_false_iff_not, Bool.not_true, Bool.not_false, Bool.not_eq_true, Bool.not_eq_false, Bool.not_eq_true', Bool.not_eq_false', not_true_eq_false, not_false_eq_true, false_and, and_false, or_false, false_or, reduceCtorEq, ↓exLSu, ↓exDKu, ↓exDKd, ↓exLSd, ↓exLu, ↓dIxRu, ↓dPutu, ↓dGetAu, ↓dEq_int, ↓dNe_int, ↓dEq_bl, ↓dNe_bl, ↓dEq_str, ↓dNe_str, ↓dAdd_int, ↓exAt10, ↓exIx10, ↓exAt20, ↓exIx20, ↓exAt21, ↓exIx21, ↓exAt30, ↓exIx30, ↓exAt31, ↓exIx31, ↓exAt32, ↓exIx32, ↓exAt40, ↓exIx40, ↓exAt41, ↓exIx41, ↓exAt42, ↓exIx42, ↓exAt43, ↓exIx43, ↓exAt50, ↓exIx50, ↓exAt51, ↓exIx51, ↓exAt52, ↓exIx52, ↓exAt53, ↓exIx53, ↓exAt54, ↓exIx54, ↓exAt60, ↓exIx60, ↓exAt61, ↓exIx61, ↓exAt62, ↓exIx62, ↓exAt63, ↓exIx63, ↓exAt64, ↓exIx64, ↓exAt65, ↓exIx65, up_up, false_or, or_false, ↓exAtM, ↓dFlag_bl, ↓exBl, ↓exInt, ↓exRef, ↓dVar0, ↓dAug0, ↓dSet0, ↓dTgN0, ↓dTgW0, ↓dVar1, ↓dAug1, ↓dSet1, ↓dTgN1, ↓dTgW1, ↓dVar2, ↓dAug2, ↓dSet2, ↓dTgN2, ↓dTgW2, ↓dVar3, ↓dAug3, ↓dSet3, ↓dTgN3, ↓dTgW3, ↓dVar4, ↓dAug4, ↓dSet4, ↓dTgN4, ↓dTgW4, ↓dVar5, ↓dAug5, ↓dSet5, ↓dTgN5, ↓dTgW5, ↓dVar6, ↓dAug6, ↓dSet6, ↓dTgN6, ↓dTgW6, ↓dVar7, ↓dAug7, ↓dSet7, ↓dTgN7, ↓dTgW7, ↓dVar8, ↓dAug8, ↓dSet8, ↓dTgN8, ↓dTgW8, ↓dVar9, ↓dAug9, ↓dSet9, ↓dTgN9, ↓dTgW9, ↓dVar10, ↓dAug10, ↓dSet10, ↓dTgN10, ↓dTgW10, ↓dVar11, ↓dAug11, ↓dSet11, ↓dTgN11, ↓dTgW11, ↓dVar12, ↓dAug12, ↓dSet12, ↓dTgN12, ↓dTgW12, ↓dVar13, ↓dAug13, ↓dSet13, ↓dTgN13, ↓dTgW13, ↓dVar14, ↓dAug14, ↓dSet14, ↓dTgN14, ↓dTgW14, ↓dVar15, ↓dAug15, ↓dSet15, ↓dTgN15, ↓dTgW15, ↓dVar16, ↓dAug16, ↓dSet16, ↓dTgN16, ↓dTgW16, ↓dVar17, ↓dAug17, ↓dSet17, ↓dTgN17, ↓dTgW17, ↓dVar18, ↓dAug18, ↓dSet18, ↓dTgN18, ↓dTgW18, ↓dVar19, ↓dAug19, ↓dSet19, ↓dTgN19, ↓dTgW19, ↓dTg_t2, ↓dTg_t3, ↓exGetM, ↓exSumU, nD, plD, rwD, ↓dAdd_tup, ↓dAdd_ref, dIx_tup, dIx_str, dIx_ref, dIx_kl, dListOf_tup, dListOf_kl, dListOf_ref, dLen_tup, dLen_str, dLen_kl, dLen_ref, dTupOf_tup, dTupOf_ref, dSeqI_x, sqX_tup, sqX_ref, sqX_str, dEnumI_x, enX_tup, enX_ref, dSrtSet, dSortA, dIsi2, isT2, Bool.or_true, Bool.true_or, Bool.or_false, Bool.or_self, dReprR, dReprT, dDGet2, evD, sPP, sPM, sMP, sMM]
      refine sb0 (hP _ _ ⟨s2, g, _, _, hg0, ?_, rfl⟩)
      rw [ms]
      exact hg
    | meet b c =>
      simp (config := {failIfUnchanged := false}) only [dC, dOp, dTest, dChain, dAnd, dOr, dNot, dAndV, dOrV, dNotV, dIf, dNil, dCons, dTup, dLst, dCB, d1, dNoPart, dPart, dSl, dCut, dNeg, dSorted, dSum, dAll, dAny, dInt, dAbs, dMax, dMin, dIsi, isT, dNext, dSeq, dBrk, dCont, dNever, dExpr, dRet, dRetN, dIfS, dAsg, dPutI, dI0, dI, dIsN, dNotN, dRng1, dRng2, dRngDn, dZipI, dYes, dCall, dLM, dAppend, dExtend, dReverse, dInsert, dAugI, dRg1, dRg2, dTupRg, dLstRg, dNewK, dNewT, ↓S0_, ↓S1_, ↓S2_, ↓S3_, ↓S4_, ↓S5_, ↓S6_, List.map_cons, List.map_nil, List.length_cons, List.length_nil, List.replicate, List.cons_append, List.nil_append, Nat.reduceAdd, Nat.reduceSub, Nat.zero_add, List.getElem?_cons_zero, List.getElem?_cons_succ, Option.some.injEq, exists_eq_left, exists_eq_left', List.set_cons_zero, List.set_cons_succ, wipeD, D.int.injEq, D.bl.injEq, D.str.injEq, D.ref.injEq, D.tup.injEq, D.ty.injEq, true_and, and_true, forall_const, forall_eq', forall_eq, mt_int, mt_bool, mt_str, mt_tuple, mt_list, mt_dict, st_int_int, st_int_bool, st_int_str, st_int_tuple, st_int_list, st_int_dict, st_bool_int, st_bool_bool, st_bool_str, st_bool_tuple, st_bool_list, st_bool_dict, st_str_int, st_str_bool, st_str_str, st_str_tuple, st_str_list, st_str_dict, st_tuple_int, st_tuple_bool, st_tuple_str, st_tuple_tuple, st_tuple_list, st_tuple_dict, st_list_int, st_list_bool, st_list_str, st_list_tuple, st_list_list, st_list_dict, st_dict_int, st_dict_bool, st_dict_str, st_dict_tuple, st_dict_list, st_dict_dict, eq_self, Bool.true_eq_false, Bool.false_eq_true, false_implies, true_implies, implies_true, decide_eq_true_eq, decide_eq_false_iff_not, Bool.not_true, Bool.not_false, Bool.not_eq_true, Bool.not_eq_false, Bool.not_eq_true', Bool.not_eq_false', not_true_eq_false, not_false_eq_true, false_and, and_false, or_false, false_or, reduceCtorEq, ↓exLSu, ↓exDKu, ↓exDKd, ↓exLSd, ↓exLu, ↓dIxRu, ↓dPutu, ↓dGetAu, ↓dEq_int, ↓dNe_int, ↓dEq_bl, ↓dNe_bl, ↓dEq_str, ↓dNe_str, ↓dAdd_int, ↓exAt10, ↓exIx10, ↓exAt20, ↓exIx20, ↓exAt21, ↓exIx21, ↓exAt30, ↓exIx30, ↓exAt31, ↓exIx31, ↓exAt32, ↓exIx32, ↓exAt40, ↓exIx40, ↓exAt41, ↓exIx41, ↓exAt42, ↓exIx42, ↓exAt43, ↓exIx43, ↓exAt50, ↓exIx50, ↓exAt51, ↓exIx51, ↓exAt52, ↓exIx52, ↓exAt53, ↓exIx53, ↓exAt54, ↓exIx54, ↓exAt60, ↓exIx60, ↓exAt61, ↓exIx61, ↓exAt62, ↓exIx62, ↓exAt63, ↓exIx63, ↓exAt64, ↓exIx64, ↓exAt65, ↓exIx65, up_up, false_or, or_false, ↓exAtM, ↓dFlag_bl, ↓exBl, ↓exInt, ↓exRef, ↓dVar0, ↓dAug0, ↓dSet0, ↓dTgN0, ↓dTgW0, ↓dVar1, ↓dAug1, ↓dSet1, ↓dTgN1, ↓dTgW1, ↓dVar2, ↓dAug2, ↓dSet2, ↓dTgN2, ↓dTgW2, ↓dVar3, ↓dAug3, ↓dSet3, ↓dTgN3, ↓dTgW3, ↓dVar4, ↓dAug4, ↓dSet4, ↓dTgN4, ↓dTgW4, ↓dVar5, ↓dAug5, ↓dSet5, ↓dTgN5, ↓dTgW5, ↓dVar6, ↓dAug6, ↓dSet6, ↓dTgN6, ↓dTgW6, ↓dVar7, ↓dAug7, ↓dSet7, ↓dTgN7, ↓dTgW7, ↓dVar8, ↓dAug8, ↓dSet8, ↓dTgN8, ↓dTgW8, ↓dVar9, ↓dAug9, ↓dSet9, ↓dTgN9, ↓dTgW9, ↓dVar10, ↓dAug10, ↓dSet10, ↓dTgN10, ↓dTgW10, ↓dVar11, ↓dAug11, ↓dSet11, ↓dTgN11, ↓dTgW11, ↓dVar12, ↓dAug12, ↓dSet12, ↓dTgN12, ↓dTgW12, ↓dVar13, ↓dAug13, ↓dSet13, ↓dTgN13, ↓dTgW13, ↓dVar14, ↓dAug14, ↓dSet14, ↓dTgN14, ↓dTgW14, ↓dVar15, ↓dAug15, ↓dSet15, ↓dTgN15, ↓dTgW15, ↓dVar16, ↓dAug16, ↓dSet16, ↓dTgN16, ↓dTgW16, ↓dVar17, ↓dAug17, ↓dSet17, ↓dTgN17, ↓dTgW17, ↓dVar18, ↓dAug18, ↓dSet18, ↓dTgN18, ↓dTgW18, ↓dVar19, ↓dAug19, ↓dSet19, ↓dTgN19, ↓dTgW19, ↓dTg_t2, ↓dTg_t3, ↓exGetM, ↓exSumU, nD, plD, rwD, ↓dAdd_tup, ↓dAdd_ref, dIx_tup, dIx_str, dIx_ref, dIx_kl, dListOf_tup, dListOf_kl, dListOf_ref, dLen_tup, dLen_str, dLen_kl, dLen_ref, dTupOf_tup, dTupOf_ref, dSeqI_x, sqX_tup, sqX_ref, sqX_str, dEnumI_x, enX_tup, enX_ref, dSrtSet, dSortA, dIsi2, isT2, Bool.or_true, Bool.true_or, Bool.or_false, Bool.or_self, dReprR, dReprT, dDGet2, ↓dIxRh ha2]
      refine ⟨_, atI_nat he, ?_⟩
      simp (config := {failIfUnchanged := false}) only [dC, dOp, dTest, dChain, dAnd, dOr, dNot, dAndV, dOrV, dNotV, dIf, dNil, dCons, dTup, dLst, dCB, d1, dNoPart, dPart, dSl, dCut, dNeg, dSorted, dSum, dAll, dAny, dInt, dAbs, dMax, dMin, dIsi, isT, dNext, dSeq, dBrk, dCont, dNever, dExpr, dRet, dRetN, dIfS, dAsg, dPutI, dI0, dI, dIsN, dNotN, dRng1, dRng2, dRngDn, dZipI, dYes, dCall, dLM, dAppend, dExtend, dReverse, dInsert, dAugI, dRg1, dRg2, dTupRg, dLstRg, dNewK, dNewT, ↓S0_, ↓S1_, ↓S2_, ↓S3_, ↓S4_, ↓S5_, ↓S6_, List.map_cons, List.map_nil, List.length_cons, List.length_nil, List.replicate, List.cons_append, List.nil_append, Nat.reduceAdd, Nat.reduceSub, Nat.zero_add, List.getElem?_cons_zero, List.getElem?_cons_succ, Option.some.injEq, exists_eq_left, exists_eq_left', List.set_cons_zero, List.set_cons_succ, wipeD, D.int.injEq, D.bl.injEq, D.str.injEq, D.ref.injEq, D.tup.injEq, D.ty.injEq, true_and, and_true, forall_const, forall_eq', forall_eq, mt_int, mt_bool, mt_str, mt_tuple, mt_list, mt_dict, st_int_int, st_int_bool, st_int_str, st_int_tuple, st_int_list, st_int_dict, st_bool_int, st_bool_bool, st_bool_str, st_bool_tuple, st_bool_list, st_bool_dict, st_str_int, st_str_bool, st_str_str, st_str_tuple, st_str_list, st_str_dict, st_tuple_int, st_tuple_bool, st_tuple_str, st_tuple_tuple, st_tuple_list, st_tuple_dict, st_list_int, st_list_bool, st_list_str, st_list_tuple, st_list_list, st_list_dict, st_dict_int, st_dict_bool, st_dict_str, st_dict_tuple, st_dict_list, st_dict_dict, eq_self, Bool.true_eq_false, Bool.false_eq_true, false_implies, true_implies, implies_true, decide_eq_true_eq, decide_eq_false_iff_not, Bool.not_true, Bool.not_false, Bool.not_eq_true, Bool.not_eq_false, Bool.not_eq_true', Bool.not_eq_false', not_true_eq_false, not_false_eq_true, false_and, and_false, or_false, false_or, reduceCtorEq, ↓exLSu, ↓exDKu, ↓exDKd, ↓exLSd, ↓exLu, ↓dIxRu, ↓dPutu, ↓dGetAu, ↓dEq_int, ↓dNe_int, ↓dEq_bl, ↓dNe_bl, ↓dEq_str, ↓dNe_str, ↓dAdd_int, ↓exAt10, ↓exIx10, ↓exAt20, ↓exIx20, ↓exAt21, ↓exIx21, ↓exAt30, ↓exIx30, ↓exAt31, ↓exIx31, ↓exAt32, ↓exIx32, ↓exAt40, ↓exIx40, ↓exAt41, ↓exIx41, ↓exAt42, ↓exIx42, ↓exAt43, ↓exIx43, ↓exAt50, ↓exIx50, ↓exAt51, ↓exIx51, ↓exAt52, ↓exIx52, ↓exAt53, ↓exIx53, ↓exAt54, ↓exIx54, ↓exAt60, ↓exIx60, ↓exAt61, ↓exIx61, ↓exAt62, ↓exIx62, ↓exAt63, ↓exIx63, ↓exAt64, ↓exIx64, ↓exAt65, ↓exIx65, up_up, false_or, or_false, ↓exAtM, ↓dFlag_bl, ↓exBl, ↓exInt, ↓exRef, ↓dVar0, ↓dAug0, ↓dSet0, ↓dTgN0, ↓dTgW0, ↓dVar1, ↓dAug1, ↓dSet1, ↓dTgN1, ↓dTgW1, ↓dVar2, ↓dAug2, ↓dSet2, ↓dTgN2, ↓dTgW2, ↓dVar3, ↓dAug3, ↓dSet3, ↓dTgN3, ↓dTgW3, ↓dVar4, ↓dAug4, ↓dSet4, ↓dTgN4, ↓dTgW4, ↓dVar5, ↓dAug5, ↓dSet5, ↓dTgN5, ↓dTgW5, ↓dVar6, ↓dAug6, ↓dSet6, ↓dTgN6, ↓dTgW6, ↓dVar7, ↓dAug7, ↓dSet7, ↓dTgN7, ↓dTgW7, ↓dVar8, ↓dAug8, ↓dSet8, ↓dTgN8, ↓dTgW8, ↓dVar9, ↓dAug9, ↓dSet9, ↓dTgN9, ↓dTgW9, ↓dVar10, ↓dAug10, ↓dSet10, ↓dTgN10, ↓dTgW10, ↓dVar11, ↓dAug11, ↓dSet11, ↓dTgN11, ↓dTgW11, ↓dVar12, ↓dAug12, ↓dSet12, ↓dTgN12, ↓dTgW12, ↓dVar13, ↓dAug13, ↓dSet13, ↓dTgN13, ↓dTgW13, ↓dVar14, ↓dAug14, ↓dSet14, ↓dTgN14, ↓dTgW14, ↓dVar15, ↓dAug15, ↓dSet15, ↓dTgN15, ↓dTgW15, ↓dVar16, ↓dAug16, ↓dSet16, ↓dTgN16, ↓dTgW16, ↓dVar17, ↓dAug17, ↓dSet17, ↓dTgN17, ↓dTgW17, ↓dVar18, ↓dAug18, ↓dSet18, ↓dTgN18, ↓dTgW18, ↓dVar19, ↓dAug19, ↓dSet19, ↓dTgN19, ↓dTgW19, ↓dTg_t2, ↓dTg_t3, ↓exGetM, ↓exSumU, nD, plD, rwD, ↓dAdd_tup, ↓dAdd_ref, dIx_tup, dIx_str, dIx_ref, dIx_kl, dListOf_tup, dListOf_kl, dListOf_ref, dLen_tup, dLen_str, dLen_kl, dLen_ref, dTupOf_tup, dTupOf_ref, dSeqI_x, sqX_tup, sqX_ref, sqX_str, dEnumI_x, enX_tup, enX_ref, dSrtSet, dSortA, dIsi2, isT2, Bool.or_true, Bool.true_or, Bool.or_false, Bool.or_self, dReprR, dReprT, dDGet2, evD, sPP, sPM, sMP, sMM]
      refine dLc_g fun F2 T2 U2 h2 t2 u2 => ?_; simp only [dLc, dC, dOp, dTest, dChain, dAnd, dOr, dNot, dAndV, dOrV, dNotV, dIf, dNil, dCons, dTup, dLst, dCB, d1, dNoPart, dPart, dSl, dCut, dNeg, dSorted, dSum, dAll, dAny, dInt, dAbs, dMax, dMin, dIsi, isT, dNext, dSeq, dBrk, dCont, dNever, dExpr, dRet, dRetN, dIfS, dAsg, dPutI, dI0, dI, dIsN, dNotN, dRng1, dRng2, dRngDn, dZipI, dYes, dCall, dLM, dAppend, dExtend, dReverse, dInsert, dAugI, dRg1, dRg2, dTupRg, dLstRg, dNewK, dNewT, ↓S0_, ↓S1_, ↓S2_, ↓S3_, ↓S4_, ↓S5_, ↓S6_, List.map_cons, List.map_nil, List.length_cons, List.length_nil, List.replicate, List.cons_append, List.nil_append, Nat.reduceAdd, Nat.reduceSub, Nat.zero_add, List.getElem?_cons_zero, List.getElem?_cons_succ, Option.some.injEq, exists_eq_left, exists_eq_left', List.set_cons_zero, List.set_cons_succ, wipeD, D.int.injEq, D.bl.injEq, D.str.injEq, D.ref.injEq, D.tup.injEq, D.ty.injEq, true_and, and_true, forall_const, forall_eq', forall_eq, mt_int, mt_bool, mt_str, mt_tuple, mt_list, mt_dict, st_int_int, st_int_bool, st_int_str, st_int_tuple, st_int_list, st_int_dict, st_bool_int, st_bool_bool, st_bool_str, st_bool_tuple, st_bool_list, st_bool_dict, st_str_int, st_str_bool, st_str_str, st_str_tuple, st_str_list, st_str_dict, st_tuple_int, st_tuple_bool, st_tuple_str, st_tuple_tuple, st_tuple_list, st_tuple_dict, st_list_int, st_list_bool, st_list_str, st_list_tuple, st_list_list, st_list_dict, st_dict_int, st_dict_bool, st_dict_str, st_dict_tuple, st_dict_list, st_dict_dict, eq_self, Bool.true_eq_false, Bool.false_eq_true, false_implies, true_implies, implies_true, decide_eq_true_eq, decide_eq_false_iff_not, Bool.not_true, Bool.not_false, Bool.not_eq_true, Bool.not_eq_false, Bool.not_eq_true', Bool.not_eq_false', not_true_eq_false, not_false_eq_true, false_and, and_false, or_false, false_or, reduceCtorEq, ↓exLSu, ↓exDKu, ↓exDKd, ↓exLSd, ↓exLu, ↓dIxRu, ↓dPutu, ↓dGetAu, ↓dEq_int, ↓dNe_int, ↓dEq_bl, ↓dNe_bl, ↓dEq_str, ↓dNe_str, ↓dAdd_int, ↓exAt10, ↓exIx10, ↓exAt20, ↓exIx20, ↓exAt21, ↓exIx21, ↓exAt30, ↓exIx30, ↓exAt31, ↓exIx31, ↓exAt32, ↓exIx32, ↓exAt40, ↓exIx40, ↓exAt41, ↓exIx41, ↓exAt42, ↓exIx42, ↓exAt43, ↓exIx43, ↓exAt50, ↓exIx50, ↓exAt51, ↓exIx51, ↓exAt52, ↓exIx52, ↓exAt53, ↓exIx53, ↓exAt54, ↓exIx54, ↓exAt60, ↓exIx60, ↓exAt61, ↓exIx61, ↓exAt62, ↓exIx62, ↓exAt63, ↓exIx63, ↓exAt64, ↓exIx64, ↓exAt65, ↓exIx65, up_up, false_or, or_false, ↓exAtM, ↓dFlag_bl, ↓exBl, ↓exInt, ↓exRef, ↓dVar0, ↓dAug0, ↓dSet0, ↓dTgN0, ↓dTgW0, ↓dVar1, ↓dAug1, ↓dSet1, ↓dTgN1, ↓dTgW1, ↓dVar2, ↓dAug2, ↓dSet2, ↓dTgN2, ↓dTgW2, ↓dVar3, ↓dAug3, ↓dSet3, ↓dTgN3, ↓dTgW3, ↓dVar4, ↓dAug4, ↓dSet4, ↓dTgN4, ↓dTgW4, ↓dVar5, ↓dAug5, ↓dSet5, ↓dTgN5, ↓dTgW5, ↓dVar6, ↓dAug6, ↓dSet6, ↓dTgN6, ↓dTgW6, ↓dVar7, ↓dAug7, ↓dSet7, ↓dTgN7, ↓dTgW7, ↓dVar8, ↓dAug8, ↓dSet8, ↓dTgN8, ↓dTgW8, ↓dVar9, ↓dAug9, ↓dSet9, ↓dTgN9, ↓dTgW9, ↓dVar10, ↓dAug10, ↓dSet10, ↓dTgN10, ↓dTgW10, ↓dVar11, ↓dAug11, ↓dSet11, ↓dTgN11, ↓dTgW11, ↓dVar12, ↓dAug12, ↓dSet12, ↓dTgN12, ↓dTgW12, ↓dVar13, ↓dAug13, ↓dSet13, ↓dTgN13, ↓dTgW13, ↓dVar14, ↓dAug14, ↓dSet14, ↓dTgN14, ↓dTgW14, ↓dVar15, ↓dAug15, ↓dSet15, ↓dTgN15, ↓dTgW15, ↓dVar16, ↓dAug16, ↓dSet16, ↓dTgN16, ↓dTgW16, ↓dVar17, ↓dAug17, ↓dSet17, ↓dTgN17, ↓dTgW17, ↓dVar18, ↓dAug18, ↓dSet18, ↓dTgN18, ↓dTgW18, ↓dVar19, ↓dAug19, ↓dSet19, ↓dTgN19, ↓dTgW19, ↓dTg_t2, ↓dTg_t3, ↓exGetM, ↓exSumU, nD, plD, rwD, ↓dAdd_tup, ↓dAdd_ref, dIx_tup, dIx_str, dIx_ref, dIx_kl, dListOf_tup, dListOf_kl, dListOf_ref, dLen_tup, dLen_str, dLen_kl, dLen_ref, dTupOf_tup, dTupOf_ref, dSeqI_x, sqX_tup, sqX_ref, sqX_str, dEnumI_x, enX_tup, enX_ref, dSrtSet, dSortA, dIsi2, isT2, Bool.or_true, Bool.true_or, Bool.or_false, Bool.or_self, dReprR, dReprT, dDGet2]
      refine ⟨_, .inl hg, by rw [List.length_map, sizeLine_eq]; omega, lcM rwD (fun r => rwD (r ++ [i])) (dbl (mts (l.take i))) rfl (fun l1 r t pre acc P2 e1 hP2 => ⟨.inl hg, ?_⟩) ⟨.inl hg, fun q hq => ?_⟩⟩
      · subst t2; subst u2
        simp (config := {failIfUnchanged := false}) only [dC, dOp, dTest, dChain, dAnd, dOr, dNot, dAndV, dOrV, dNotV, dIf, dNil, dCons, dTup, dLst, dCB, d1, dNoPart, dPart, dSl, dCut, dNeg, dSorted, dSum, dAll, dAny, dInt, dAbs, dMax, dMin, dIsi, isT, dNext, dSeq, dBrk, dCont, dNever, dExpr, dRet, dRetN, dIfS, dAsg, dPutI, dI0, dI, dIsN, dNotN, dRng1, dRng2, dRngDn, dZipI, dYes, dCall, dLM, dAppend, dExtend, dReverse, dInsert, dAugI, dRg1, dRg2, dTupRg, dLstRg, dNewK, dNewT, ↓S0_, ↓S1_, ↓S2_, ↓S3_, ↓S4_, ↓S5_, ↓S6_, List.map_cons, List.map_nil, List.length_cons, List.length_nil, List.replicate, List.cons_append, List.nil_append, Nat.reduceAdd, Nat.reduceSub, Nat.zero_add, List.getElem?_cons_zero, List.getElem?_cons_succ, Option.some.injEq, exists_eq_left, exists_eq_left', List.set_cons_zero, List.set_cons_succ, wipeD, D.int.injEq, D.bl.injEq, D.str.injEq, D.ref.injEq, D.tup.injEq, D.ty.injEq, true_and, and_true, forall_const, forall_eq', forall_eq, mt_int, mt_bool, mt_str, mt_tuple, mt_list, mt_dict, st_int_int, st_int_bool, st_int_str, st_int_tuple, st_int_list, st_int_dict, st_bool_int, st_bool_bool, st_bool_str, st_bool_tuple, st_bool_list, st_bool_dict, st_str_int, st_str_bool, st_str_str, st_str_tuple, st_str_list, st_str_dict, st_tuple_int, st_tuple_bool, st_tuple_str, st_tuple_tuple, st_tuple_list, st_tuple_dict, st_list_int, st_list_bool, st_list_str, st_list_tuple, st_list_list, st_list_dict, st_dict_int, st_dict_bool, st_dict_str, st_dict_tuple, st_dict_list, st_dict_dict, eq_self, Bool.true_eq_false, Bool.false_eq_true, false_implies, true_implies, implies_true, decide_eq_true_eq, decide_eq_false_iff_not, Bool.not_true, Bool.not_false, Bool.not_eq_true, Bool.not_eq_false, Bool.not_eq_true', Bool.not_eq_false', not_true_eq_false, not_false_eq_true, false_and, and_false, or_false, false_or, reduceCtorEq, ↓exLSu, ↓exDKu, ↓exDKd, ↓exLSd, ↓exLu, ↓dIxRu, ↓dPutu, ↓dGetAu, ↓dEq_int, ↓dNe_int, ↓dEq_bl, ↓dNe_bl, ↓dEq_str, ↓dNe_str, ↓dAdd_int, ↓exAt10, ↓exIx10, ↓exAt20, ↓exIx20, ↓exAt21, ↓exIx21, ↓exAt30, ↓exIx30, ↓exAt31, ↓exIx31, ↓exAt32, ↓exIx32, ↓exAt40, ↓exIx40, ↓exAt41, ↓exIx41, ↓exAt42, ↓exIx42, ↓exAt43, ↓exIx43, ↓exAt50, ↓exIx50, ↓exAt51, ↓exIx51, ↓exAt52, ↓exIx52, ↓exAt53, ↓exIx53, ↓exAt54, ↓exIx54, ↓exAt60, ↓exIx60, ↓exAt61, ↓exIx61, ↓exAt62, ↓exIx62, ↓exAt63, ↓exIx63, ↓exAt64, ↓exIx64, ↓exAt65, ↓exIx65, up_up, false_or, or_false, ↓exAtM, ↓dFlag_bl, ↓exBl, ↓exInt, ↓exRef, ↓dVar0, ↓dAug0, ↓dSet0, ↓dTgN0, ↓dTgW0, ↓dVar1, ↓dAug1, ↓dSet1, ↓dTgN1, ↓dTgW1, ↓dVar2, ↓dAug2, ↓dSet2, ↓dTgN2, ↓dTgW2, ↓dVar3, ↓dAug3, ↓dSet3, ↓dTgN3, ↓dTgW3, ↓dVar4, ↓dAug4, ↓dSet4, ↓dTgN4, ↓dTgW4, ↓dVar5, ↓dAug5, ↓dSet5, ↓dTgN5, ↓dTgW5, ↓dVar6, ↓dAug6, ↓dSet6, ↓dTgN6, ↓dTgW6, ↓dVar7, ↓dAug7, ↓dSet7, ↓dTgN7, ↓dTgW7, ↓dVar8, ↓dAug8, ↓dSet8, ↓dTgN8, ↓dTgW8, ↓dVar9, ↓dAug9, ↓dSet9, ↓dTgN9, ↓dTgW9, ↓dVar10, ↓dAug10, ↓dSet10, ↓dTgN10, ↓dTgW10, ↓dVar11, ↓dAug11, ↓dSet11, ↓dTgN11, ↓dTgW11, ↓dVar12, ↓dAug12, ↓dSet12, ↓dTgN12, ↓dTgW12, ↓dVar13, ↓dAug13, ↓dSet13, ↓dTgN13, ↓dTgW13, ↓dVar14, ↓dAug14, ↓dSet14, ↓dTgN14, ↓dTgW14, ↓dVar15, ↓dAug15, ↓dSet15, ↓dTgN15, ↓dTgW15, ↓dVar16, ↓dAug16, ↓dSet16, ↓dTgN16, ↓dTgW16, ↓dVar17, ↓dAug17, ↓dSet17, ↓dTgN17, ↓dTgW17, ↓dVar18, ↓dAug18, ↓dSet18, ↓dTgN18, ↓dTgW18, ↓dVar19, ↓dAug19, ↓dSet19, ↓dTgN19, ↓dTgW19, ↓dTg_t2, ↓dTg_t3, ↓exGetM, ↓exSumU, nD, plD, rwD, ↓dAdd_tup, ↓dAdd_ref, dIx_tup, dIx_str, dIx_ref, dIx_kl, dListOf_tup, dListOf_kl, dListOf_ref, dLen_tup, dLen_str, dLen_kl, dLen_ref, dTupOf_tup, dTupOf_ref, dSeqI_x, sqX_tup, sqX_ref, sqX_str, dEnumI_x, enX_tup, enX_ref, dSrtSet, dSortA, dIsi2, isT2, Bool.or_true, Bool.true_or, Bool.or_false, Bool.or_self, dReprR, dReprT, dDGet2]
        have hr : r ∈ dbl (mts (l.take i)) := by rw [e1]; simp
        obtain ⟨b1, b2⟩ := (dbl_mem _ (mts_asc _) r).mp hr
        have b3 := asc_len b1 b2
        refine ⟨by rw [List.length_map, sizeLine_eq]; omega, sb0 ?_⟩
        rw [show rwD (r ++ [i]) = D.tup (r.map nD ++ [nD i]) by unfold rwD; rw [List.map_append]; rfl] at hP2
        exact hP2
      rw [h2]; clear h2 t2 u2
      simp (config := {failIfUnchanged := false}) only [dC, dOp, dTest, dChain, dAnd, dOr, dNot, dAndV, dOrV, dNotV, dIf, dNil, dCons, dTup, dLst, dCB, d1, dNoPart, dPart, dSl, dCut, dNeg, dSorted, dSum, dAll, dAny, dInt, dAbs, dMax, dMin, dIsi, isT, dNext, dSeq, dBrk, dCont, dNever, dExpr, dRet, dRetN, dIfS, dAsg, dPutI, dI0, dI, dIsN, dNotN, dRng1, dRng2, dRngDn, dZipI, dYes, dCall, dLM, dAppend, dExtend, dReverse, dInsert, dAugI, dRg1, dRg2, dTupRg, dLstRg, dNewK, dNewT, ↓S0_, ↓S1_, ↓S2_, ↓S3_, ↓S4_, ↓S5_, ↓S6_, List.map_cons, List.map_nil, List.length_cons, List.length_nil, List.replicate, List.cons_append, List.nil_append, Nat.reduceAdd, Nat.reduceSub, Nat.zero_add, List.getElem?_cons_zero, List.getElem?_cons_succ, Option.some.injEq, exists_eq_left, exists_eq_left', List.set_cons_zero, List.set_cons_succ, wipeD, D.int.injEq, D.bl.injEq, D.str.injEq, D.ref.injEq, D.tup.injEq, D.ty.injEq, true_and, and_true, forall_const, forall_eq', forall_eq, mt_int, mt_bool, mt_str, mt_tuple, mt_list, mt_dict, st_int_int, st_int_bool, st_int_str, st_int_tuple, st_int_list, st_int_dict, st_bool_int, st_bool_bool, st_bool_str, st_bool_tuple, st_bool_list, st_bool_dict, st_str_int, st_str_bool, st_str_str, st_str_tuple, st_str_list, st_str_dict, st_tuple_int, st_tuple_bool, st_tuple_str, st_tuple_tuple, st_tuple_list, st_tuple_dict, st_list_int, st_list_bool, st_list_str, st_list_tuple, st_list_list, st_list_dict, st_dict_int, st_dict_bool, st_dict_str, st_dict_tuple, st_dict_list, st_dict_dict, eq_self, Bool.true_eq_false, Bool.false_eq_true, false_implies, true_implies, implies_true, decide_eq_true_eq, decide_eq_false_iff_not, Bool.not_true, Bool.not_false, Bool.not_eq_true, Bool.not_eq_false, Bool.not_eq_true', Bool.not_eq_false', not_true_eq_false, not_false_eq_true, false_and, and_false, or_false, false_or, reduceCtorEq, ↓exLSu, ↓exDKu, ↓exDKd, ↓exLSd, ↓exLu, ↓dIxRu, ↓dPutu, ↓dGetAu, ↓dEq_int, ↓dNe_int, ↓dEq_bl, ↓dNe_bl, ↓dEq_str, ↓dNe_str, ↓dAdd_int, ↓exAt10, ↓exIx10, ↓exAt20, ↓exIx20, ↓exAt21, ↓exIx21, ↓exAt30, ↓exIx30, ↓exAt31, ↓exIx31, ↓exAt32, ↓exIx32, ↓exAt40, ↓exIx40, ↓exAt41, ↓exIx41, ↓exAt42, ↓exIx42, ↓exAt43, ↓exIx43, ↓exAt50, ↓exIx50, ↓exAt51, ↓exIx51, ↓exAt52, ↓exIx52, ↓exAt53, ↓exIx53, ↓exAt54, ↓exIx54, ↓exAt60, ↓exIx60, ↓exAt61, ↓exIx61, ↓exAt62, ↓exIx62, ↓exAt63, ↓exIx63, ↓exAt64, ↓exIx64, ↓exAt65, ↓exIx65, up_up, false_or, or_false, ↓exAtM, ↓dFlag_bl, ↓exBl, ↓exInt, ↓exRef, ↓dVar0, ↓dAug0, ↓dSet0, ↓dTgN0, ↓dTgW0, ↓dVar1, ↓dAug1, ↓dSet1, ↓dTgN1, ↓dTgW1, ↓dVar2, ↓dAug2, ↓dSet2, ↓dTgN2, ↓dTgW2, ↓dVar3, ↓dAug3, ↓dSet3, ↓dTgN3, ↓dTgW3, ↓dVar4, ↓dAug4, ↓dSet4, ↓dTgN4, ↓dTgW4, ↓dVar5, ↓dAug5, ↓dSet5, ↓dTgN5, ↓dTgW5, ↓dVar6, ↓dAug6, ↓dSet6, ↓dTgN6, ↓dTgW6, ↓dVar7, ↓dAug7, ↓dSet7, ↓dTgN7, ↓dTgW7, ↓dVar8, ↓dAug8, ↓dSet8, ↓dTgN8, ↓dTgW8, ↓dVar9, ↓dAug9, ↓dSet9, ↓dTgN9, ↓dTgW9, ↓dVar10, ↓dAug10, ↓dSet10, ↓dTgN10, ↓dTgW10, ↓dVar11, ↓dAug11, ↓dSet11, ↓dTgN11, ↓dTgW11, ↓dVar12, ↓dAug12, ↓dSet12, ↓dTgN12, ↓dTgW12, ↓dVar13, ↓dAug13, ↓dSet13, ↓dTgN13, ↓dTgW13, ↓dVar14, ↓dAug14, ↓dSet14, ↓dTgN14, ↓dTgW14, ↓dVar15, ↓dAug15, ↓dSet15, ↓dTgN15, ↓dTgW15, ↓dVar16, ↓dAug16, ↓dSet16, ↓dTgN16, ↓dTgW16, ↓dVar17, ↓dAug17, ↓dSet17, ↓dTgN17, ↓dTgW17, ↓dVar18, ↓dAug18, ↓dSet18, ↓dTgN18, ↓dTgW18, ↓dVar19, ↓dAug19, ↓dSet19, ↓dTgN19, ↓dTgW19, ↓dTg_t2, ↓dTg_t3, ↓exGetM, ↓exSumU, nD, plD, rwD, ↓dAdd_tup, ↓dAdd_ref, dIx_tup, dIx_str, dIx_ref, dIx_kl, dListOf_tup, dListOf_kl, dListOf_ref, dLen_tup, dLen_str, dLen_kl, dLen_ref, dTupOf_tup, dTupOf_ref, dSeqI_x, sqX_tup, sqX_ref, sqX_str, dEnumI_x, enX_tup, enX_ref, dSrtSet, dSortA, dIsi2, isT2, Bool.or_true, Bool.true_or, Bool.or_false, Bool.or_self, dReprR, dReprT, dDGet2]
      have ngq : g ≠ q := by rintro rfl; rw [hg] at hq; cases hq
      have s3 := (Sub.new (o := .lst ((dbl (mts (l.take i))).map fun r => D.tup ((r ++ [i]).map nD))) hq (by intro _ z; cases z)).trans s2
      refine ⟨_, by rw [up_ne ngq]; exact hg, by rw [List.length_map, List.length_map, sizeLine_eq]; omega, fun w hw => ?_⟩
      refine sb0 (hP _ _ ⟨(Sub.new hw (by intro _ z; cases z)).trans s3, w, _, _, s3.free hw, ?_, rfl⟩)
      rw [up_same, ms, if_neg (by simp [Ev.isPut]), dbl_snoc, List.map_append, List.map_map]
      rfl
  · rintro δ' M1 ⟨s2, g, c, d, hg0, hg, rfl⟩
    rw [rg_len, List.take_length] at hg
    rw [h1]
    simp (config := {failIfUnchanged := false}) only [dC, dOp, dTest, dChain, dAnd, dOr, dNot, dAndV, dOrV, dNotV, dIf, dNil, dCons, dTup, dLst, dCB, d1, dNoPart, dPart, dSl, dCut, dNeg, dSorted, dSum, dAll, dAny, dInt, dAbs, dMax, dMin, dIsi, isT, dNext, dSeq, dBrk, dCont, dNever, dExpr, dRet, dRetN, dIfS, dAsg, dPutI, dI0, dI, dIsN, dNotN, dRng1, dRng2, dRngDn, dZipI, dYes, dCall, dLM, dAppend, dExtend, dReverse, dInsert, dAugI, dRg1, dRg2, dTupRg, dLstRg, dNewK, dNewT, ↓S0_, ↓S1_, ↓S2_, ↓S3_, ↓S4_, ↓S5_, ↓S6_, List.map_cons, List.map_nil, List.length_cons, List.length_nil, List.replicate, List.cons_append, List.nil_append, Nat.reduceAdd, Nat.reduceSub, Nat.zero_add, List.getElem?_cons_zero, List.getElem?_cons_succ, Option.some.injEq, exists_eq_left, exists_eq_left', List.set_cons_zero, List.set_cons_succ, wipeD, D.int.injEq, D.bl.injEq, D.str.injEq, D.ref.injEq, D.tup.injEq, D.ty.injEq, true_and, and_true, forall_const, forall_eq', forall_eq, mt_int, mt_bool, mt_str, mt_tuple, mt_list, mt_dict, st_int_int, st_int_bool, st_int_str, st_int_tuple, st_int_list, st_int_dict, st_bool_int, st_bool_bool, st_bool_str, st_bool_tuple, st_bool_list, st_bool_dict, st_str_int, st_str_bool, st_str_str, st_str_tuple, st_str_list, st_str_dict, st_tuple_int, st_tuple_bool, st_tuple_str, st_tuple_tuple, st_tuple_list, st_tuple_dict, st_list_int, st_list_bool, st_list_str, st_list_tuple, st_list_list, st_list_dict, st_dict_int, st_dict_bool, st_dict_str, st_dict_tuple, st_dict_list, st_dict_dict, eq_self, Bool.true_eq_false, Bool.false_eq_true, false_implies, true_implies, implies_true, decide_eq_true_eq, decide_eq_false_iff_not, Bool.not_true, Bool.not_false, Bool.not_eq_true, Bool.not_eq_false, Bool.not_eq_true', Bool.not_eq_false', not_true_eq_false, not_false_eq_true, false_and, and_false, or_false, false_or, reduceCtorEq, ↓exLSu, ↓exDKu, ↓exDKd, ↓exLSd, ↓exLu, ↓dIxRu, ↓dPutu, ↓dGetAu, ↓dEq_int, ↓dNe_int, ↓dEq_bl, ↓dNe_bl, ↓dEq_str, ↓dNe_str, ↓dAdd_int, ↓exAt10, ↓exIx10, ↓exAt20, ↓exIx20, ↓exAt21, ↓exIx21, ↓exAt30, ↓exIx30, ↓exAt31, ↓exIx31, ↓exAt32, ↓exIx32, ↓exAt40, ↓exIx40, ↓exAt41, ↓exIx41, ↓exAt42, ↓exIx42, ↓exAt43, ↓exIx43, ↓exAt50, ↓exIx50, ↓exAt51, ↓exIx51, ↓exAt52, ↓exIx52, ↓exAt53, ↓exIx53, ↓exAt54, ↓exIx54, ↓exAt60, ↓exIx60, ↓exAt61, ↓exIx61, ↓exAt62, ↓exIx62, ↓exAt63, ↓exIx63, ↓exAt64, ↓exIx64, ↓exAt65, ↓exIx65, up_up, false_or, or_false, ↓exAtM, ↓dFlag_bl, ↓exBl, ↓exInt, ↓exRef, ↓dVar0, ↓dAug0, ↓dSet0, ↓dTgN0, ↓dTgW0, ↓dVar1, ↓dAug1, ↓dSet1, ↓dTgN1, ↓dTgW1, ↓dVar2, ↓dAug2, ↓dSet2, ↓dTgN2, ↓dTgW2, ↓dVar3, ↓dAug3, ↓dSet3, ↓dTgN3, ↓dTgW3, ↓dVar4, ↓dAug4, ↓dSet4, ↓dTgN4, ↓dTgW4, ↓dVar5, ↓dAug5, ↓dSet5, ↓dTgN5, ↓dTgW5, ↓dVar6, ↓dAug6, ↓dSet6, ↓dTgN6, ↓dTgW6, ↓dVar7, ↓dAug7, ↓dSet7, ↓dTgN7, ↓dTgW7, ↓dVar8, ↓dAug8, ↓dSet8, ↓dTgN8, ↓dTgW8, ↓dVar9, ↓dAug9, ↓dSet9, ↓dTgN9, ↓dTgW9, ↓dVar10, ↓dAug10, ↓dSet10, ↓dTgN10, ↓dTgW10, ↓dVar11, ↓dAug11, ↓dSet11, ↓dTgN11, ↓dTgW11, ↓dVar12, ↓dAug12, ↓dSet12, ↓dTgN12, ↓dTgW12, ↓dVar13, ↓dAug13, ↓dSet13, ↓dTgN13, ↓dTgW13, ↓dVar14, ↓dAug14, ↓dSet14, ↓dTgN14, ↓dTgW14, ↓dVar15, ↓dAug15, ↓dSet15, ↓dTgN15, ↓dTgW15, ↓dVar16, ↓dAug16, ↓dSet16, ↓dTgN16, ↓dTgW16, ↓dVar17, ↓dAug17, ↓dSet17, ↓dTgN17, ↓dTgW17, ↓dVar18, ↓dAug18, ↓dSet18, ↓dTgN18, ↓dTgW18, ↓dVar19, ↓dAug19, ↓dSet19, ↓dTgN19, ↓dTgW19, ↓dTg_t2, ↓dTg_t3, ↓exGetM, ↓exSumU, nD, plD, rwD, ↓dAdd_tup, ↓dAdd_ref, dIx_tup, dIx_str, dIx_ref, dIx_kl, dListOf_tup, dListOf_kl, dListOf_ref, dLen_tup, dLen_str, dLen_kl, dLen_ref, dTupOf_tup, dTupOf_ref, dSeqI_x, sqX_tup, sqX_ref, sqX_str, dEnumI_x, enX_tup, enX_ref, dSrtSet, dSortA, dIsi2, isT2, Bool.or_true, Bool.true_or, Bool.or_false, Bool.or_self, dReprR, dReprT, dDGet2]
    exact dn0 (h g M1 s2 hg0 hg)
theorem pr__law_is_row (G : Gv K mg) : Pr P w K mg base "_law_is_row" 1 ["_law_actual", "_law_due"] (S2 fun x y M Q => ∃ a : List Nat, x = rwD a ∧ y = rwD a ∧ a.length ≤ 100 ∧ Q (.bl true) M) := by
  refine (pr3 (k := 0) G.d__law_is_row bi__law_is_row sc__law_is_row S2n (fun f cdv A outer s H E hr => (b_cons (s_if (PW3.pt (w_or (t_not (t_val (e_callB cd_isi (by rfl) G.b_isinstance rfl (a_cons (e_var 0) (a_cons (e_ty (by rfl) G.b_tuple rfl) a_nil))))) (w_or1 (t_cmp (od_ne (hu3 hr)) (e_callB cd_len (by rfl) G.b_len rfl (a_cons (e_var 0) a_nil)) (e_callB cd_len (by rfl) G.b_len rfl (a_cons (e_var 1) a_nil)))))) (b_one (s_ret e_bl)) b_nil)
      (b_cons (s_for PassesOwn.never rfl (i_rng1 (by rfl) G.b_range (a_cons (e_callB cd_len (by rfl) G.b_len rfl (a_cons (e_var 1) a_nil)) a_nil)) (g_nm 2 sc__law_is_row.nd)
      (b_one (s_if (PW3.pt (w_or (t_not (t_val (e_callB cd_isi (by rfl) G.b_isinstance rfl (a_cons (e_ix (ixd (hu_of hr)) (e_var 0) (e_var 2)) (a_cons (e_ty (by rfl) G.b_int rfl) a_nil))))) (w_or (t_val (e_callB cd_isi (by rfl) G.b_isinstance rfl (a_cons (e_ix (ixd (hu_of hr)) (e_var 0) (e_var 2)) (a_cons (e_ty (by rfl) G.b_bool rfl) a_nil)))) (w_or1 (t_cmp (od_ne (hu3 hr)) (e_ix (ixd (hu_of hr)) (e_var 0) (e_var 2)) (e_ix (ixd (hu_of hr)) (e_var 1) (e_var 2))))))) (b_one (s_ret e_bl)) b_nil)))
      (b_one (s_ret e_bl)))))) ?_
  rintro _ M Q E ⟨_, _, rfl, a, rfl, rfl, hl, h⟩ H rep
  refine ⟨M, rep, fun _ h => h, ?_⟩
  simp only [startD, List.map_cons, List.map_nil, List.length_cons, List.length_nil, Nat.reduceAdd, Nat.reduceSub, Nat.zero_add, List.replicate, List.cons_append, List.nil_append]; simp (config := {failIfUnchanged := false}) only [dC, dOp, dTest, dChain, dAnd, dOr, dNot, dAndV, dOrV, dNotV, dIf, dNil, dCons, dTup, dLst, dCB, d1, dNoPart, dPart, dSl, dCut, dNeg, dSorted, dSum, dAll, dAny, dInt, dAbs, dMax, dMin, dIsi, isT, dNext, dSeq, dBrk, dCont, dNever, dExpr, dRet, dRetN, dIfS, dAsg, dPutI, dI0, dI, dIsN, dNotN, dRng1, dRng2, dRngDn, dZipI, dYes, dCall, dLM, dAppend, dExtend, dReverse, dInsert, dAugI, dRg1, dRg2, dTupRg, dLstRg, dNewK, dNewT, ↓S0_, ↓S1_, ↓S2_, ↓S3_, ↓S4_, ↓S5_, ↓S6_, List.map_cons, List.map_nil, List.length_cons, List.length_nil, List.replicate, List.cons_append, List.nil_append, Nat.reduceAdd, Nat.reduceSub, Nat.zero_add, List.getElem?_cons_zero, List.getElem?_cons_succ, Option.some.injEq, exists_eq_left, exists_eq_left', List.set_cons_zero, List.set_cons_succ, wipeD, D.int.injEq, D.bl.injEq, D.str.injEq, D.ref.injEq, D.tup.injEq, D.ty.injEq, true_and, and_true, forall_const, forall_eq', forall_eq, mt_int, mt_bool, mt_str, mt_tuple, mt_list, mt_dict, st_int_int, st_int_bool, st_int_str, st_int_tuple, st_int_list, st_int_dict, st_bool_int, st_bool_bool, st_bool_str, st_bool_tuple, st_bool_list, st_bool_dict, st_str_int, st_str_bool, st_str_str, st_str_tuple, st_str_list, st_str_dict, st_tuple_int, st_tuple_bool, st_tuple_str, st_tuple_tuple, st_tuple_list, st_tuple_dict, st_list_int, st_list_bool, st_list_str, st_list_tuple, st_list_list, st_list_dict, st_dict_int, st_dict_bool, st_dict_str, st_dict_tuple, st_dict_list, st_dict_dict, eq_self, Bool.true_eq_false, Bool.false_eq_true, false_implies, true_implies, implies_true, decide_eq_true_eq, decide_eq_false_iff_not, Bool.not_true, Bool.not_false, Bool.not_eq_true, Bool.not_eq_false, Bool.not_eq_true', Bool.not_eq_false', not_true_eq_false, not_false_eq_true, false_and, and_false, or_false, false_or, reduceCtorEq, ↓exLSu, ↓exDKu, ↓exDKd, ↓exLSd, ↓exLu, ↓dIxRu, ↓dPutu, ↓dGetAu, ↓dEq_int, ↓dNe_int, ↓dEq_bl, ↓dNe_bl, ↓dEq_str, ↓dNe_str, ↓dAdd_int, ↓exAt10, ↓exIx10, ↓exAt20, ↓exIx20, ↓exAt21, ↓exIx21, ↓exAt30, ↓exIx30, ↓exAt31, ↓exIx31, ↓exAt32, ↓exIx32, ↓exAt40, ↓exIx40, ↓exAt41, ↓exIx41, ↓exAt42, ↓exIx42, ↓exAt43, ↓exIx43, ↓exAt50, ↓exIx50, ↓exAt51, ↓exIx51, ↓exAt52, ↓exIx52, ↓exAt53, ↓exIx53, ↓exAt54, ↓exIx54, ↓exAt60, ↓exIx60, ↓exAt61, ↓exIx61, ↓exAt62, ↓exIx62, ↓exAt63, ↓exIx63, ↓exAt64, ↓exIx64, ↓exAt65, ↓exIx65, up_up, false_or, or_false, ↓exAtM, ↓dFlag_bl, ↓exBl, ↓exInt, ↓exRef, ↓dVar0, ↓dAug0, ↓dSet0, ↓dTgN0, ↓dTgW0, ↓dVar1, ↓dAug1, ↓dSet1, ↓dTgN1, ↓dTgW1, ↓dVar2, ↓dAug2, ↓dSet2, ↓dTgN2, ↓dTgW2, ↓dVar3, ↓dAug3, ↓dSet3, ↓dTgN3, ↓dTgW3, ↓dVar4, ↓dAug4, ↓dSet4, ↓dTgN4, ↓dTgW4, ↓dVar5, ↓dAug5, ↓dSet5, ↓dTgN5, ↓dTgW5, ↓dVar6, ↓dAug6, ↓dSet6, ↓dTgN6, ↓dTgW6, ↓dVar7, ↓dAug7, ↓dSet7, ↓dTgN7, ↓dTgW7, ↓dVar8, ↓dAug8, ↓dSet8, ↓dTgN8, ↓dTgW8, ↓dVar9, ↓dAug9, ↓dSet9, ↓dTgN9, ↓dTgW9, ↓dVar10, ↓dAug10, ↓dSet10, ↓dTgN10, ↓dTgW10, ↓dVar11, ↓dAug11, ↓dSet11, ↓dTgN11, ↓dTgW11, ↓dVar12, ↓dAug12, ↓dSet12, ↓dTgN12, ↓dTgW12, ↓dVar13, ↓dAug13, ↓dSet13, ↓dTgN13, ↓dTgW13, ↓dVar14, ↓dAug14, ↓dSet14, ↓dTgN14, ↓dTgW14, ↓dVar15, ↓dAug15, ↓dSet15, ↓dTgN15, ↓dTgW15, ↓dVar16, ↓dAug16, ↓dSet16, ↓dTgN16, ↓dTgW16, ↓dVar17, ↓dAug17, ↓dSet17, ↓dTgN17, ↓dTgW17, ↓dVar18, ↓dAug18, ↓dSet18, ↓dTgN18, ↓dTgW18, ↓dVar19, ↓dAug19, ↓dSet19, ↓dTgN19, ↓dTgW19, ↓dTg_t2, ↓dTg_t3, ↓exGetM, ↓exSumU, nD, plD, rwD, ↓dAdd_tup, ↓dAdd_ref, dIx_tup, dIx_str, dIx_ref, dIx_kl, dListOf_tup, dListOf_kl, dListOf_ref, dLen_tup, dLen_str, dLen_kl, dLen_ref, dTupOf_tup, dTupOf_ref, dSeqI_x, sqX_tup, sqX_ref, sqX_str, dEnumI_x, enX_tup, enX_ref, dSrtSet, dSortA, dIsi2, isT2, Bool.or_true, Bool.true_or, Bool.or_false, Bool.or_self, dReprR, dReprT, dDGet2]
  refine dFor_g fun F1 T1 h1 t1 => ?_; simp only [dFor, dC, dOp, dTest, dChain, dAnd, dOr, dNot, dAndV, dOrV, dNotV, dIf, dNil, dCons, dTup, dLst, dCB, d1, dNoPart, dPart, dSl, dCut, dNeg, dSorted, dSum, dAll, dAny, dInt, dAbs, dMax, dMin, dIsi, isT, dNext, dSeq, dBrk, dCont, dNever, dExpr, dRet, dRetN, dIfS, dAsg, dPutI, dI0, dI, dIsN, dNotN, dRng1, dRng2, dRngDn, dZipI, dYes, dCall, dLM, dAppend, dExtend, dReverse, dInsert, dAugI, dRg1, dRg2, dTupRg, dLstRg, dNewK, dNewT, ↓S0_, ↓S1_, ↓S2_, ↓S3_, ↓S4_, ↓S5_, ↓S6_, List.map_cons, List.map_nil, List.length_cons, List.length_nil, List.replicate, List.cons_append, List.nil_append, Nat.reduceAdd, Nat.reduceSub, Nat.zero_add, List.getElem?_cons_zero, List.getElem?_cons_succ, Option.some.injEq, exists_eq_left, exists_eq_left', List.set_cons_zero, List.set_cons_succ, wipeD, D.int.injEq, D.bl.injEq, D.str.injEq, D.ref.injEq, D.tup.injEq, D.ty.injEq, true_and, and_true, forall_const, forall_eq', forall_eq, mt_int, mt_bool, mt_str, mt_tuple, mt_list, mt_dict, st_int_int, st_int_bool, st_int_str, st_int_tuple, st_int_list, st_int_dict, st_bool_int, st_bool_bool, st_bool_str, st_bool_tuple, st_bool_list, st_bool_dict, st_str_int, st_str_bool, st_str_str, st_str_tuple, st_str_list, st_str_dict, st_tuple_int, st_tuple_bool, st_tuple_str, st_tuple_tuple, st_tuple_list, st_tuple_dict, st_list_int, st_list_bool, st_list_str, st_list_tuple, st_list_list, st_list_dict, st_dict_int, st_dict_bool, st_dict_str, st_dict_tuple, st_dict_list, st_dict_dict, eq_self, Bool.true_eq_false, Bool.false_eq_true, false_implies, true_implies, implies_true, decide_eq_true_eq, decide_eq_false_iff_not, Bool.not_true, Bool.not_false, Bool.not_eq_true, Bool.not_eq_false, Bool.not_eq_true', Bool.not_eq_false', not_true_eq_false, not_false_eq_true, false_and, and_false, or_false, false_or, reduceCtorEq, ↓exLSu, ↓exDKu, ↓exDKd, ↓exLSd, ↓exLu, ↓dIxRu, ↓dPutu, ↓dGetAu, ↓dEq_int, ↓dNe_int, ↓dEq_bl, ↓dNe_bl, ↓dEq_str, ↓dNe_str, ↓dAdd_int, ↓exAt10, ↓exIx10, ↓exAt20, ↓exIx20, ↓exAt21, ↓exIx21, ↓exAt30, ↓exIx30, ↓exAt31, ↓exIx31, ↓exAt32, ↓exIx32, ↓exAt40, ↓exIx40, ↓exAt41, ↓exIx41, ↓exAt42, ↓exIx42, ↓exAt43, ↓exIx43, ↓exAt50, ↓exIx50, ↓exAt51, ↓exIx51, ↓exAt52, ↓exIx52, ↓exAt53, ↓exIx53, ↓exAt54, ↓exIx54, ↓exAt60, ↓exIx60, ↓exAt61, ↓exIx61, ↓exAt62, ↓exIx62, ↓exAt63, ↓exIx63, ↓exAt64, ↓exIx64, ↓exAt65, ↓exIx65, up_up, false_or, or_false, ↓exAtM, ↓dFlag_bl, ↓exBl, ↓exInt, ↓exRef, ↓dVar0, ↓dAug0, ↓dSet0, ↓dTgN0, ↓dTgW0, ↓dVar1, ↓dAug1, ↓dSet1, ↓dTgN1, ↓dTgW1, ↓dVar2, ↓dAug2, ↓dSet2, ↓dTgN2, ↓dTgW2, ↓dVar3, ↓dAug3, ↓dSet3, ↓dTgN3, ↓dTgW3, ↓dVar4, ↓dAug4, ↓dSet4, ↓dTgN4, ↓dTgW4, ↓dVar5, ↓dAug5, ↓dSet5, ↓dTgN5, ↓dTgW5, ↓dVar6, ↓dAug6, ↓dSet6, ↓dTgN6, ↓dTgW6, ↓dVar7, ↓dAug7, ↓dSet7, ↓dTgN7, ↓dTgW7, ↓dVar8, ↓dAug8, ↓dSet8, ↓dTgN8, ↓dTgW8, ↓dVar9, ↓dAug9, ↓dSet9, ↓dTgN9, ↓dTgW9, ↓dVar10, ↓dAug10, ↓dSet10, ↓dTgN10, ↓dTgW10, ↓dVar11, ↓dAug11, ↓dSet11, ↓dTgN11, ↓dTgW11, ↓dVar12, ↓dAug12, ↓dSet12, ↓dTgN12, ↓dTgW12, ↓dVar13, ↓dAug13, ↓dSet13, ↓dTgN13, ↓dTgW13, ↓dVar14, ↓dAug14, ↓dSet14, ↓dTgN14, ↓dTgW14, ↓dVar15, ↓dAug15, ↓dSet15, ↓dTgN15, ↓dTgW15, ↓dVar16, ↓dAug16, ↓dSet16, ↓dTgN16, ↓dTgW16, ↓dVar17, ↓dAug17, ↓dSet17, ↓dTgN17, ↓dTgW17, ↓dVar18, ↓dAug18, ↓dSet18, ↓dTgN18, ↓dTgW18, ↓dVar19, ↓dAug19, ↓dSet19, ↓dTgN19, ↓dTgW19, ↓dTg_t2, ↓dTg_t3, ↓exGetM, ↓exSumU, nD, plD, rwD, ↓dAdd_tup, ↓dAdd_ref, dIx_tup, dIx_str, dIx_ref, dIx_kl, dListOf_tup, dListOf_kl, dListOf_ref, dLen_tup, dLen_str, dLen_kl, dLen_ref, dTupOf_tup, dTupOf_ref, dSeqI_x, sqX_tup, sqX_ref, sqX_str, dEnumI_x, enX_tup, enX_ref, dSrtSet, dSortA, dIsi2, isT2, Bool.or_true, Bool.true_or, Bool.or_false, Bool.or_self, dReprR, dReprT, dDGet2]
  rw [List.length_map, rng0]
  refine ⟨by omega, forN (fun i δ M' => M' = M ∧ ∃ k, δ = [some (rwD a), some (rwD a), k]) ⟨rfl, _, rfl⟩ ?_ ?_⟩
  · rintro i x δ' M' pre P' hx ⟨rfl, k, rfl⟩ hP
    obtain ⟨hi, rfl⟩ := rgx hx
    subst t1
    simp (config := {failIfUnchanged := false}) only [dC, dOp, dTest, dChain, dAnd, dOr, dNot, dAndV, dOrV, dNotV, dIf, dNil, dCons, dTup, dLst, dCB, d1, dNoPart, dPart, dSl, dCut, dNeg, dSorted, dSum, dAll, dAny, dInt, dAbs, dMax, dMin, dIsi, isT, dNext, dSeq, dBrk, dCont, dNever, dExpr, dRet, dRetN, dIfS, dAsg, dPutI, dI0, dI, dIsN, dNotN, dRng1, dRng2, dRngDn, dZipI, dYes, dCall, dLM, dAppend, dExtend, dReverse, dInsert, dAugI, dRg1, dRg2, dTupRg, dLstRg, dNewK, dNewT, ↓S0_, ↓S1_, ↓S2_, ↓S3_, ↓S4_, ↓S5_, ↓S6_, List.map_cons, List.map_nil, List.length_cons, List.length_nil, List.replicate, List.cons_append, List.nil_append, Nat.reduceAdd, Nat.reduceSub, Nat.zero_add, List.getElem?_cons_zero, List.getElem?_cons_succ, Option.some.injEq, exists_eq_left, exists_eq_left', List.set_cons_zero, List.set_cons_succ, wipeD, D.int.injEq, D.bl.injEq, D.str.injEq, D.ref.injEq, D.tup.injEq, D.ty.injEq, true_and, and_true, forall_const, forall_eq', forall_eq, mt_int, mt_bool, mt_str, mt_tuple, mt_list, mt_dict, st_int_int, st_int_bool, st_int_str, st_int_tuple, st_int_list, st_int_dict, st_bool_int, st_bool_bool, st_bool_str, st_bool_tuple, st_bool_list, st_bool_dict, st_str_int, st_str_bool, st_str_str, st_str_tuple, st_str_list, st_str_dict, st_tuple_int, st_tuple_bool, st_tuple_str, st_tuple_tuple, st_tuple_list, st_tuple_dict, st_list_int, st_list_bool, st_list_str, st_list_tuple, st_list_list, st_list_dict, st_dict_int, st_dict_bool, st_dict_str, st_dict_tuple, st_dict_list, st_dict_dict, eq_self, Bool.true_eq_false, Bool.false_eq_true, false_implies, true_implies, implies_true, decide_eq_true_eq, decide_eq_false_iff_not, Bool.not_true, Bool.not_false, Bool.not_eq_true, Bool.not_eq_false, Bool.not_eq_true', Bool.not_eq_false', not_true_eq_false, not_false_eq_true, false_and, and_false, or_false, false_or, reduceCtorEq, ↓exLSu, ↓exDKu, ↓exDKd, ↓exLSd, ↓exLu, ↓dIxRu, ↓dPutu, ↓dGetAu, ↓dEq_int, ↓dNe_int, ↓dEq_bl, ↓dNe_bl, ↓dEq_str, ↓dNe_str, ↓dAdd_int, ↓exAt10, ↓exIx10, ↓exAt20, ↓exIx20, ↓exAt21, ↓exIx21, ↓exAt30, ↓exIx30, ↓exAt31, ↓exIx31, ↓exAt32, ↓exIx32, ↓exAt40, ↓exIx40, ↓exAt41, ↓exIx41, ↓exAt42, ↓exIx42, ↓exAt43, ↓exIx43, ↓exAt50, ↓exIx50, ↓exAt51, ↓exIx51, ↓exAt52, ↓exIx52, ↓exAt53, ↓exIx53, ↓exAt54, ↓exIx54, ↓exAt60, ↓exIx60, ↓exAt61, ↓exIx61, ↓exAt62, ↓exIx62, ↓exAt63, ↓exIx63, ↓exAt64, ↓exIx64, ↓exAt65, ↓exIx65, up_up, false_or, or_false, ↓exAtM, ↓dFlag_bl, ↓exBl, ↓exInt, ↓exRef, ↓dVar0, ↓dAug0, ↓dSet0, ↓dTgN0, ↓dTgW0, ↓dVar1, ↓dAug1, ↓dSet1, ↓dTgN1, ↓dTgW1, ↓dVar2, ↓dAug2, ↓dSet2, ↓dTgN2, ↓dTgW2, ↓dVar3, ↓dAug3, ↓dSet3, ↓dTgN3, ↓dTgW3, ↓dVar4, ↓dAug4, ↓dSet4, ↓dTgN4, ↓dTgW4, ↓dVar5, ↓dAug5, ↓dSet5, ↓dTgN5, ↓dTgW5, ↓dVar6, ↓dAug6, ↓dSet6, ↓dTgN6, ↓dTgW6, ↓dVar7, ↓dAug7, ↓dSet7, ↓dTgN7, ↓dTgW7, ↓dVar8, ↓dAug8, ↓dSet8, ↓dTgN8, ↓dTgW8, ↓dVar9, ↓dAug9, ↓dSet9, ↓dTgN9, ↓dTgW9, ↓dVar10, ↓dAug10, ↓dSet10, ↓dTgN10, ↓dTgW10, ↓dVar11, ↓dAug11, ↓dSet11, ↓dTgN11, ↓dTgW11, ↓dVar12, ↓dAug12, ↓dSet12, ↓dTgN12, ↓dTgW12, ↓dVar13, ↓dAug13, ↓dSet13, ↓dTgN13, ↓dTgW13, ↓dVar14, ↓dAug14, ↓dSet14, ↓dTgN14, ↓dTgW14, ↓dVar15, ↓dAug15, ↓dSet15, ↓dTgN15, ↓dTgW15, ↓dVar16, ↓dAug16, ↓dSet16, ↓dTgN16, ↓dTgW16, ↓dVar17, ↓dAug17, ↓dSet17, ↓dTgN17, ↓dTgW17, ↓dVar18, ↓dAug18, ↓dSet18, ↓dTgN18, ↓dTgW18, ↓dVar19, ↓dAug19, ↓dSet19, ↓dTgN19, ↓dTgW19, ↓dTg_t2, ↓dTg_t3, ↓exGetM, ↓exSumU, nD, plD, rwD, ↓dAdd_tup, ↓dAdd_ref, dIx_tup, dIx_str, dIx_ref, dIx_kl, dListOf_tup, dListOf_kl, dListOf_ref, dLen_tup, dLen_str, dLen_kl, dLen_ref, dTupOf_tup, dTupOf_ref, dSeqI_x, sqX_tup, sqX_ref, sqX_str, dEnumI_x, enX_tup, enX_ref, dSrtSet, dSortA, dIsi2, isT2, Bool.or_true, Bool.true_or, Bool.or_false, Bool.or_self, dReprR, dReprT, dDGet2]
    have hg : a[i]? = some a[i] := List.getElem?_eq_getElem hi
    exact ⟨_, atI_nat hg, _, atI_nat hg, _, atI_nat hg, _, atI_nat hg, fun z => absurd rfl z, fun _ => sb0 (hP _ _ ⟨rfl, _, rfl⟩)⟩
  · rintro δ' M' ⟨rfl, k, rfl⟩
    rw [h1]
    simp (config := {failIfUnchanged := false}) only [dC, dOp, dTest, dChain, dAnd, dOr, dNot, dAndV, dOrV, dNotV, dIf, dNil, dCons, dTup, dLst, dCB, d1, dNoPart, dPart, dSl, dCut, dNeg, dSorted, dSum, dAll, dAny, dInt, dAbs, dMax, dMin, dIsi, isT, dNext, dSeq, dBrk, dCont, dNever, dExpr, dRet, dRetN, dIfS, dAsg, dPutI, dI0, dI, dIsN, dNotN, dRng1, dRng2, dRngDn, dZipI, dYes, dCall, dLM, dAppend, dExtend, dReverse, dInsert, dAugI, dRg1, dRg2, dTupRg, dLstRg, dNewK, dNewT, ↓S0_, ↓S1_, ↓S2_, ↓S3_, ↓S4_, ↓S5_, ↓S6_, List.map_cons, List.map_nil, List.length_cons, List.length_nil, List.replicate, List.cons_append, List.nil_append, Nat.reduceAdd, Nat.reduceSub, Nat.zero_add, List.getElem?_cons_zero, List.getElem?_cons_succ, Option.some.injEq, exists_eq_left, exists_eq_left', List.set_cons_zero, List.set_cons_succ, wipeD, D.int.injEq, D.bl.injEq, D.str.injEq, D.ref.injEq, D.tup.injEq, D.ty.injEq, true_and, and_true, forall_const, forall_eq', forall_eq, mt_int, mt_bool, mt_str, mt_tuple, mt_list, mt_dict, st_int_int, st_int_bool, st_int_str, st_int_tuple, st_int_list, st_int_dict, st_bool_int, st_bool_bool, st_bool_str, st_bool_tuple, st_bool_list, st_bool_dict, st_str_int, st_str_bool, st_str_str, st_str_tuple, st_str_list, st_str_dict, st_tuple_int, st_tuple_bool, st_tuple_str, st_tuple_tuple, st_tuple_list, st_tuple_dict, st_list_int, st_list_bool, st_list_str, st_list_tuple, st_list_list, st_list_dict, st_dict_int, st_dict_bool, st_dict_str, st_dict_tuple, st_dict_list, st_dict_dict, eq_self, Bool.true_eq_false, Bool.false_eq_true, false_implies, true_implies, implies_true, decide_eq_true_eq, decide_eq_false_iff_not, Bool.not_true, Bool.not_false, Bool.not_eq_true, Bool.not_eq_false, Bool.not_eq_true', Bool.not_eq_false', not_true_eq_false, not_false_eq_true, false_and, and_false, or_false, false_or, reduceCtorEq, ↓exLSu, ↓exDKu, ↓exDKd, ↓exLSd, ↓exLu, ↓dIxRu, ↓dPutu, ↓dGetAu, ↓dEq_int, ↓dNe_int, ↓dEq_bl, ↓dNe_bl, ↓dEq_str, ↓dNe_str, ↓dAdd_int, ↓exAt10, ↓exIx10, ↓exAt20, ↓exIx20, ↓exAt21, ↓exIx21, ↓exAt30, ↓exIx30, ↓exAt31, ↓exIx31, ↓exAt32, ↓exIx32, ↓exAt40, ↓exIx40, ↓exAt41, ↓exIx41, ↓exAt42, ↓exIx42, ↓exAt43, ↓exIx43, ↓exAt50, ↓exIx50, ↓exAt51, ↓exIx51, ↓exAt52, ↓exIx52, ↓exAt53, ↓exIx53, ↓exAt54, ↓exIx54, ↓exAt60, ↓exIx60, ↓exAt61, ↓exIx61, ↓exAt62, ↓exIx62, ↓exAt63, ↓exIx63, ↓exAt64, ↓exIx64, ↓exAt65, ↓exIx65, up_up, false_or, or_false, ↓exAtM, ↓dFlag_bl, ↓exBl, ↓exInt, ↓exRef, ↓dVar0, ↓dAug0, ↓dSet0, ↓dTgN0, ↓dTgW0, ↓dVar1, ↓dAug1, ↓dSet1, ↓dTgN1, ↓dTgW1, ↓dVar2, ↓dAug2, ↓dSet2, ↓dTgN2, ↓dTgW2, ↓dVar3, ↓dAug3, ↓dSet3, ↓dTgN3, ↓dTgW3, ↓dVar4, ↓dAug4, ↓dSet4, ↓dTgN4, ↓dTgW4, ↓dVar5, ↓dAug5, ↓dSet5, ↓dTgN5, ↓dTgW5, ↓dVar6, ↓dAug6, ↓dSet6, ↓dTgN6, ↓dTgW6, ↓dVar7, ↓dAug7, ↓dSet7, ↓dTgN7, ↓dTgW7, ↓dVar8, ↓dAug8, ↓dSet8, ↓dTgN8, ↓dTgW8, ↓dVar9, ↓dAug9, ↓dSet9, ↓dTgN9, ↓dTgW9, ↓dVar10, ↓dAug10, ↓dSet10, ↓dTgN10, ↓dTgW10, ↓dVar11, ↓dAug11, ↓dSet11, ↓dTgN11, ↓dTgW11, ↓dVar12, ↓dAug12, ↓dSet12, ↓dTgN12, ↓dTgW12, ↓dVar13, ↓dAug13, ↓dSet13, ↓dTgN13, ↓dTgW13, ↓dVar14, ↓dAug14, ↓dSet14, ↓dTgN14, ↓dTgW14, ↓dVar15, ↓dAug15, ↓dSet15, ↓dTgN15, ↓dTgW15, ↓dVar16, ↓dAug16, ↓dSet16, ↓dTgN16, ↓dTgW16, ↓dVar17, ↓dAug17, ↓dSet17, ↓dTgN17, ↓dTgW17, ↓dVar18, ↓dAug18, ↓dSet18, ↓dTgN18, ↓dTgW18, ↓dVar19, ↓dAug19, ↓dSet19, ↓dTgN19, ↓dTgW19, ↓dTg_t2, ↓dTg_t3, ↓exGetM, ↓exSumU, nD, plD, rwD, ↓dAdd_tup, ↓dAdd_ref, dIx_tup, dIx_str, dIx_ref, dIx_kl, dListOf_tup, dListOf_kl, dListOf_ref, dLen_tup, dLen_str, dLen_kl, dLen_ref, dTupOf_tup, dTupOf_ref, dSeqI_x, sqX_tup, sqX_ref, sqX_str, dEnumI_x, enX_tup, enX_ref, dSrtSet, dSortA, dIsi2, isT2, Bool.or_true, Bool.true_or, Bool.or_false, Bool.or_self, dReprR, dReprT, dDGet2]
    exact dn0 h
theorem pr__law_day (G : Gv K mg) : Pr P w K mg base "_law_day" 2 ["_law_pool_here"] (S1 fun x M Q => Pool M x ∧ ∀ f M' l, Sub M' M → M f = none → M' f = some (.lst (l.map evD)) → l.length ≤ 12 → (mts l).length ≤ 6 → (∀ e ∈ l, e.ok) → Q (.ref f) M') := by
  refine (pr3 (k := 1) G.d__law_day bi__law_day sc__law_day S1n (fun f cdv A outer s H E hr => (b_cons (s_set 1 sc__law_day.nd (e_op od_add e_int (e_callP (pr__law_draw G) (hr.mono (by decide)) (by rfl) pass0 (a_cons (e_var 0) (a_cons e_int a_nil)))))
      (b_cons (s_set 2 sc__law_day.nd (e_callP (pr__law_draw G) (hr.mono (by decide)) (by rfl) pass0 (a_cons (e_var 0) (a_cons (e_op od_sub e_int (e_var 1)) a_nil))))
      (b_cons (s_set 3 sc__law_day.nd e_int)
      (b_cut (s_if (t_cmp (od_eq (hu3 hr)) (e_callP (pr__law_draw G) (hr.mono (by decide)) (by rfl) pass0 (a_cons (e_var 0) (a_cons e_int a_nil))) e_int) (b_one (s_set 3 sc__law_day.nd e_int)) b_nil)
      (b_cons (s_set 4 sc__law_day.nd e_int)
      (b_cons (s_set 5 sc__law_day.nd (e_lst a_nil))
      (b_cons (s_for PassesOwn.never rfl (i_rng1 (by rfl) G.b_range (a_cons (e_callP (pr__law_draw G) (hr.mono (by decide)) (by rfl) pass0 (a_cons (e_var 0) (a_cons e_int a_nil))) a_nil)) (g_nm 6 sc__law_day.nd)
      (b_cons (s_set 7 sc__law_day.nd (e_callP (pr__law_draw G) (hr.mono (by decide)) (by rfl) pass0 (a_cons (e_var 0) (a_cons (e_var 1) a_nil))))
      (b_one (s_if (PW3.pt (w_and (t_cmp (od_eq (hu3 hr)) (e_callP (pr__law_draw G) (hr.mono (by decide)) (by rfl) pass0 (a_cons (e_var 0) (a_cons e_int a_nil))) e_int) (w_and1 (t_cmp od_lt (e_var 4) (e_var 3))))) (b_cons (s_aug 4 sc__law_day.nd ip_add3 e_int)
      (b_cons (s_set 8 sc__law_day.nd (e_op od_mod (e_callTy cd_int (by rfl) G.b_int rfl (a_cons (e_op od_add (e_op od_add (e_var 7) e_int) (e_callP (pr__law_draw G) (hr.mono (by decide)) (by rfl) pass0 (a_cons (e_var 0) (a_cons (e_op od_sub (e_var 1) e_int) a_nil)))) a_nil)) (e_var 1)))
      (b_one (s_expr (e_lm PySem.F.slot_list_append PySem.F.type_list_append m_append (e_var 5) (a_cons (e_tup (a_cons e_str (a_cons (e_op od_add (e_var 2) (e_var 7)) (a_cons (e_op od_add (e_var 2) (e_var 8)) a_nil)))) a_nil)))))) (b_one (s_expr (e_lm PySem.F.slot_list_append PySem.F.type_list_append m_append (e_var 5) (a_cons (e_tup (a_cons e_str (a_cons (e_op od_add (e_var 2) (e_var 7)) a_nil))) a_nil))))))))
      (b_one (s_ret (e_var 5)))))))))))) ?_
  rintro _ M Q E ⟨x, rfl, hx, h⟩ H rep
  refine ⟨M, rep, fun _ h => h, ?_⟩
  simp only [startD, List.map_cons, List.map_nil, List.length_cons, List.length_nil, Nat.reduceAdd, Nat.reduceSub, Nat.zero_add, List.replicate, List.cons_append, List.nil_append]; simp (config := {failIfUnchanged := false}) only [dC, dOp, dTest, dChain, dAnd, dOr, dNot, dAndV, dOrV, dNotV, dIf, dNil, dCons, dTup, dLst, dCB, d1, dNoPart, dPart, dSl, dCut, dNeg, dSorted, dSum, dAll, dAny, dInt, dAbs, dMax, dMin, dIsi, isT, dNext, dSeq, dBrk, dCont, dNever, dExpr, dRet, dRetN, dIfS, dAsg, dPutI, dI0, dI, dIsN, dNotN, dRng1, dRng2, dRngDn, dZipI, dYes, dCall, dLM, dAppend, dExtend, dReverse, dInsert, dAugI, dRg1, dRg2, dTupRg, dLstRg, dNewK, dNewT, ↓S0_, ↓S1_, ↓S2_, ↓S3_, ↓S4_, ↓S5_, ↓S6_, List.map_cons, List.map_nil, List.length_cons, List.length_nil, List.replicate, List.cons_append, List.nil_append, Nat.reduceAdd, Nat.reduceSub, Nat.zero_add, List.getElem?_cons_zero, List.getElem?_cons_succ, Option.some.injEq, exists_eq_left, exists_eq_left', List.set_cons_zero, List.set_cons_succ, wipeD, D.int.injEq, D.bl.injEq, D.str.injEq, D.ref.injEq, D.tup.injEq, D.ty.injEq, true_and, and_true, forall_const, forall_eq', forall_eq, mt_int, mt_bool, mt_str, mt_tuple, mt_list, mt_dict, st_int_int, st_int_bool, st_int_str, st_int_tuple, st_int_list, st_int_dict, st_bool_int, st_bool_bool, st_bool_str, st_bool_tuple, st_bool_list, st_bool_dict, st_str_int, st_str_bool, st_str_str, st_str_tuple, st_str_list, st_str_dict, st_tuple_int, st_tuple_bool, st_tuple_str, st_tuple_tuple, st_tuple_list, st_tuple_dict, st_list_int, st_list_bool, st_list_str, st_list_tuple, st_list_list, st_list_dict, st_dict_int, st_dict_bool, st_dict_str, st_dict_tuple, st_dict_list, st_dict_dict, eq_self, Bool.true_eq_false, Bool.false_eq_true, false_implies, true_implies, implies_true, decide_eq_true_eq, decide_eq_false_iff_not, Bool.not_true, Bool.not_false, Bool.not_eq_true, Bool.not_eq_false, Bool.not_eq_true', Bool.not_eq_false', not_true_eq_false, not_false_eq_true, false_and, and_false, or_false, false_or, reduceCtorEq, ↓exLSu, ↓exDKu, ↓exDKd, ↓exLSd, ↓exLu, ↓dIxRu, ↓dPutu, ↓dGetAu, ↓dEq_int, ↓dNe_int, ↓dEq_bl, ↓dNe_bl, ↓dEq_str, ↓dNe_str, ↓dAdd_int, ↓exAt10, ↓exIx10, ↓exAt20, ↓exIx20, ↓exAt21, ↓exIx21, ↓exAt30, ↓exIx30, ↓exAt31, ↓exIx31, ↓exAt32, ↓exIx32, ↓exAt40, ↓exIx40, ↓exAt41, ↓exIx41, ↓exAt42, ↓exIx42, ↓exAt43, ↓exIx43, ↓exAt50, ↓exIx50, ↓exAt51, ↓exIx51, ↓exAt52, ↓exIx52, ↓exAt53, ↓exIx53, ↓exAt54, ↓exIx54, ↓exAt60, ↓exIx60, ↓exAt61, ↓exIx61, ↓exAt62, ↓exIx62, ↓exAt63, ↓exIx63, ↓exAt64, ↓exIx64, ↓exAt65, ↓exIx65, up_up, false_or, or_false, ↓exAtM, ↓dFlag_bl, ↓exBl, ↓exInt, ↓exRef, ↓dVar0, ↓dAug0, ↓dSet0, ↓dTgN0, ↓dTgW0, ↓dVar1, ↓dAug1, ↓dSet1, ↓dTgN1, ↓dTgW1, ↓dVar2, ↓dAug2, ↓dSet2, ↓dTgN2, ↓dTgW2, ↓dVar3, ↓dAug3, ↓dSet3, ↓dTgN3, ↓dTgW3, ↓dVar4, ↓dAug4, ↓dSet4, ↓dTgN4, ↓dTgW4, ↓dVar5, ↓dAug5, ↓dSet5, ↓dTgN5, ↓dTgW5, ↓dVar6, ↓dAug6, ↓dSet6, ↓dTgN6, ↓dTgW6, ↓dVar7, ↓dAug7, ↓dSet7, ↓dTgN7, ↓dTgW7, ↓dVar8, ↓dAug8, ↓dSet8, ↓dTgN8, ↓dTgW8, ↓dVar9, ↓dAug9, ↓dSet9, ↓dTgN9, ↓dTgW9, ↓dVar10, ↓dAug10, ↓dSet10, ↓dTgN10, ↓dTgW10, ↓dVar11, ↓dAug11, ↓dSet11, ↓dTgN11, ↓dTgW11, ↓dVar12, ↓dAug12, ↓dSet12, ↓dTgN12, ↓dTgW12, ↓dVar13, ↓dAug13, ↓dSet13, ↓dTgN13, ↓dTgW13, ↓dVar14, ↓dAug14, ↓dSet14, ↓dTgN14, ↓dTgW14, ↓dVar15, ↓dAug15, ↓dSet15, ↓dTgN15, ↓dTgW15, ↓dVar16, ↓dAug16, ↓dSet16, ↓dTgN16, ↓dTgW16, ↓dVar17, ↓dAug17, ↓dSet17, ↓dTgN17, ↓dTgW17, ↓dVar18, ↓dAug18, ↓dSet18, ↓dTgN18, ↓dTgW18, ↓dVar19, ↓dAug19, ↓dSet19, ↓dTgN19, ↓dTgW19, ↓dTg_t2, ↓dTg_t3, ↓exGetM, ↓exSumU, nD, plD, rwD, ↓dAdd_tup, ↓dAdd_ref, dIx_tup, dIx_str, dIx_ref, dIx_kl, dListOf_tup, dListOf_kl, dListOf_ref, dLen_tup, dLen_str, dLen_kl, dLen_ref, dTupOf_tup, dTupOf_ref, dSeqI_x, sqX_tup, sqX_ref, sqX_str, dEnumI_x, enX_tup, enX_ref, dSrtSet, dSortA, dIsi2, isT2, Bool.or_true, Bool.true_or, Bool.or_false, Bool.or_self, dReprR, dReprT, dDGet2]
  refine ⟨4, rfl, hx, by omega, by omega, fun v1 hv1 => ⟨15 - v1, by omega, hx, by omega, by omega, fun low hlow => ⟨fun δ M' => M' = M ∧ ∃ mo : Nat, mo ≤ 6 ∧ δ = [some x, some (.int (2 + (v1 : Int))), some (nD low), some (nD mo), none, none, none, none, none], ?_, ?_⟩⟩⟩
  · simp (config := {failIfUnchanged := false}) only [dC, dOp, dTest, dChain, dAnd, dOr, dNot, dAndV, dOrV, dNotV, dIf, dNil, dCons, dTup, dLst, dCB, d1, dNoPart, dPart, dSl, dCut, dNeg, dSorted, dSum, dAll, dAny, dInt, dAbs, dMax, dMin, dIsi, isT, dNext, dSeq, dBrk, dCont, dNever, dExpr, dRet, dRetN, dIfS, dAsg, dPutI, dI0, dI, dIsN, dNotN, dRng1, dRng2, dRngDn, dZipI, dYes, dCall, dLM, dAppend, dExtend, dReverse, dInsert, dAugI, dRg1, dRg2, dTupRg, dLstRg, dNewK, dNewT, ↓S0_, ↓S1_, ↓S2_, ↓S3_, ↓S4_, ↓S5_, ↓S6_, List.map_cons, List.map_nil, List.length_cons, List.length_nil, List.replicate, List.cons_append, List.nil_append, Nat.reduceAdd, Nat.reduceSub, Nat.zero_add, List.getElem?_cons_zero, List.getElem?_cons_succ, Option.some.injEq, exists_eq_left, exists_eq_left', List.set_cons_zero, List.set_cons_succ, wipeD, D.int.injEq, D.bl.injEq, D.str.injEq, D.ref.injEq, D.tup.injEq, D.ty.injEq, true_and, and_true, forall_const, forall_eq', forall_eq, mt_int, mt_bool, mt_str, mt_tuple, mt_list, mt_dict, st_int_int, st_int_bool, st_int_str, st_int_tuple, st_int_list, st_int_dict, st_bool_int, st_bool_bool, st_bool_str, st_bool_tuple, st_bool_list, st_bool_dict, st_str_int, st_str_bool, st_str_str, st_str_tuple, st_str_list, st_str_dict, st_tuple_int, st_tuple_bool, st_tuple_str, st_tuple_tuple, st_tuple_list, st_tuple_dict, st_list_int, st_list_bool, st_list_str, st_list_tuple, st_list_list, st_list_dict, st_dict_int, st_dict_bool, st_dict_str, st_dict_tuple, st_dict_list, st_dict_dict, eq_self, Bool.true_eq_false, Bool.false_eq_true, false_implies, true_implies, implies_true, decide_eq_true_eq, decide_eq_false_iff_not, Bool.not_true, Bool.not_false, Bool.not_eq_true, Bool.not_eq_false, Bool.not_eq_true', Bool.not_eq_false', not_true_eq_false, not_false_eq_true, false_and, and_false, or_false, false_or, reduceCtorEq, ↓exLSu, ↓exDKu, ↓exDKd, ↓exLSd, ↓exLu, ↓dIxRu, ↓dPutu, ↓dGetAu, ↓dEq_int, ↓dNe_int, ↓dEq_bl, ↓dNe_bl, ↓dEq_str, ↓dNe_str, ↓dAdd_int, ↓exAt10, ↓exIx10, ↓exAt20, ↓exIx20, ↓exAt21, ↓exIx21, ↓exAt30, ↓exIx30, ↓exAt31, ↓exIx31, ↓exAt32, ↓exIx32, ↓exAt40, ↓exIx40, ↓exAt41, ↓exIx41, ↓exAt42, ↓exIx42, ↓exAt43, ↓exIx43, ↓exAt50, ↓exIx50, ↓exAt51, ↓exIx51, ↓exAt52, ↓exIx52, ↓exAt53, ↓exIx53, ↓exAt54, ↓exIx54, ↓exAt60, ↓exIx60, ↓exAt61, ↓exIx61, ↓exAt62, ↓exIx62, ↓exAt63, ↓exIx63, ↓exAt64, ↓exIx64, ↓exAt65, ↓exIx65, up_up, false_or, or_false, ↓exAtM, ↓dFlag_bl, ↓exBl, ↓exInt, ↓exRef, ↓dVar0, ↓dAug0, ↓dSet0, ↓dTgN0, ↓dTgW0, ↓dVar1, ↓dAug1, ↓dSet1, ↓dTgN1, ↓dTgW1, ↓dVar2, ↓dAug2, ↓dSet2, ↓dTgN2, ↓dTgW2, ↓dVar3, ↓dAug3, ↓dSet3, ↓dTgN3, ↓dTgW3, ↓dVar4, ↓dAug4, ↓dSet4, ↓dTgN4, ↓dTgW4, ↓dVar5, ↓dAug5, ↓dSet5, ↓dTgN5, ↓dTgW5, ↓dVar6, ↓dAug6, ↓dSet6, ↓dTgN6, ↓dTgW6, ↓dVar7, ↓dAug7, ↓dSet7, ↓dTgN7, ↓dTgW7, ↓dVar8, ↓dAug8, ↓dSet8, ↓dTgN8, ↓dTgW8, ↓dVar9, ↓dAug9, ↓dSet9, ↓dTgN9, ↓dTgW9, ↓dVar10, ↓dAug10, ↓dSet10, ↓dTgN10, ↓dTgW10, ↓dVar11, ↓dAug11, ↓dSet11, ↓dTgN11, ↓dTgW11, ↓dVar12, ↓dAug12, ↓dSet12, ↓dTgN12, ↓dTgW12, ↓dVar13, ↓dAug13, ↓dSet13, ↓dTgN13, ↓dTgW13, ↓dVar14, ↓dAug14, ↓dSet14, ↓dTgN14, ↓dTgW14, ↓dVar15, ↓dAug15, ↓dSet15, ↓dTgN15, ↓dTgW15, ↓dVar16, ↓dAug16, ↓dSet16, ↓dTgN16, ↓dTgW16, ↓dVar17, ↓dAug17, ↓dSet17, ↓dTgN17, ↓dTgW17, ↓dVar18, ↓dAug18, ↓dSet18, ↓dTgN18, ↓dTgW18, ↓dVar19, ↓dAug19, ↓dSet19, ↓dTgN19, ↓dTgW19, ↓dTg_t2, ↓dTg_t3, ↓exGetM, ↓exSumU, nD, plD, rwD, ↓dAdd_tup, ↓dAdd_ref, dIx_tup, dIx_str, dIx_ref, dIx_kl, dListOf_tup, dListOf_kl, dListOf_ref, dLen_tup, dLen_str, dLen_kl, dLen_ref, dTupOf_tup, dTupOf_ref, dSeqI_x, sqX_tup, sqX_ref, sqX_str, dEnumI_x, enX_tup, enX_ref, dSrtSet, dSortA, dIsi2, isT2, Bool.or_true, Bool.true_or, Bool.or_false, Bool.or_self, dReprR, dReprT, dDGet2]
    exact ⟨12, rfl, hx, by omega, by omega, fun v2 hv2 => ⟨fun _ => ⟨6, by omega, rfl⟩, fun _ => ⟨4, by omega, rfl⟩⟩⟩
  rintro δ M' ⟨rfl, mo, hmo, rfl⟩
  simp (config := {failIfUnchanged := false}) only [dC, dOp, dTest, dChain, dAnd, dOr, dNot, dAndV, dOrV, dNotV, dIf, dNil, dCons, dTup, dLst, dCB, d1, dNoPart, dPart, dSl, dCut, dNeg, dSorted, dSum, dAll, dAny, dInt, dAbs, dMax, dMin, dIsi, isT, dNext, dSeq, dBrk, dCont, dNever, dExpr, dRet, dRetN, dIfS, dAsg, dPutI, dI0, dI, dIsN, dNotN, dRng1, dRng2, dRngDn, dZipI, dYes, dCall, dLM, dAppend, dExtend, dReverse, dInsert, dAugI, dRg1, dRg2, dTupRg, dLstRg, dNewK, dNewT, ↓S0_, ↓S1_, ↓S2_, ↓S3_, ↓S4_, ↓S5_, ↓S6_, List.map_cons, List.map_nil, List.length_cons, List.length_nil, List.replicate, List.cons_append, List.nil_append, Nat.reduceAdd, Nat.reduceSub, Nat.zero_add, List.getElem?_cons_zero, List.getElem?_cons_succ, Option.some.injEq, exists_eq_left, exists_eq_left', List.set_cons_zero, List.set_cons_succ, wipeD, D.int.injEq, D.bl.injEq, D.str.injEq, D.ref.injEq, D.tup.injEq, D.ty.injEq, true_and, and_true, forall_const, forall_eq', forall_eq, mt_int, mt_bool, mt_str, mt_tuple, mt_list, mt_dict, st_int_int, st_int_bool, st_int_str, st_int_tuple, st_int_list, st_int_dict, st_bool_int, st_bool_bool, st_bool_str, st_bool_tuple, st_bool_list, st_bool_dict, st_str_int, st_str_bool, st_str_str, st_str_tuple, st_str_list, st_str_dict, st_tuple_int, st_tuple_bool, st_tuple_str, st_tuple_tuple, st_tuple_list, st_tuple_dict, st_list_int, st_list_bool, st_list_str, st_list_tuple, st_list_list, st_list_dict, st_dict_int, st_dict_bool, st_dict_str, st_dict_tuple, st_dict_list, st_dict_dict, eq_self, Bool.true_eq_false, Bool.false_eq_true, false_implies, true_implies, implies_true, decide_eq_true_eq, decide_eq_false_iff_not, Bool.not_true, Bool.not_false, Bool.not_eq_true, Bool.not_eq_false, Bool.not_eq_true', Bool.not_eq_false', not_true_eq_false, not_false_eq_true, false_and, and_false, or_false, false_or, reduceCtorEq, ↓exLSu, ↓exDKu, ↓exDKd, ↓exLSd, ↓exLu, ↓dIxRu, ↓dPutu, ↓dGetAu, ↓dEq_int, ↓dNe_int, ↓dEq_bl, ↓dNe_bl, ↓dEq_str, ↓dNe_str, ↓dAdd_int, ↓exAt10, ↓exIx10, ↓exAt20, ↓exIx20, ↓exAt21, ↓exIx21, ↓exAt30, ↓exIx30, ↓exAt31, ↓exIx31, ↓exAt32, ↓exIx32, ↓exAt40, ↓exIx40, ↓exAt41, ↓exIx41, ↓exAt42, ↓exIx42, ↓exAt43, ↓exIx43, ↓exAt50, ↓exIx50, ↓exAt51, ↓exIx51, ↓exAt52, ↓exIx52, ↓exAt53, ↓exIx53, ↓exAt54, ↓exIx54, ↓exAt60, ↓exIx60, ↓exAt61, ↓exIx61, ↓exAt62, ↓exIx62, ↓exAt63, ↓exIx63, ↓exAt64, ↓exIx64, ↓exAt65, ↓exIx65, up_up, false_or, or_false, ↓exAtM, ↓dFlag_bl, ↓exBl, ↓exInt, ↓exRef, ↓dVar0, ↓dAug0, ↓dSet0, ↓dTgN0, ↓dTgW0, ↓dVar1, ↓dAug1, ↓dSet1, ↓dTgN1, ↓dTgW1, ↓dVar2, ↓dAug2, ↓dSet2, ↓dTgN2, ↓dTgW2, ↓dVar3, ↓dAug3, ↓dSet3, ↓dTgN3, ↓dTgW3, ↓dVar4, ↓dAug4, ↓dSet4, ↓dTgN4, ↓dTgW4, ↓dVar5, ↓dAug5, ↓dSet5, ↓dTgN5, ↓dTgW5, ↓dVar6, ↓dAug6, ↓dSet6, ↓dTgN6, ↓dTgW6, ↓dVar7, ↓dAug7, ↓dSet7, ↓dTgN7, ↓dTgW7, ↓dVar8, ↓dAug8, ↓dSet8, ↓dTgN8, ↓dTgW8, ↓dVar9, ↓dAug9, ↓dSet9, ↓dTgN9, ↓dTgW9, ↓dVar10, ↓dAug10, ↓dSet10, ↓dTgN10, ↓dTgW10, ↓dVar11, ↓dAug11, ↓dSet11, ↓dTgN11, ↓dTgW11, ↓dVar12, ↓dAug12, ↓dSet12, ↓dTgN12, ↓dTgW12, ↓dVar13, ↓dAug13, ↓dSet13, ↓dTgN13, ↓dTgW13, ↓dVar14, ↓dAug14, ↓dSet14, ↓dTgN14, ↓dTgW14, ↓dVar15, ↓dAug15, ↓dSet15, ↓dTgN15, ↓dTgW15, ↓dVar16, ↓dAug16, ↓dSet16, ↓dTgN16, ↓dTgW16, ↓dVar17, ↓dAug17, ↓dSet17, ↓dTgN17, ↓dTgW17, ↓dVar18, ↓dAug18, ↓dSet18, ↓dTgN18, ↓dTgW18, ↓dVar19, ↓dAug19, ↓dSet19, ↓dTgN19, ↓dTgW19, ↓dTg_t2, ↓dTg_t3, ↓exGetM, ↓exSumU, nD, plD, rwD, ↓dAdd_tup, ↓dAdd_ref, dIx_tup, dIx_str, dIx_ref, dIx_kl, dListOf_tup, dListOf_kl, dListOf_ref, dLen_tup, dLen_str, dLen_kl, dLen_ref, dTupOf_tup, dTupOf_ref, dSeqI_x, sqX_tup, sqX_ref, sqX_str, dEnumI_x, enX_tup, enX_ref, dSrtSet, dSortA, dIsi2, isT2, Bool.or_true, Bool.true_or, Bool.or_false, Bool.or_self, dReprR, dReprT, dDGet2]
  intro f hf
  have s1 : Sub (up M' f (.lst [])) M' := Sub.new hf (by intro _ z; cases z)
  refine dFor_g fun F1 T1 h1 t1 => ?_; simp only [dFor, dC, dOp, dTest, dChain, dAnd, dOr, dNot, dAndV, dOrV, dNotV, dIf, dNil, dCons, dTup, dLst, dCB, d1, dNoPart, dPart, dSl, dCut, dNeg, dSorted, dSum, dAll, dAny, dInt, dAbs, dMax, dMin, dIsi, isT, dNext, dSeq, dBrk, dCont, dNever, dExpr, dRet, dRetN, dIfS, dAsg, dPutI, dI0, dI, dIsN, dNotN, dRng1, dRng2, dRngDn, dZipI, dYes, dCall, dLM, dAppend, dExtend, dReverse, dInsert, dAugI, dRg1, dRg2, dTupRg, dLstRg, dNewK, dNewT, ↓S0_, ↓S1_, ↓S2_, ↓S3_, ↓S4_, ↓S5_, ↓S6_, List.map_cons, List.map_nil, List.length_cons, List.length_nil, List.replicate, List.cons_append, List.nil_append, Nat.reduceAdd, Nat.reduceSub, Nat.zero_add, List.getElem?_cons_zero, List.getElem?_cons_succ, Option.some.injEq, exists_eq_left, exists_eq_left', List.set_cons_zero, List.set_cons_succ, wipeD, D.int.injEq, D.bl.injEq, D.str.injEq, D.ref.injEq, D.tup.injEq, D.ty.injEq, true_and, and_true, forall_const, forall_eq', forall_eq, mt_int, mt_bool, mt_str, mt_tuple, mt_list, mt_dict, st_int_int, st_int_bool, st_int_str, st_int_tuple, st_int_list, st_int_dict, st_bool_int, st_bool_bool, st_bool_str, st_bool_tuple, st_bool_list, st_bool_dict, st_str_int, st_str_bool, st_str_str, st_str_tuple, st_str_list, st_str_dict, st_tuple_int, st_tuple_bool, st_tuple_str, st_tuple_tuple, st_tuple_list, st_tuple_dict, st_list_int, st_list_bool, st_list_str, st_list_tuple, st_list_list, st_list_dict, st_dict_int, st_dict_bool, st_dict_str, st_dict_tuple, st_dict_list, st_dict_dict, eq_self, Bool.true_eq_false, Bool.false_eq_true, false_implies, true_implies, implies_true, decide_eq_true_eq, decide_eq_false_iff_not, Bool.not_true, Bool.not_false, Bool.not_eq_true, Bool.not_eq_false, Bool.not_eq_true', Bool.not_eq_false', not_true_eq_false, not_false_eq_true, false_and, and_false, or_false, false_or, reduceCtorEq, ↓exLSu, ↓exDKu, ↓exDKd, ↓exLSd, ↓exLu, ↓dIxRu, ↓dPutu, ↓dGetAu, ↓dEq_int, ↓dNe_int, ↓dEq_bl, ↓dNe_bl, ↓dEq_str, ↓dNe_str, ↓dAdd_int, ↓exAt10, ↓exIx10, ↓exAt20, ↓exIx20, ↓exAt21, ↓exIx21, ↓exAt30, ↓exIx30, ↓exAt31, ↓exIx31, ↓exAt32, ↓exIx32, ↓exAt40, ↓exIx40, ↓exAt41, ↓exIx41, ↓exAt42, ↓exIx42, ↓exAt43, ↓exIx43, ↓exAt50, ↓exIx50, ↓exAt51, ↓exIx51, ↓exAt52, ↓exIx52, ↓exAt53, ↓exIx53, ↓exAt54, ↓exIx54, ↓exAt60, ↓exIx60, ↓exAt61, ↓exIx61, ↓exAt62, ↓exIx62, ↓exAt63, ↓exIx63, ↓exAt64, ↓exIx64, ↓exAt65, ↓exIx65, up_up, false_or, or_false, ↓exAtM, ↓dFlag_bl, ↓exBl, ↓exInt, ↓exRef, ↓dVar0, ↓dAug0, ↓dSet0, ↓dTgN0, ↓dTgW0, ↓dVar1, ↓dAug1, ↓dSet1, ↓dTgN1, ↓dTgW1, ↓dVar2, ↓dAug2, ↓dSet2, ↓dTgN2, ↓dTgW2, ↓dVar3, ↓dAug3, ↓dSet3, ↓dTgN3, ↓dTgW3, ↓dVar4, ↓dAug4, ↓dSet4, ↓dTgN4, ↓dTgW4, ↓dVar5, ↓dAug5, ↓dSet5, ↓dTgN5, ↓dTgW5, ↓dVar6, ↓dAug6, ↓dSet6, ↓dTgN6, ↓dTgW6, ↓dVar7, ↓dAug7, ↓dSet7, ↓dTgN7, ↓dTgW7, ↓dVar8, ↓dAug8, ↓dSet8, ↓dTgN8, ↓dTgW8, ↓dVar9, ↓dAug9, ↓dSet9, ↓dTgN9, ↓dTgW9, ↓dVar10, ↓dAug10, ↓dSet10, ↓dTgN10, ↓dTgW10, ↓dVar11, ↓dAug11, ↓dSet11, ↓dTgN11, ↓dTgW11, ↓dVar12, ↓dAug12, ↓dSet12, ↓dTgN12, ↓dTgW12, ↓dVar13, ↓dAug13, ↓dSet13, ↓dTgN13, ↓dTgW13, ↓dVar14, ↓dAug14, ↓dSet14, ↓dTgN14, ↓dTgW14, ↓dVar15, ↓dAug15, ↓dSet15, ↓dTgN15, ↓dTgW15, ↓dVar16, ↓dAug16, ↓dSet16, ↓dTgN16, ↓dTgW16, ↓dVar17, ↓dAug17, ↓dSet17, ↓dTgN17, ↓dTgW17, ↓dVar18, ↓dAug18, ↓dSet18, ↓dTgN18, ↓dTgW18, ↓dVar19, ↓dAug19, ↓dSet19, ↓dTgN19, ↓dTgW19, ↓dTg_t2, ↓dTg_t3, ↓exGetM, ↓exSumU, nD, plD, rwD, ↓dAdd_tup, ↓dAdd_ref, dIx_tup, dIx_str, dIx_ref, dIx_kl, dListOf_tup, dListOf_kl, dListOf_ref, dLen_tup, dLen_str, dLen_kl, dLen_ref, dTupOf_tup, dTupOf_ref, dSeqI_x, sqX_tup, sqX_ref, sqX_str, dEnumI_x, enX_tup, enX_ref, dSrtSet, dSortA, dIsi2, isT2, Bool.or_true, Bool.true_or, Bool.or_false, Bool.or_self, dReprR, dReprT, dDGet2]
  refine ⟨13, rfl, hx.sub s1, by omega, by omega, fun many hmany => ?_⟩
  rw [rng0]
  refine ⟨by omega, forN (fun i δ M2 => Sub M2 M' ∧ (∃ l : List Ev, M2 f = some (.lst (l.map evD)) ∧ l.length ≤ i ∧ (∀ e ∈ l, e.ok) ∧ (mts l).length ≤ mo ∧ ∃ c d e, δ = [some x, some (.int (2 + (v1 : Int))), some (nD low), some (nD mo), some (nD (mts l).length), some (.ref f), c, d, e])) ⟨s1, [], up_same, Nat.zero_le _, by simp, Nat.zero_le _, _, _, _, rfl⟩ ?_ ?_⟩
  · rintro i z δ' M2 pre P' hz ⟨s2, l, hl, ll, ok, pt, c, d, e, rfl⟩ hP
    obtain ⟨hi, rfl⟩ := rgx hz
    have hx2 := hx.sub s2
    have lsz : (l.map evD).length < sizeLine := by rw [List.length_map]; exact small1000 (by omega)
    subst t1
    simp (config := {failIfUnchanged := false}) only [dC, dOp, dTest, dChain, dAnd, dOr, dNot, dAndV, dOrV, dNotV, dIf, dNil, dCons, dTup, dLst, dCB, d1, dNoPart, dPart, dSl, dCut, dNeg, dSorted, dSum, dAll, dAny, dInt, dAbs, dMax, dMin, dIsi, isT, dNext, dSeq, dBrk, dCont, dNever, dExpr, dRet, dRetN, dIfS, dAsg, dPutI, dI0, dI, dIsN, dNotN, dRng1, dRng2, dRngDn, dZipI, dYes, dCall, dLM, dAppend, dExtend, dReverse, dInsert, dAugI, dRg1, dRg2, dTupRg, dLstRg, dNewK, dNewT, ↓S0_, ↓S1_, ↓S2_, ↓S3_, ↓S4_, ↓S5_, ↓S6_, List.map_cons, List.map_nil, List.length_cons, List.length_nil, List.replicate, List.cons_append, List.nil_append, Nat.reduceAdd, Nat.reduceSub, Nat.zero_add, List.getElem?_cons_zero, List.getElem?_cons_succ, Option.some.injEq, exists_eq_left, exists_eq_left', List.set_cons_zero, List.set_cons_succ, wipeD, D.int.injEq, D.bl.injEq, D.str.injEq, D.ref.injEq, D.tup.injEq, D.ty.injEq, true_and, and_true, forall_const, forall_eq', forall_eq, mt_int, mt_bool, mt_str, mt_tuple, mt_list, mt_dict, st_int_int, st_int_bool, st_int_str, st_int_tuple, st_int_list, st_int_dict, st_bool_int, st_bool_bool, st_bool_str, st_bool_tuple, st_bool_list, st_bool_dict, st_str_int, st_str_bool, st_str_str, st_str_tuple, st_str_list, st_str_dict, st_tuple_int, st_tuple_bool, st_tuple_str, st_tuple_tuple, st_tuple_list, st_tuple_dict, st_list_int, st_list_bool, st_list_str, st_list_tuple, st_list_list, st_list_dict, st_dict_int, st_dict_bool, st_dict_str, st_dict_tuple, st_dict_list, st_dict_dict, eq_self, Bool.true_eq_false, Bool.false_eq_true, false_implies, true_implies, implies_true, decide_eq_true_eq, decide_eq_false_iff_not, Bool.not_true, Bool.not_false, Bool.not_eq_true, Bool.not_eq_false, Bool.not_eq_true', Bool.not_eq_false', not_true_eq_false, not_false_eq_true, false_and, and_false, or_false, false_or, reduceCtorEq, ↓exLSu, ↓exDKu, ↓exDKd, ↓exLSd, ↓exLu, ↓dIxRu, ↓dPutu, ↓dGetAu, ↓dEq_int, ↓dNe_int, ↓dEq_bl, ↓dNe_bl, ↓dEq_str, ↓dNe_str, ↓dAdd_int, ↓exAt10, ↓exIx10, ↓exAt20, ↓exIx20, ↓exAt21, ↓exIx21, ↓exAt30, ↓exIx30, ↓exAt31, ↓exIx31, ↓exAt32, ↓exIx32, ↓exAt40, ↓exIx40, ↓exAt41, ↓exIx41, ↓exAt42, ↓exIx42, ↓exAt43, ↓exIx43, ↓exAt50, ↓exIx50, ↓exAt51, ↓exIx51, ↓exAt52, ↓exIx52, ↓exAt53, ↓exIx53, ↓exAt54, ↓exIx54, ↓exAt60, ↓exIx60, ↓exAt61, ↓exIx61, ↓exAt62, ↓exIx62, ↓exAt63, ↓exIx63, ↓exAt64, ↓exIx64, ↓exAt65, ↓exIx65, up_up, false_or, or_false, ↓exAtM, ↓dFlag_bl, ↓exBl, ↓exInt, ↓exRef, ↓dVar0, ↓dAug0, ↓dSet0, ↓dTgN0, ↓dTgW0, ↓dVar1, ↓dAug1, ↓dSet1, ↓dTgN1, ↓dTgW1, ↓dVar2, ↓dAug2, ↓dSet2, ↓dTgN2, ↓dTgW2, ↓dVar3, ↓dAug3, ↓dSet3, ↓dTgN3, ↓dTgW3, ↓dVar4, ↓dAug4, ↓dSet4, ↓dTgN4, ↓dTgW4, ↓dVar5, ↓dAug5, ↓dSet5, ↓dTgN5, ↓dTgW5, ↓dVar6, ↓dAug6, ↓dSet6, ↓dTgN6, ↓dTgW6, ↓dVar7, ↓dAug7, ↓dSet7, ↓dTgN7, ↓dTgW7, ↓dVar8, ↓dAug8, ↓dSet8, ↓dTgN8, ↓dTgW8, ↓dVar9, ↓dAug9, ↓dSet9, ↓dTgN9, ↓dTgW9, ↓dVar10, ↓dAug10, ↓dSet10, ↓dTgN10, ↓dTgW10, ↓dVar11, ↓dAug11, ↓dSet11, ↓dTgN11, ↓dTgW11, ↓dVar12, ↓dAug12, ↓dSet12, ↓dTgN12, ↓dTgW12, ↓dVar13, ↓dAug13, ↓dSet13, ↓dTgN13, ↓dTgW13, ↓dVar14, ↓dAug14, ↓dSet14, ↓dTgN14, ↓dTgW14, ↓dVar15, ↓dAug15, ↓dSet15, ↓dTgN15, ↓dTgW15, ↓dVar16, ↓dAug16, ↓dSet16, ↓dTgN16, ↓dTgW16, ↓dVar17, ↓dAug17, ↓dSet17, ↓dTgN17, ↓dTgW17, ↓dVar18, ↓dAug18, ↓dSet18, ↓dTgN18, ↓dTgW18, ↓dVar19, ↓dAug19, ↓dSet19, ↓dTgN19, ↓dTgW19, ↓dTg_t2, ↓dTg_t3, ↓exGetM, ↓exSumU, nD, plD, rwD, ↓dAdd_tup, ↓dAdd_ref, dIx_tup, dIx_str, dIx_ref, dIx_kl, dListOf_tup, dListOf_kl, dListOf_ref, dLen_tup, dLen_str, dLen_kl, dLen_ref, dTupOf_tup, dTupOf_ref, dSeqI_x, sqX_tup, sqX_ref, sqX_str, dEnumI_x, enX_tup, enX_ref, dSrtSet, dSortA, dIsi2, isT2, Bool.or_true, Bool.true_or, Bool.or_false, Bool.or_self, dReprR, dReprT, dDGet2]
    refine ⟨2 + v1, by rw [Int.natCast_add]; rfl, hx2, by omega, by omega, fun hand hh => ⟨2, rfl, hx2, by omega, by omega, fun v3 hv3 => ?_⟩⟩
    have put : ∀ e2, ∃ M4, T3.Sub (up M2 f (.lst (l.map evD ++ [evD (.put (low + hand))]))) M4 ∧ P' (pre ++ [nD i]) [some x, some (.int (2 + (v1 : Int))), some (nD low), some (nD mo), some (nD (mts l).length), some (.ref f), some (nD i), some (nD hand), e2] M4 := fun e2 => by
      have hp : mts (l ++ [.put (low + hand)]) = mts l := by rw [mts_snoc]; rfl
      refine sb0 (hP _ _ ⟨sub_at s2 hf (by intro _ z; cases z), l ++ [.put (low + hand)], by rw [up_same, List.map_append]; rfl, by rw [List.length_append, List.length_singleton]; omega, fun e he => ?_, by rw [hp]; exact pt, some (nD i), some (nD hand), e2, by rw [hp]⟩)
      rcases List.mem_append.mp he with z | z
      · exact ok e z
      · rw [List.mem_singleton] at z; subst z
        show low + hand < 16
        omega
    refine ⟨fun _ => ⟨fun lt => ⟨1 + v1, by omega, hx2, by omega, by omega, fun v hv => ⟨by omega, ⟨f, _, rfl, .inl hl⟩, _, hl, lsz, ?_⟩⟩, fun _ => ⟨⟨f, _, rfl, .inl hl⟩, _, hl, lsz, by rw [evP]; exact put e⟩⟩, fun _ => ⟨⟨f, _, rfl, .inl hl⟩, _, hl, lsz, by rw [evP]; exact put e⟩⟩
    have em : ((hand : Int) + 1 + (v : Int)) % (2 + (v1 : Int)) = (((hand + 1 + v) % (2 + v1) : Nat) : Int) := by
      rw [Int.natCast_emod, Int.natCast_add, Int.natCast_add, Int.natCast_add]; rfl
    obtain ⟨o1, o2⟩ := other_ne (n := 2 + v1) (v := v) hh (by omega)
    rw [em]
    generalize (hand + 1 + v) % (2 + v1) = o at *
    rw [evM]
    have hp : (mts (l ++ [.meet (low + hand) (low + o)])).length = (mts l).length + 1 := by
      rw [mts_snoc, if_neg (by simp [Ev.isPut]), List.length_append]; rfl
    refine sb0 (hP _ _ ⟨sub_at s2 hf (by intro _ z; cases z), l ++ [.meet (low + hand) (low + o)], by rw [up_same, List.map_append]; rfl, by rw [List.length_append, List.length_singleton]; omega, fun e he => ?_, by omega, some (nD i), some (nD hand), some (nD o), by rw [hp]; rfl⟩)
    rcases List.mem_append.mp he with z | z
    · exact ok e z
    · rw [List.mem_singleton] at z; subst z
      show low + hand < 16 ∧ low + o < 16 ∧ low + hand ≠ low + o
      omega
  · rintro δ' M2 ⟨s2, l, hl, ll, ok, pt, c, d, e, rfl⟩
    rw [List.length_map, List.length_range] at ll
    rw [h1]
    simp (config := {failIfUnchanged := false}) only [dC, dOp, dTest, dChain, dAnd, dOr, dNot, dAndV, dOrV, dNotV, dIf, dNil, dCons, dTup, dLst, dCB, d1, dNoPart, dPart, dSl, dCut, dNeg, dSorted, dSum, dAll, dAny, dInt, dAbs, dMax, dMin, dIsi, isT, dNext, dSeq, dBrk, dCont, dNever, dExpr, dRet, dRetN, dIfS, dAsg, dPutI, dI0, dI, dIsN, dNotN, dRng1, dRng2, dRngDn, dZipI, dYes, dCall, dLM, dAppend, dExtend, dReverse, dInsert, dAugI, dRg1, dRg2, dTupRg, dLstRg, dNewK, dNewT, ↓S0_, ↓S1_, ↓S2_, ↓S3_, ↓S4_, ↓S5_, ↓S6_, List.map_cons, List.map_nil, List.length_cons, List.length_nil, List.replicate, List.cons_append, List.nil_append, Nat.reduceAdd, Nat.reduceSub, Nat.zero_add, List.getElem?_cons_zero, List.getElem?_cons_succ, Option.some.injEq, exists_eq_left, exists_eq_left', List.set_cons_zero, List.set_cons_succ, wipeD, D.int.injEq, D.bl.injEq, D.str.injEq, D.ref.injEq, D.tup.injEq, D.ty.injEq, true_and, and_true, forall_const, forall_eq', forall_eq, mt_int, mt_bool, mt_str, mt_tuple, mt_list, mt_dict, st_int_int, st_int_bool, st_int_str, st_int_tuple, st_int_list, st_int_dict, st_bool_int, st_bool_bool, st_bool_str, st_bool_tuple, st_bool_list, st_bool_dict, st_str_int, st_str_bool, st_str_str, st_str_tuple, st_str_list, st_str_dict, st_tuple_int, st_tuple_bool, st_tuple_str, st_tuple_tuple, st_tuple_list, st_tuple_dict, st_list_int, st_list_bool, st_list_str, st_list_tuple, st_list_list, st_list_dict, st_dict_int, st_dict_bool, st_dict_str, st_dict_tuple, st_dict_list, st_dict_dict, eq_self, Bool.true_eq_false, Bool.false_eq_true, false_implies, true_implies, implies_true, decide_eq_true_eq, decide_eq_false_iff_not, Bool.not_true, Bool.not_false, Bool.not_eq_true, Bool.not_eq_false, Bool.not_eq_true', Bool.not_eq_false', not_true_eq_false, not_false_eq_true, false_and, and_false, or_false, false_or, reduceCtorEq, ↓exLSu, ↓exDKu, ↓exDKd, ↓exLSd, ↓exLu, ↓dIxRu, ↓dPutu, ↓dGetAu, ↓dEq_int, ↓dNe_int, ↓dEq_bl, ↓dNe_bl, ↓dEq_str, ↓dNe_str, ↓dAdd_int, ↓exAt10, ↓exIx10, ↓exAt20, ↓exIx20, ↓exAt21, ↓exIx21, ↓exAt30, ↓exIx30, ↓exAt31, ↓exIx31, ↓exAt32, ↓exIx32, ↓exAt40, ↓exIx40, ↓exAt41, ↓exIx41, ↓exAt42, ↓exIx42, ↓exAt43, ↓exIx43, ↓exAt50, ↓exIx50, ↓exAt51, ↓exIx51, ↓exAt52, ↓exIx52, ↓exAt53, ↓exIx53, ↓exAt54, ↓exIx54, ↓exAt60, ↓exIx60, ↓exAt61, ↓exIx61, ↓exAt62, ↓exIx62, ↓exAt63, ↓exIx63, ↓exAt64, ↓exIx64, ↓exAt65, ↓exIx65, up_up, false_or, or_false, ↓exAtM, ↓dFlag_bl, ↓exBl, ↓exInt, ↓exRef, ↓dVar0, ↓dAug0, ↓dSet0, ↓dTgN0, ↓dTgW0, ↓dVar1, ↓dAug1, ↓dSet1, ↓dTgN1, ↓dTgW1, ↓dVar2, ↓dAug2, ↓dSet2, ↓dTgN2, ↓dTgW2, ↓dVar3, ↓dAug3, ↓dSet3, ↓dTgN3, ↓dTgW3, ↓dVar4, ↓dAug4, ↓dSet4, ↓dTgN4, ↓dTgW4, ↓dVar5, ↓dAug5, ↓dSet5, ↓dTgN5, ↓dTgW5, ↓dVar6, ↓dAug6, ↓dSet6, ↓dTgN6, ↓dTgW6, ↓dVar7, ↓dAug7, ↓dSet7, ↓dTgN7, ↓dTgW7, ↓dVar8, ↓dAug8, ↓dSet8, ↓dTgN8, ↓dTgW8, ↓dVar9, ↓dAug9, ↓dSet9, ↓dTgN9, ↓dTgW9, ↓dVar10, ↓dAug10, ↓dSet10, ↓dTgN10, ↓dTgW10, ↓dVar11, ↓dAug11, ↓dSet11, ↓dTgN11, ↓dTgW11, ↓dVar12, ↓dAug12, ↓dSet12, ↓dTgN12, ↓dTgW12, ↓dVar13, ↓dAug13, ↓dSet13, ↓dTgN13, ↓dTgW13, ↓dVar14, ↓dAug14, ↓dSet14, ↓dTgN14, ↓dTgW14, ↓dVar15, ↓dAug15, ↓dSet15, ↓dTgN15, ↓dTgW15, ↓dVar16, ↓dAug16, ↓dSet16, ↓dTgN16, ↓dTgW16, ↓dVar17, ↓dAug17, ↓dSet17, ↓dTgN17, ↓dTgW17, ↓dVar18, ↓dAug18, ↓dSet18, ↓dTgN18, ↓dTgW18, ↓dVar19, ↓dAug19, ↓dSet19, ↓dTgN19, ↓dTgW19, ↓dTg_t2, ↓dTg_t3, ↓exGetM, ↓exSumU, nD, plD, rwD, ↓dAdd_tup, ↓dAdd_ref, dIx_tup, dIx_str, dIx_ref, dIx_kl, dListOf_tup, dListOf_kl, dListOf_ref, dLen_tup, dLen_str, dLen_kl, dLen_ref, dTupOf_tup, dTupOf_ref, dSeqI_x, sqX_tup, sqX_ref, sqX_str, dEnumI_x, enX_tup, enX_ref, dSrtSet, dSortA, dIsi2, isT2, Bool.or_true, Bool.true_or, Bool.or_false, Bool.or_self, dReprR, dReprT, dDGet2]
    exact dn0 (h f M2 l s2 hf hl (by omega) (by omega) ok)
theorem pr_left_out (G : Gv K mg) : Pr P w K mg base "left_out" 7 ["day", "most"] (S2 fun x y M Q => ∃ l m, DayO M x l ∧ y = .int m ∧ 0 ≤ m ∧ (mts l).length ≤ 10 ∧ Q (loD (Lo l m)) M) := by
  refine (pr3 (k := 6) G.d_left_out bi_left_out sc_left_out S2n (fun f cdv A outer s H E hr => (b_cons (s_expr (e_callP (pr_check_day G) (hr.mono (by decide)) (by rfl) pass0 (a_cons (e_var 0) a_nil)))
      (b_cons (s_if (PW3.pt (w_or (t_not (t_val (e_callP (pr_is_integer G) (hr.mono (by decide)) (by rfl) pass0 (a_cons (e_var 1) a_nil)))) (w_or1 (t_cmp od_lt (e_var 1) e_int)))) (b_one s_never) b_nil)
      (b_cons (s_setLc 2 (own := [("index", 5), ("event", 6)]) rfl sc_left_out.nd (sw_true rfl rfl rfl (by decide +kernel)) (i_enum (by rfl) G.b_enumerate (a_cons (e_var 0) a_nil)) (blkOk_by (by rfl)) (fun _ _ _ _ _ => (g_t2 rfl (g_nm 5 sc_left_out.nd) (g_nm 6 sc_left_out.nd))) (fun _ _ _ _ _ => (ts_one (t_cmp (od_eq (hu3 hr)) (e_ix (ixd (hu_of hr)) (e_var 6) e_int) e_str))) (fun _ _ _ _ _ => (e_var 5)))
      (b_cons (s_expr (e_callP (pr_check_most G) (hr.mono (by decide)) (by rfl) pass0 (a_cons (e_callB cd_len (by rfl) G.b_len rfl (a_cons (e_var 2) a_nil)) (a_cons (e_gintP G.c_MOST_MEETS (by rfl)) a_nil))))
      (b_cons (s_for PassesOwn.never rfl (i_rng1 (by rfl) G.b_range (a_cons (e_op od_add (e_callB cd_len (by rfl) G.b_len rfl (a_cons (e_var 2) a_nil)) e_int) a_nil)) (g_nm 3 sc_left_out.nd)
      (b_one (s_for PassesOwn.never rfl (i_seq (e_callP (pr_choices G) (hr.mono (by decide)) (by rfl) pass0 (a_cons (e_var 2) (a_cons (e_var 3) a_nil)))) (g_nm 4 sc_left_out.nd)
      (b_one (s_if (t_cmp od_le (e_callP (pr_many_chains G) (hr.mono (by decide)) (by rfl) pass0 (a_cons (e_callP (pr_plan_of_day G) (hr.mono (by decide)) (by rfl) pass0 (a_cons (e_callP (pr_without G) (hr.mono (by decide)) (by rfl) pass0 (a_cons (e_var 0) (a_cons (e_var 4) a_nil))) a_nil)) a_nil)) (e_var 1)) (b_one (s_ret (e_var 4))) b_nil)))))
      (b_one (s_ret e_non))))))))) ?_
  rintro _ M Q E ⟨x, _, rfl, l, m, hd, rfl, hm, hc, h⟩ H rep
  refine ⟨M, rep, fun _ h => h, ?_⟩
  have h60 := hd.len
  simp only [startD, List.map_cons, List.map_nil, List.length_cons, List.length_nil, Nat.reduceAdd, Nat.reduceSub, Nat.zero_add, List.replicate, List.cons_append, List.nil_append]; simp (config := {failIfUnchanged := false}) only [dC, dOp, dTest, dChain, dAnd, dOr, dNot, dAndV, dOrV, dNotV, dIf, dNil, dCons, dTup, dLst, dCB, d1, dNoPart, dPart, dSl, dCut, dNeg, dSorted, dSum, dAll, dAny, dInt, dAbs, dMax, dMin, dIsi, isT, dNext, dSeq, dBrk, dCont, dNever, dExpr, dRet, dRetN, dIfS, dAsg, dPutI, dI0, dI, dIsN, dNotN, dRng1, dRng2, dRngDn, dZipI, dYes, dCall, dLM, dAppend, dExtend, dReverse, dInsert, dAugI, dRg1, dRg2, dTupRg, dLstRg, dNewK, dNewT, ↓S0_, ↓S1_, ↓S2_, ↓S3_, ↓S4_, ↓S5_, ↓S6_, List.map_cons, List.map_nil, List.length_cons, List.length_nil, List.replicate, List.cons_append, List.nil_append, Nat.reduceAdd, Nat.reduceSub, Nat.zero_add, List.getElem?_cons_zero, List.getElem?_cons_succ, Option.some.injEq, exists_eq_left, exists_eq_left', List.set_cons_zero, List.set_cons_succ, wipeD, D.int.injEq, D.bl.injEq, D.str.injEq, D.ref.injEq, D.tup.injEq, D.ty.injEq, true_and, and_true, forall_const, forall_eq', forall_eq, mt_int, mt_bool, mt_str, mt_tuple, mt_list, mt_dict, st_int_int, st_int_bool, st_int_str, st_int_tuple, st_int_list, st_int_dict, st_bool_int, st_bool_bool, st_bool_str, st_bool_tuple, st_bool_list, st_bool_dict, st_str_int, st_str_bool, st_str_str, st_str_tuple, st_str_list, st_str_dict, st_tuple_int, st_tuple_bool, st_tuple_str, st_tuple_tuple, st_tuple_list, st_tuple_dict, st_list_int, st_list_bool, st_list_str, st_list_tuple, st_list_list, st_list_dict, st_dict_int, st_dict_bool, st_dict_str, st_dict_tuple, st_dict_list, st_dict_dict, eq_self, Bool.true_eq_false, Bool.false_eq_true, false_implies, true_implies, implies_true, decide_eq_true_eq, decide_eq_false_iff_not, Bool.not_true, Bool.not_false, Bool.not_eq_true, Bool.not_eq_false, Bool.not_eq_true', Bool.not_eq_false', not_true_eq_false, not_false_eq_true, false_and, and_false, or_false, false_or, reduceCtorEq, ↓exLSu, ↓exDKu, ↓exDKd, ↓exLSd, ↓exLu, ↓dIxRu, ↓dPutu, ↓dGetAu, ↓dEq_int, ↓dNe_int, ↓dEq_bl, ↓dNe_bl, ↓dEq_str, ↓dNe_str, ↓dAdd_int, ↓exAt10, ↓exIx10, ↓exAt20, ↓exIx20, ↓exAt21, ↓exIx21, ↓exAt30, ↓exIx30, ↓exAt31, ↓exIx31, ↓exAt32, ↓exIx32, ↓exAt40, ↓exIx40, ↓exAt41, ↓exIx41, ↓exAt42, ↓exIx42, ↓exAt43, ↓exIx43, ↓exAt50, ↓exIx50, ↓exAt51, ↓exIx51, ↓exAt52, ↓exIx52, ↓exAt53, ↓exIx53, ↓exAt54, ↓exIx54, ↓exAt60, ↓exIx60, ↓exAt61, ↓exIx61, ↓exAt62, ↓exIx62, ↓exAt63, ↓exIx63, ↓exAt64, ↓exIx64, ↓exAt65, ↓exIx65, up_up, false_or, or_false, ↓exAtM, ↓dFlag_bl, ↓exBl, ↓exInt, ↓exRef, ↓dVar0, ↓dAug0, ↓dSet0, ↓dTgN0, ↓dTgW0, ↓dVar1, ↓dAug1, ↓dSet1, ↓dTgN1, ↓dTgW1, ↓dVar2, ↓dAug2, ↓dSet2, ↓dTgN2, ↓dTgW2, ↓dVar3, ↓dAug3, ↓dSet3, ↓dTgN3, ↓dTgW3, ↓dVar4, ↓dAug4, ↓dSet4, ↓dTgN4, ↓dTgW4, ↓dVar5, ↓dAug5, ↓dSet5, ↓dTgN5, ↓dTgW5, ↓dVar6, ↓dAug6, ↓dSet6, ↓dTgN6, ↓dTgW6, ↓dVar7, ↓dAug7, ↓dSet7, ↓dTgN7, ↓dTgW7, ↓dVar8, ↓dAug8, ↓dSet8, ↓dTgN8, ↓dTgW8, ↓dVar9, ↓dAug9, ↓dSet9, ↓dTgN9, ↓dTgW9, ↓dVar10, ↓dAug10, ↓dSet10, ↓dTgN10, ↓dTgW10, ↓dVar11, ↓dAug11, ↓dSet11, ↓dTgN11, ↓dTgW11, ↓dVar12, ↓dAug12, ↓dSet12, ↓dTgN12, ↓dTgW12, ↓dVar13, ↓dAug13, ↓dSet13, ↓dTgN13, ↓dTgW13, ↓dVar14, ↓dAug14, ↓dSet14, ↓dTgN14, ↓dTgW14, ↓dVar15, ↓dAug15, ↓dSet15, ↓dTgN15, ↓dTgW15, ↓dVar16, ↓dAug16, ↓dSet16, ↓dTgN16, ↓dTgW16, ↓dVar17, ↓dAug17, ↓dSet17, ↓dTgN17, ↓dTgW17, ↓dVar18, ↓dAug18, ↓dSet18, ↓dTgN18, ↓dTgW18, ↓dVar19, ↓dAug19, ↓dSet19, ↓dTgN19, ↓dTgW19, ↓dTg_t2, ↓dTg_t3, ↓exGetM, ↓exSumU, nD, plD, rwD, ↓dAdd_tup, ↓dAdd_ref, dIx_tup, dIx_str, dIx_ref, dIx_kl, dListOf_tup, dListOf_kl, dListOf_ref, dLen_tup, dLen_str, dLen_kl, dLen_ref, dTupOf_tup, dTupOf_ref, dSeqI_x, sqX_tup, sqX_ref, sqX_str, dEnumI_x, enX_tup, enX_ref, dSrtSet, dSortA, dIsi2, isT2, Bool.or_true, Bool.true_or, Bool.or_false, Bool.or_self, dReprR, dReprT, dDGet2]
  refine ⟨l, hd, fun z => absurd z (by omega), fun _ => ?_⟩
  refine dLc_g fun F1 T1 U1 h1 t1 u1 => ?_; simp only [dLc, dC, dOp, dTest, dChain, dAnd, dOr, dNot, dAndV, dOrV, dNotV, dIf, dNil, dCons, dTup, dLst, dCB, d1, dNoPart, dPart, dSl, dCut, dNeg, dSorted, dSum, dAll, dAny, dInt, dAbs, dMax, dMin, dIsi, isT, dNext, dSeq, dBrk, dCont, dNever, dExpr, dRet, dRetN, dIfS, dAsg, dPutI, dI0, dI, dIsN, dNotN, dRng1, dRng2, dRngDn, dZipI, dYes, dCall, dLM, dAppend, dExtend, dReverse, dInsert, dAugI, dRg1, dRg2, dTupRg, dLstRg, dNewK, dNewT, ↓S0_, ↓S1_, ↓S2_, ↓S3_, ↓S4_, ↓S5_, ↓S6_, List.map_cons, List.map_nil, List.length_cons, List.length_nil, List.replicate, List.cons_append, List.nil_append, Nat.reduceAdd, Nat.reduceSub, Nat.zero_add, List.getElem?_cons_zero, List.getElem?_cons_succ, Option.some.injEq, exists_eq_left, exists_eq_left', List.set_cons_zero, List.set_cons_succ, wipeD, D.int.injEq, D.bl.injEq, D.str.injEq, D.ref.injEq, D.tup.injEq, D.ty.injEq, true_and, and_true, forall_const, forall_eq', forall_eq, mt_int, mt_bool, mt_str, mt_tuple, mt_list, mt_dict, st_int_int, st_int_bool, st_int_str, st_int_tuple, st_int_list, st_int_dict, st_bool_int, st_bool_bool, st_bool_str, st_bool_tuple, st_bool_list, st_bool_dict, st_str_int, st_str_bool, st_str_str, st_str_tuple, st_str_list, st_str_dict, st_tuple_int, st_tuple_bool, st_tuple_str, st_tuple_tuple, st_tuple_list, st_tuple_dict, st_list_int, st_list_bool, st_list_str, st_list_tuple, st_list_list, st_list_dict, st_dict_int, st_dict_bool, st_dict_str, st_dict_tuple, st_dict_list, st_dict_dict, eq_self, Bool.true_eq_false, Bool.false_eq_true, false_implies, true_implies, implies_true, decide_eq_true_eq, decide_eq_false_iff_not, Bool.not_true, Bool.not_false, Bool.not_eq_true, Bool.not_eq_false, Bool.not_eq_true', Bool.not_eq_false', not_true_eq_false, not_false_eq_true, false_and, and_false, or_false, false_or, reduceCtorEq, ↓exLSu, ↓exDKu, ↓exDKd, ↓exLSd, ↓exLu, ↓dIxRu, ↓dPutu, ↓dGetAu, ↓dEq_int, ↓dNe_int, ↓dEq_bl, ↓dNe_bl, ↓dEq_str, ↓dNe_str, ↓dAdd_int, ↓exAt10, ↓exIx10, ↓exAt20, ↓exIx20, ↓exAt21, ↓exIx21, ↓exAt30, ↓exIx30, ↓exAt31, ↓exIx31, ↓exAt32, ↓exIx32, ↓exAt40, ↓exIx40, ↓exAt41, ↓exIx41, ↓exAt42, ↓exIx42, ↓exAt43, ↓exIx43, ↓exAt50, ↓exIx50, ↓exAt51, ↓exIx51, ↓exAt52, ↓exIx52, ↓exAt53, ↓exIx53, ↓exAt54, ↓exIx54, ↓exAt60, ↓exIx60, ↓exAt61, ↓exIx61, ↓exAt62, ↓exIx62, ↓exAt63, ↓exIx63, ↓exAt64, ↓exIx64, ↓exAt65, ↓exIx65, up_up, false_or, or_false, ↓exAtM, ↓dFlag_bl, ↓exBl, ↓exInt, ↓exRef, ↓dVar0, ↓dAug0, ↓dSet0, ↓dTgN0, ↓dTgW0, ↓dVar1, ↓dAug1, ↓dSet1, ↓dTgN1, ↓dTgW1, ↓dVar2, ↓dAug2, ↓dSet2, ↓dTgN2, ↓dTgW2, ↓dVar3, ↓dAug3, ↓dSet3, ↓dTgN3, ↓dTgW3, ↓dVar4, ↓dAug4, ↓dSet4, ↓dTgN4, ↓dTgW4, ↓dVar5, ↓dAug5, ↓dSet5, ↓dTgN5, ↓dTgW5, ↓dVar6, ↓dAug6, ↓dSet6, ↓dTgN6, ↓dTgW6, ↓dVar7, ↓dAug7, ↓dSet7, ↓dTgN7, ↓dTgW7, ↓dVar8, ↓dAug8, ↓dSet8, ↓dTgN8, ↓dTgW8, ↓dVar9, ↓dAug9, ↓dSet9, ↓dTgN9, ↓dTgW9, ↓dVar10, ↓dAug10, ↓dSet10, ↓dTgN10, ↓dTgW10, ↓dVar11, ↓dAug11, ↓dSet11, ↓dTgN11, ↓dTgW11, ↓dVar12, ↓dAug12, ↓dSet12, ↓dTgN12, ↓dTgW12, ↓dVar13, ↓dAug13, ↓dSet13, ↓dTgN13, ↓dTgW13, ↓dVar14, ↓dAug14, ↓dSet14, ↓dTgN14, ↓dTgW14, ↓dVar15, ↓dAug15, ↓dSet15, ↓dTgN15, ↓dTgW15, ↓dVar16, ↓dAug16, ↓dSet16, ↓dTgN16, ↓dTgW16, ↓dVar17, ↓dAug17, ↓dSet17, ↓dTgN17, ↓dTgW17, ↓dVar18, ↓dAug18, ↓dSet18, ↓dTgN18, ↓dTgW18, ↓dVar19, ↓dAug19, ↓dSet19, ↓dTgN19, ↓dTgW19, ↓dTg_t2, ↓dTg_t3, ↓exGetM, ↓exSumU, nD, plD, rwD, ↓dAdd_tup, ↓dAdd_ref, dIx_tup, dIx_str, dIx_ref, dIx_kl, dListOf_tup, dListOf_kl, dListOf_ref, dLen_tup, dLen_str, dLen_kl, dLen_ref, dTupOf_tup, dTupOf_ref, dSeqI_x, sqX_tup, sqX_ref, sqX_str, dEnumI_x, enX_tup, enX_ref, dSrtSet, dSortA, dIsi2, isT2, Bool.or_true, Bool.true_or, Bool.or_false, Bool.or_self, dReprR, dReprT, dDGet2]
  refine enX_of hd.sq Sub.refl fun g hg => ⟨by rw [enumD_len, List.length_map]; exact Nat.le_of_lt (small1000 (by omega)), lcF (fun p : Ev × Nat => D.tup [.int (p.2 : Int), evD p.1]) (fun p => nD p.2) (fun p => !p.1.isPut) l.zipIdx (zip_enum l) (fun l1 p t pre acc P' e1 y1 y2 => ⟨hg _ Sub.refl, ?_⟩) ⟨hg _ Sub.refl, fun q hq => ?_⟩⟩
  · obtain ⟨e, i⟩ := p
    subst t1; subst u1
    cases e with
    | put a =>
      simp (config := {failIfUnchanged := false}) only [dC, dOp, dTest, dChain, dAnd, dOr, dNot, dAndV, dOrV, dNotV, dIf, dNil, dCons, dTup, dLst, dCB, d1, dNoPart, dPart, dSl, dCut, dNeg, dSorted, dSum, dAll, dAny, dInt, dAbs, dMax, dMin, dIsi, isT, dNext, dSeq, dBrk, dCont, dNever, dExpr, dRet, dRetN, dIfS, dAsg, dPutI, dI0, dI, dIsN, dNotN, dRng1, dRng2, dRngDn, dZipI, dYes, dCall, dLM, dAppend, dExtend, dReverse, dInsert, dAugI, dRg1, dRg2, dTupRg, dLstRg, dNewK, dNewT, ↓S0_, ↓S1_, ↓S2_, ↓S3_, ↓S4_, ↓S5_, ↓S6_, List.map_cons, List.map_nil, List.length_cons, List.length_nil, List.replicate, List.cons_append, List.nil_append, Nat.reduceAdd, Nat.reduceSub, Nat.zero_add, List.getElem?_cons_zero, List.getElem?_cons_succ, Option.some.injEq, exists_eq_left, exists_eq_left', List.set_cons_zero, List.set_cons_succ, wipeD, D.int.injEq, D.bl.injEq, D.str.injEq, D.ref.injEq, D.tup.injEq, D.ty.injEq, true_and, and_true, forall_const, forall_eq', forall_eq, mt_int, mt_bool, mt_str, mt_tuple, mt_list, mt_dict, st_int_int, st_int_bool, st_int_str, st_int_tuple, st_int_list, st_int_dict, st_bool_int, st_bool_bool, st_bool_str, st_bool_tuple, st_bool_list, st_bool_dict, st_str_int, st_str_bool, st_str_str, st_str_tuple, st_str_list, st_str_dict, st_tuple_int, st_tuple_bool, st_tuple_str, st_tuple_tuple, st_tuple_list, st_tuple_dict, st_list_int, st_list_bool, st_list_str, st_list_tuple, st_list_list, st_list_dict, st_dict_int, st_dict_bool, st_dict_str, st_dict_tuple, st_dict_list, st_dict_dict, eq_self, Bool.true_eq_false, Bool.false_eq_true, false_implies, true_implies, implies_true, decide_eq_true_eq, decide_eq_false_iff_not, Bool.not_true, Bool.not_false, Bool.not_eq_true, Bool.not_eq_false, Bool.not_eq_true', Bool.not_eq_false', not_true_eq_false, not_false_eq_true, false_and, and_false, or_false, false_or, reduceCtorEq, ↓exLSu, ↓exDKu, ↓exDKd, ↓exLSd, ↓exLu, ↓dIxRu, ↓dPutu, ↓dGetAu, ↓dEq_int, ↓dNe_int, ↓dEq_bl, ↓dNe_bl, ↓dEq_str, ↓dNe_str, ↓dAdd_int, ↓exAt10, ↓exIx10, ↓exAt20, ↓exIx20, ↓exAt21, ↓exIx21, ↓exAt30, ↓exIx30, ↓exAt31, ↓exIx31, ↓exAt32, ↓exIx32, ↓exAt40, ↓exIx40, ↓exAt41, ↓exIx41, ↓exAt42, ↓exIx42, ↓exAt43, ↓exIx43, ↓exAt50, ↓exIx50, ↓exAt51, ↓exIx51, ↓exAt52, ↓exIx52, ↓exAt53, ↓exIx53, ↓exAt54, ↓exIx54, ↓exAt60, ↓exIx60, ↓exAt61, ↓exIx61, ↓exAt62, ↓exIx62, ↓exAt63, ↓exIx63, ↓exAt64, ↓exIx64, ↓exAt65, ↓exIx65, up_up, false_or, or_false, ↓exAtM, ↓dFlag_bl, ↓exBl, ↓exInt, ↓exRef, ↓dVar0, ↓dAug0, ↓dSet0, ↓dTgN0, ↓dTgW0, ↓dVar1, ↓dAug1, ↓dSet1, ↓dTgN1, ↓dTgW1, ↓dVar2, ↓dAug2, ↓dSet2, ↓dTgN2, ↓dTgW2, ↓dVar3, ↓dAug3, ↓dSet3, ↓dTgN3, ↓dTgW3, ↓dVar4, ↓dAug4, ↓dSet4, ↓dTgN4, ↓dTgW4, ↓dVar5, ↓dAug5, ↓dSet5, ↓dTgN5, ↓dTgW5, ↓dVar6, ↓dAug6, ↓dSet6, ↓dTgN6, ↓dTgW6, ↓dVar7, ↓dAug7, ↓dSet7, ↓dTgN7, ↓dTgW7, ↓dVar8, ↓dAug8, ↓dSet8, ↓dTgN8, ↓dTgW8, ↓dVar9, ↓dAug9, ↓dSet9, ↓dTgN9, ↓dTgW9, ↓dVar10, ↓dAug10, ↓dSet10, ↓dTgN10, ↓dTgW10, ↓dVar11, ↓dAug11, ↓dSet11, ↓dTgN11, ↓dTgW11, ↓dVar12, ↓dAug12, ↓dSet12, ↓dTgN12, ↓dTgW12, ↓dVar13, ↓dAug13, ↓dSet13, ↓dTgN13, ↓dTgW13, ↓dVar14, ↓dAug14, ↓dSet14, ↓dTgN14, ↓dTgW14, ↓dVar15, ↓dAug15, ↓dSet15, ↓dTgN15, ↓dTgW15, ↓dVar16, ↓dAug16, ↓dSet16, ↓dTgN16, ↓dTgW16, ↓dVar17, ↓dAug17, ↓dSet17, ↓dTgN17, ↓dTgW17, ↓dVar18, ↓dAug18, ↓dSet18, ↓dTgN18, ↓dTgW18, ↓dVar19, ↓dAug19, ↓dSet19, ↓dTgN19, ↓dTgW19, ↓dTg_t2, ↓dTg_t3, ↓exGetM, ↓exSumU, nD, plD, rwD, ↓dAdd_tup, ↓dAdd_ref, dIx_tup, dIx_str, dIx_ref, dIx_kl, dListOf_tup, dListOf_kl, dListOf_ref, dLen_tup, dLen_str, dLen_kl, dLen_ref, dTupOf_tup, dTupOf_ref, dSeqI_x, sqX_tup, sqX_ref, sqX_str, dEnumI_x, enX_tup, enX_ref, dSrtSet, dSortA, dIsi2, isT2, Bool.or_true, Bool.true_or, Bool.or_false, Bool.or_self, dReprR, dReprT, dDGet2, evD, sPP, sPM, sMP, sMM]
      exact sb0 (y2 rfl)
    | meet a b =>
      simp (config := {failIfUnchanged := false}) only [dC, dOp, dTest, dChain, dAnd, dOr, dNot, dAndV, dOrV, dNotV, dIf, dNil, dCons, dTup, dLst, dCB, d1, dNoPart, dPart, dSl, dCut, dNeg, dSorted, dSum, dAll, dAny, dInt, dAbs, dMax, dMin, dIsi, isT, dNext, dSeq, dBrk, dCont, dNever, dExpr, dRet, dRetN, dIfS, dAsg, dPutI, dI0, dI, dIsN, dNotN, dRng1, dRng2, dRngDn, dZipI, dYes, dCall, dLM, dAppend, dExtend, dReverse, dInsert, dAugI, dRg1, dRg2, dTupRg, dLstRg, dNewK, dNewT, ↓S0_, ↓S1_, ↓S2_, ↓S3_, ↓S4_, ↓S5_, ↓S6_, List.map_cons, List.map_nil, List.length_cons, List.length_nil, List.replicate, List.cons_append, List.nil_append, Nat.reduceAdd, Nat.reduceSub, Nat.zero_add, List.getElem?_cons_zero, List.getElem?_cons_succ, Option.some.injEq, exists_eq_left, exists_eq_left', List.set_cons_zero, List.set_cons_succ, wipeD, D.int.injEq, D.bl.injEq, D.str.injEq, D.ref.injEq, D.tup.injEq, D.ty.injEq, true_and, and_true, forall_const, forall_eq', forall_eq, mt_int, mt_bool, mt_str, mt_tuple, mt_list, mt_dict, st_int_int, st_int_bool, st_int_str, st_int_tuple, st_int_list, st_int_dict, st_bool_int, st_bool_bool, st_bool_str, st_bool_tuple, st_bool_list, st_bool_dict, st_str_int, st_str_bool, st_str_str, st_str_tuple, st_str_list, st_str_dict, st_tuple_int, st_tuple_bool, st_tuple_str, st_tuple_tuple, st_tuple_list, st_tuple_dict, st_list_int, st_list_bool, st_list_str, st_list_tuple, st_list_list, st_list_dict, st_dict_int, st_dict_bool, st_dict_str, st_dict_tuple, st_dict_list, st_dict_dict, eq_self, Bool.true_eq_false, Bool.false_eq_true, false_implies, true_implies, implies_true, decide_eq_true_eq, decide_eq_false_iff_not, Bool.not_true, Bool.not_false, Bool.not_eq_true, Bool.not_eq_false, Bool.not_eq_true', Bool.not_eq_false', not_true_eq_false, not_false_eq_true, false_and, and_false, or_false, false_or, reduceCtorEq, ↓exLSu, ↓exDKu, ↓exDKd, ↓exLSd, ↓exLu, ↓dIxRu, ↓dPutu, ↓dGetAu, ↓dEq_int, ↓dNe_int, ↓dEq_bl, ↓dNe_bl, ↓dEq_str, ↓dNe_str, ↓dAdd_int, ↓exAt10, ↓exIx10, ↓exAt20, ↓exIx20, ↓exAt21, ↓exIx21, ↓exAt30, ↓exIx30, ↓exAt31, ↓exIx31, ↓exAt32, ↓exIx32, ↓exAt40, ↓exIx40, ↓exAt41, ↓exIx41, ↓exAt42, ↓exIx42, ↓exAt43, ↓exIx43, ↓exAt50, ↓exIx50, ↓exAt51, ↓exIx51, ↓exAt52, ↓exIx52, ↓exAt53, ↓exIx53, ↓exAt54, ↓exIx54, ↓exAt60, ↓exIx60, ↓exAt61, ↓exIx61, ↓exAt62, ↓exIx62, ↓exAt63, ↓exIx63, ↓exAt64, ↓exIx64, ↓exAt65, ↓exIx65, up_up, false_or, or_false, ↓exAtM, ↓dFlag_bl, ↓exBl, ↓exInt, ↓exRef, ↓dVar0, ↓dAug0, ↓dSet0, ↓dTgN0, ↓dTgW0, ↓dVar1, ↓dAug1, ↓dSet1, ↓dTgN1, ↓dTgW1, ↓dVar2, ↓dAug2, ↓dSet2, ↓dTgN2, ↓dTgW2, ↓dVar3, ↓dAug3, ↓dSet3, ↓dTgN3, ↓dTgW3, ↓dVar4, ↓dAug4, ↓dSet4, ↓dTgN4, ↓dTgW4, ↓dVar5, ↓dAug5, ↓dSet5, ↓dTgN5, ↓dTgW5, ↓dVar6, ↓dAug6, ↓dSet6, ↓dTgN6, ↓dTgW6, ↓dVar7, ↓dAug7, ↓dSet7, ↓dTgN7, ↓dTgW7, ↓dVar8, ↓dAug8, ↓dSet8, ↓dTgN8, ↓dTgW8, ↓dVar9, ↓dAug9, ↓dSet9, ↓dTgN9, ↓dTgW9, ↓dVar10, ↓dAug10, ↓dSet10, ↓dTgN10, ↓dTgW10, ↓dVar11, ↓dAug11, ↓dSet11, ↓dTgN11, ↓dTgW11, ↓dVar12, ↓dAug12, ↓dSet12, ↓dTgN12, ↓dTgW12, ↓dVar13, ↓dAug13, ↓dSet13, ↓dTgN13, ↓dTgW13, ↓dVar14, ↓dAug14, ↓dSet14, ↓dTgN14, ↓dTgW14, ↓dVar15, ↓dAug15, ↓dSet15, ↓dTgN15, ↓dTgW15, ↓dVar16, ↓dAug16, ↓dSet16, ↓dTgN16, ↓dTgW16, ↓dVar17, ↓dAug17, ↓dSet17, ↓dTgN17, ↓dTgW17, ↓dVar18, ↓dAug18, ↓dSet18, ↓dTgN18, ↓dTgW18, ↓dVar19, ↓dAug19, ↓dSet19, ↓dTgN19, ↓dTgW19, ↓dTg_t2, ↓dTg_t3, ↓exGetM, ↓exSumU, nD, plD, rwD, ↓dAdd_tup, ↓dAdd_ref, dIx_tup, dIx_str, dIx_ref, dIx_kl, dListOf_tup, dListOf_kl, dListOf_ref, dLen_tup, dLen_str, dLen_kl, dLen_ref, dTupOf_tup, dTupOf_ref, dSeqI_x, sqX_tup, sqX_ref, sqX_str, dEnumI_x, enX_tup, enX_ref, dSrtSet, dSortA, dIsi2, isT2, Bool.or_true, Bool.true_or, Bool.or_false, Bool.or_self, dReprR, dReprT, dDGet2, evD, sPP, sPM, sMP, sMM]
      exact sb0 (y1 rfl)
  rw [h1]; clear h1 t1 u1
  rw [show (fun p : Ev × Nat => nD p.2) = nD ∘ (·.2) from rfl, ← List.map_map, show (l.zipIdx.filter fun p => !p.1.isPut).map (·.2) = mts l from rfl]
  have s1 : Sub (up M q (.lst ((mts l).map nD))) M := Sub.new hq (by intro _ z; cases z)
  have hq1 : up M q (.lst ((mts l).map nD)) q = some (.lst ((mts l).map nD)) := up_same
  generalize up M q (.lst ((mts l).map nD)) = M1 at *
  simp (config := {failIfUnchanged := false}) only [dC, dOp, dTest, dChain, dAnd, dOr, dNot, dAndV, dOrV, dNotV, dIf, dNil, dCons, dTup, dLst, dCB, d1, dNoPart, dPart, dSl, dCut, dNeg, dSorted, dSum, dAll, dAny, dInt, dAbs, dMax, dMin, dIsi, isT, dNext, dSeq, dBrk, dCont, dNever, dExpr, dRet, dRetN, dIfS, dAsg, dPutI, dI0, dI, dIsN, dNotN, dRng1, dRng2, dRngDn, dZipI, dYes, dCall, dLM, dAppend, dExtend, dReverse, dInsert, dAugI, dRg1, dRg2, dTupRg, dLstRg, dNewK, dNewT, ↓S0_, ↓S1_, ↓S2_, ↓S3_, ↓S4_, ↓S5_, ↓S6_, List.map_cons, List.map_nil, List.length_cons, List.length_nil, List.replicate, List.cons_append, List.nil_append, Nat.reduceAdd, Nat.reduceSub, Nat.zero_add, List.getElem?_cons_zero, List.getElem?_cons_succ, Option.some.injEq, exists_eq_left, exists_eq_left', List.set_cons_zero, List.set_cons_succ, wipeD, D.int.injEq, D.bl.injEq, D.str.injEq, D.ref.injEq, D.tup.injEq, D.ty.injEq, true_and, and_true, forall_const, forall_eq', forall_eq, mt_int, mt_bool, mt_str, mt_tuple, mt_list, mt_dict, st_int_int, st_int_bool, st_int_str, st_int_tuple, st_int_list, st_int_dict, st_bool_int, st_bool_bool, st_bool_str, st_bool_tuple, st_bool_list, st_bool_dict, st_str_int, st_str_bool, st_str_str, st_str_tuple, st_str_list, st_str_dict, st_tuple_int, st_tuple_bool, st_tuple_str, st_tuple_tuple, st_tuple_list, st_tuple_dict, st_list_int, st_list_bool, st_list_str, st_list_tuple, st_list_list, st_list_dict, st_dict_int, st_dict_bool, st_dict_str, st_dict_tuple, st_dict_list, st_dict_dict, eq_self, Bool.true_eq_false, Bool.false_eq_true, false_implies, true_implies, implies_true, decide_eq_true_eq, decide_eq_false_iff_not, Bool.not_true, Bool.not_false, Bool.not_eq_true, Bool.not_eq_false, Bool.not_eq_true', Bool.not_eq_false', not_true_eq_false, not_false_eq_true, false_and, and_false, or_false, false_or, reduceCtorEq, ↓exLSu, ↓exDKu, ↓exDKd, ↓exLSd, ↓exLu, ↓dIxRu, ↓dPutu, ↓dGetAu, ↓dEq_int, ↓dNe_int, ↓dEq_bl, ↓dNe_bl, ↓dEq_str, ↓dNe_str, ↓dAdd_int, ↓exAt10, ↓exIx10, ↓exAt20, ↓exIx20, ↓exAt21, ↓exIx21, ↓exAt30, ↓exIx30, ↓exAt31, ↓exIx31, ↓exAt32, ↓exIx32, ↓exAt40, ↓exIx40, ↓exAt41, ↓exIx41, ↓exAt42, ↓exIx42, ↓exAt43, ↓exIx43, ↓exAt50, ↓exIx50, ↓exAt51, ↓exIx51, ↓exAt52, ↓exIx52, ↓exAt53, ↓exIx53, ↓exAt54, ↓exIx54, ↓exAt60, ↓exIx60, ↓exAt61, ↓exIx61, ↓exAt62, ↓exIx62, ↓exAt63, ↓exIx63, ↓exAt64, ↓exIx64, ↓exAt65, ↓exIx65, up_up, false_or, or_false, ↓exAtM, ↓dFlag_bl, ↓exBl, ↓exInt, ↓exRef, ↓dVar0, ↓dAug0, ↓dSet0, ↓dTgN0, ↓dTgW0, ↓dVar1, ↓dAug1, ↓dSet1, ↓dTgN1, ↓dTgW1, ↓dVar2, ↓dAug2, ↓dSet2, ↓dTgN2, ↓dTgW2, ↓dVar3, ↓dAug3, ↓dSet3, ↓dTgN3, ↓dTgW3, ↓dVar4, ↓dAug4, ↓dSet4, ↓dTgN4, ↓dTgW4, ↓dVar5, ↓dAug5, ↓dSet5, ↓dTgN5, ↓dTgW5, ↓dVar6, ↓dAug6, ↓dSet6, ↓dTgN6, ↓dTgW6, ↓dVar7, ↓dAug7, ↓dSet7, ↓dTgN7, ↓dTgW7, ↓dVar8, ↓dAug8, ↓dSet8, ↓dTgN8, ↓dTgW8, ↓dVar9, ↓dAug9, ↓dSet9, ↓dTgN9, ↓dTgW9, ↓dVar10, ↓dAug10, ↓dSet10, ↓dTgN10, ↓dTgW10, ↓dVar11, ↓dAug11, ↓dSet11, ↓dTgN11, ↓dTgW11, ↓dVar12, ↓dAug12, ↓dSet12, ↓dTgN12, ↓dTgW12, ↓dVar13, ↓dAug13, ↓dSet13, ↓dTgN13, ↓dTgW13, ↓dVar14, ↓dAug14, ↓dSet14, ↓dTgN14, ↓dTgW14, ↓dVar15, ↓dAug15, ↓dSet15, ↓dTgN15, ↓dTgW15, ↓dVar16, ↓dAug16, ↓dSet16, ↓dTgN16, ↓dTgW16, ↓dVar17, ↓dAug17, ↓dSet17, ↓dTgN17, ↓dTgW17, ↓dVar18, ↓dAug18, ↓dSet18, ↓dTgN18, ↓dTgW18, ↓dVar19, ↓dAug19, ↓dSet19, ↓dTgN19, ↓dTgW19, ↓dTg_t2, ↓dTg_t3, ↓exGetM, ↓exSumU, nD, plD, rwD, ↓dAdd_tup, ↓dAdd_ref, dIx_tup, dIx_str, dIx_ref, dIx_kl, dListOf_tup, dListOf_kl, dListOf_ref, dLen_tup, dLen_str, dLen_kl, dLen_ref, dTupOf_tup, dTupOf_ref, dSeqI_x, sqX_tup, sqX_ref, sqX_str, dEnumI_x, enX_tup, enX_ref, dSrtSet, dSortA, dIsi2, isT2, Bool.or_true, Bool.true_or, Bool.or_false, Bool.or_self, dReprR, dReprT, dDGet2, ↓exLS hq1, ↓exDKh hq1]
  refine ⟨_, _, rfl, rfl, by rw [List.length_map]; omega, ?_⟩
  refine dFor_g fun F2 T2 h2 t2 => ?_; simp only [dFor, dC, dOp, dTest, dChain, dAnd, dOr, dNot, dAndV, dOrV, dNotV, dIf, dNil, dCons, dTup, dLst, dCB, d1, dNoPart, dPart, dSl, dCut, dNeg, dSorted, dSum, dAll, dAny, dInt, dAbs, dMax, dMin, dIsi, isT, dNext, dSeq, dBrk, dCont, dNever, dExpr, dRet, dRetN, dIfS, dAsg, dPutI, dI0, dI, dIsN, dNotN, dRng1, dRng2, dRngDn, dZipI, dYes, dCall, dLM, dAppend, dExtend, dReverse, dInsert, dAugI, dRg1, dRg2, dTupRg, dLstRg, dNewK, dNewT, ↓S0_, ↓S1_, ↓S2_, ↓S3_, ↓S4_, ↓S5_, ↓S6_, List.map_cons, List.map_nil, List.length_cons, List.length_nil, List.replicate, List.cons_append, List.nil_append, Nat.reduceAdd, Nat.reduceSub, Nat.zero_add, List.getElem?_cons_zero, List.getElem?_cons_succ, Option.some.injEq, exists_eq_left, exists_eq_left', List.set_cons_zero, List.set_cons_succ, wipeD, D.int.injEq, D.bl.injEq, D.str.injEq, D.ref.injEq, D.tup.injEq, D.ty.injEq, true_and, and_true, forall_const, forall_eq', forall_eq, mt_int, mt_bool, mt_str, mt_tuple, mt_list, mt_dict, st_int_int, st_int_bool, st_int_str, st_int_tuple, st_int_list, st_int_dict, st_bool_int, st_bool_bool, st_bool_str, st_bool_tuple, st_bool_list, st_bool_dict, st_str_int, st_str_bool, st_str_str, st_str_tuple, st_str_list, st_str_dict, st_tuple_int, st_tuple_bool, st_tuple_str, st_tuple_tuple, st_tuple_list, st_tuple_dict, st_list_int, st_list_bool, st_list_str, st_list_tuple, st_list_list, st_list_dict, st_dict_int, st_dict_bool, st_dict_str, st_dict_tuple, st_dict_list, st_dict_dict, eq_self, Bool.true_eq_false, Bool.false_eq_true, false_implies, true_implies, implies_true, decide_eq_true_eq, decide_eq_false_iff_not, Bool.not_true, Bool.not_false, Bool.not_eq_true, Bool.not_eq_false, Bool.not_eq_true', Bool.not_eq_false', not_true_eq_false, not_false_eq_true, false_and, and_false, or_false, false_or, reduceCtorEq, ↓exLSu, ↓exDKu, ↓exDKd, ↓exLSd, ↓exLu, ↓dIxRu, ↓dPutu, ↓dGetAu, ↓dEq_int, ↓dNe_int, ↓dEq_bl, ↓dNe_bl, ↓dEq_str, ↓dNe_str, ↓dAdd_int, ↓exAt10, ↓exIx10, ↓exAt20, ↓exIx20, ↓exAt21, ↓exIx21, ↓exAt30, ↓exIx30, ↓exAt31, ↓exIx31, ↓exAt32, ↓exIx32, ↓exAt40, ↓exIx40, ↓exAt41, ↓exIx41, ↓exAt42, ↓exIx42, ↓exAt43, ↓exIx43, ↓exAt50, ↓exIx50, ↓exAt51, ↓exIx51, ↓exAt52, ↓exIx52, ↓exAt53, ↓exIx53, ↓exAt54, ↓exIx54, ↓exAt60, ↓exIx60, ↓exAt61, ↓exIx61, ↓exAt62, ↓exIx62, ↓exAt63, ↓exIx63, ↓exAt64, ↓exIx64, ↓exAt65, ↓exIx65, up_up, false_or, or_false, ↓exAtM, ↓dFlag_bl, ↓exBl, ↓exInt, ↓exRef, ↓dVar0, ↓dAug0, ↓dSet0, ↓dTgN0, ↓dTgW0, ↓dVar1, ↓dAug1, ↓dSet1, ↓dTgN1, ↓dTgW1, ↓dVar2, ↓dAug2, ↓dSet2, ↓dTgN2, ↓dTgW2, ↓dVar3, ↓dAug3, ↓dSet3, ↓dTgN3, ↓dTgW3, ↓dVar4, ↓dAug4, ↓dSet4, ↓dTgN4, ↓dTgW4, ↓dVar5, ↓dAug5, ↓dSet5, ↓dTgN5, ↓dTgW5, ↓dVar6, ↓dAug6, ↓dSet6, ↓dTgN6, ↓dTgW6, ↓dVar7, ↓dAug7, ↓dSet7, ↓dTgN7, ↓dTgW7, ↓dVar8, ↓dAug8, ↓dSet8, ↓dTgN8, ↓dTgW8, ↓dVar9, ↓dAug9, ↓dSet9, ↓dTgN9, ↓dTgW9, ↓dVar10, ↓dAug10, ↓dSet10, ↓dTgN10, ↓dTgW10, ↓dVar11, ↓dAug11, ↓dSet11, ↓dTgN11, ↓dTgW11, ↓dVar12, ↓dAug12, ↓dSet12, ↓dTgN12, ↓dTgW12, ↓dVar13, ↓dAug13, ↓dSet13, ↓dTgN13, ↓dTgW13, ↓dVar14, ↓dAug14, ↓dSet14, ↓dTgN14, ↓dTgW14, ↓dVar15, ↓dAug15, ↓dSet15, ↓dTgN15, ↓dTgW15, ↓dVar16, ↓dAug16, ↓dSet16, ↓dTgN16, ↓dTgW16, ↓dVar17, ↓dAug17, ↓dSet17, ↓dTgN17, ↓dTgW17, ↓dVar18, ↓dAug18, ↓dSet18, ↓dTgN18, ↓dTgW18, ↓dVar19, ↓dAug19, ↓dSet19, ↓dTgN19, ↓dTgW19, ↓dTg_t2, ↓dTg_t3, ↓exGetM, ↓exSumU, nD, plD, rwD, ↓dAdd_tup, ↓dAdd_ref, dIx_tup, dIx_str, dIx_ref, dIx_kl, dListOf_tup, dListOf_kl, dListOf_ref, dLen_tup, dLen_str, dLen_kl, dLen_ref, dTupOf_tup, dTupOf_ref, dSeqI_x, sqX_tup, sqX_ref, sqX_str, dEnumI_x, enX_tup, enX_ref, dSrtSet, dSortA, dIsi2, isT2, Bool.or_true, Bool.true_or, Bool.or_false, Bool.or_self, dReprR, dReprT, dDGet2]
  simp (config := {failIfUnchanged := false}) only [dC, dOp, dTest, dChain, dAnd, dOr, dNot, dAndV, dOrV, dNotV, dIf, dNil, dCons, dTup, dLst, dCB, d1, dNoPart, dPart, dSl, dCut, dNeg, dSorted, dSum, dAll, dAny, dInt, dAbs, dMax, dMin, dIsi, isT, dNext, dSeq, dBrk, dCont, dNever, dExpr, dRet, dRetN, dIfS, dAsg, dPutI, dI0, dI, dIsN, dNotN, dRng1, dRng2, dRngDn, dZipI, dYes, dCall, dLM, dAppend, dExtend, dReverse, dInsert, dAugI, dRg1, dRg2, dTupRg, dLstRg, dNewK, dNewT, ↓S0_, ↓S1_, ↓S2_, ↓S3_, ↓S4_, ↓S5_, ↓S6_, List.map_cons, List.map_nil, List.length_cons, List.length_nil, List.replicate, List.cons_append, List.nil_append, Nat.reduceAdd, Nat.reduceSub, Nat.zero_add, List.getElem?_cons_zero, List.getElem?_cons_succ, Option.some.injEq, exists_eq_left, exists_eq_left', List.set_cons_zero, List.set_cons_succ, wipeD, D.int.injEq, D.bl.injEq, D.str.injEq, D.ref.injEq, D.tup.injEq, D.ty.injEq, true_and, and_true, forall_const, forall_eq', forall_eq, mt_int, mt_bool, mt_str, mt_tuple, mt_list, mt_dict, st_int_int, st_int_bool, st_int_str, st_int_tuple, st_int_list, st_int_dict, st_bool_int, st_bool_bool, st_bool_str, st_bool_tuple, st_bool_list, st_bool_dict, st_str_int, st_str_bool, st_str_str, st_str_tuple, st_str_list, st_str_dict, st_tuple_int, st_tuple_bool, st_tuple_str, st_tuple_tuple, st_tuple_list, st_tuple_dict, st_list_int, st_list_bool, st_list_str, st_list_tuple, st_list_list, st_list_dict, st_dict_int, st_dict_bool, st_dict_str, st_dict_tuple, st_dict_list, st_dict_dict, eq_self, Bool.true_eq_false, Bool.false_eq_true, false_implies, true_implies, implies_true, decide_eq_true_eq, decide_eq_false_iff_not, Bool.not_true, Bool.not_false, Bool.not_eq_true, Bool.not_eq_false, Bool.not_eq_true', Bool.not_eq_false', not_true_eq_false, not_false_eq_true, false_and, and_false, or_false, false_or, reduceCtorEq, ↓exLSu, ↓exDKu, ↓exDKd, ↓exLSd, ↓exLu, ↓dIxRu, ↓dPutu, ↓dGetAu, ↓dEq_int, ↓dNe_int, ↓dEq_bl, ↓dNe_bl, ↓dEq_str, ↓dNe_str, ↓dAdd_int, ↓exAt10, ↓exIx10, ↓exAt20, ↓exIx20, ↓exAt21, ↓exIx21, ↓exAt30, ↓exIx30, ↓exAt31, ↓exIx31, ↓exAt32, ↓exIx32, ↓exAt40, ↓exIx40, ↓exAt41, ↓exIx41, ↓exAt42, ↓exIx42, ↓exAt43, ↓exIx43, ↓exAt50, ↓exIx50, ↓exAt51, ↓exIx51, ↓exAt52, ↓exIx52, ↓exAt53, ↓exIx53, ↓exAt54, ↓exIx54, ↓exAt60, ↓exIx60, ↓exAt61, ↓exIx61, ↓exAt62, ↓exIx62, ↓exAt63, ↓exIx63, ↓exAt64, ↓exIx64, ↓exAt65, ↓exIx65, up_up, false_or, or_false, ↓exAtM, ↓dFlag_bl, ↓exBl, ↓exInt, ↓exRef, ↓dVar0, ↓dAug0, ↓dSet0, ↓dTgN0, ↓dTgW0, ↓dVar1, ↓dAug1, ↓dSet1, ↓dTgN1, ↓dTgW1, ↓dVar2, ↓dAug2, ↓dSet2, ↓dTgN2, ↓dTgW2, ↓dVar3, ↓dAug3, ↓dSet3, ↓dTgN3, ↓dTgW3, ↓dVar4, ↓dAug4, ↓dSet4, ↓dTgN4, ↓dTgW4, ↓dVar5, ↓dAug5, ↓dSet5, ↓dTgN5, ↓dTgW5, ↓dVar6, ↓dAug6, ↓dSet6, ↓dTgN6, ↓dTgW6, ↓dVar7, ↓dAug7, ↓dSet7, ↓dTgN7, ↓dTgW7, ↓dVar8, ↓dAug8, ↓dSet8, ↓dTgN8, ↓dTgW8, ↓dVar9, ↓dAug9, ↓dSet9, ↓dTgN9, ↓dTgW9, ↓dVar10, ↓dAug10, ↓dSet10, ↓dTgN10, ↓dTgW10, ↓dVar11, ↓dAug11, ↓dSet11, ↓dTgN11, ↓dTgW11, ↓dVar12, ↓dAug12, ↓dSet12, ↓dTgN12, ↓dTgW12, ↓dVar13, ↓dAug13, ↓dSet13, ↓dTgN13, ↓dTgW13, ↓dVar14, ↓dAug14, ↓dSet14, ↓dTgN14, ↓dTgW14, ↓dVar15, ↓dAug15, ↓dSet15, ↓dTgN15, ↓dTgW15, ↓dVar16, ↓dAug16, ↓dSet16, ↓dTgN16, ↓dTgW16, ↓dVar17, ↓dAug17, ↓dSet17, ↓dTgN17, ↓dTgW17, ↓dVar18, ↓dAug18, ↓dSet18, ↓dTgN18, ↓dTgW18, ↓dVar19, ↓dAug19, ↓dSet19, ↓dTgN19, ↓dTgW19, ↓dTg_t2, ↓dTg_t3, ↓exGetM, ↓exSumU, nD, plD, rwD, ↓dAdd_tup, ↓dAdd_ref, dIx_tup, dIx_str, dIx_ref, dIx_kl, dListOf_tup, dListOf_kl, dListOf_ref, dLen_tup, dLen_str, dLen_kl, dLen_ref, dTupOf_tup, dTupOf_ref, dSeqI_x, sqX_tup, sqX_ref, sqX_str, dEnumI_x, enX_tup, enX_ref, dSrtSet, dSortA, dIsi2, isT2, Bool.or_true, Bool.true_or, Bool.or_false, Bool.or_self, dReprR, dReprT, dDGet2, ↓exLS hq1, ↓exDKh hq1]
  rw [List.length_map, show ((mts l).length : Int) + 1 = (((mts l).length + 1 : Nat) : Int) by rw [Int.natCast_add]; rfl, rng0]
  refine ⟨by omega, forN (fun i δ M' => Sub M' M1 ∧ (∀ w ∈ allc (mts l) i, ¬ (chO (wo l w) : Int) ≤ m) ∧ ∃ a b c d, δ = [some x, some (.int m), some (.ref q), a, b, c, d]) ⟨Sub.refl, (fun w hw => by cases hw), _, _, _, _, rfl⟩ ?_ ?_⟩
  · rintro i z δ' M2 pre P' hz ⟨s2, hall, a, b, c, d, rfl⟩ hP
    obtain ⟨hi, rfl⟩ := rgx hz
    subst t2
    simp (config := {failIfUnchanged := false}) only [dC, dOp, dTest, dChain, dAnd, dOr, dNot, dAndV, dOrV, dNotV, dIf, dNil, dCons, dTup, dLst, dCB, d1, dNoPart, dPart, dSl, dCut, dNeg, dSorted, dSum, dAll, dAny, dInt, dAbs, dMax, dMin, dIsi, isT, dNext, dSeq, dBrk, dCont, dNever, dExpr, dRet, dRetN, dIfS, dAsg, dPutI, dI0, dI, dIsN, dNotN, dRng1, dRng2, dRngDn, dZipI, dYes, dCall, dLM, dAppend, dExtend, dReverse, dInsert, dAugI, dRg1, dRg2, dTupRg, dLstRg, dNewK, dNewT, ↓S0_, ↓S1_, ↓S2_, ↓S3_, ↓S4_, ↓S5_, ↓S6_, List.map_cons, List.map_nil, List.length_cons, List.length_nil, List.replicate, List.cons_append, List.nil_append, Nat.reduceAdd, Nat.reduceSub, Nat.zero_add, List.getElem?_cons_zero, List.getElem?_cons_succ, Option.some.injEq, exists_eq_left, exists_eq_left', List.set_cons_zero, List.set_cons_succ, wipeD, D.int.injEq, D.bl.injEq, D.str.injEq, D.ref.injEq, D.tup.injEq, D.ty.injEq, true_and, and_true, forall_const, forall_eq', forall_eq, mt_int, mt_bool, mt_str, mt_tuple, mt_list, mt_dict, st_int_int, st_int_bool, st_int_str, st_int_tuple, st_int_list, st_int_dict, st_bool_int, st_bool_bool, st_bool_str, st_bool_tuple, st_bool_list, st_bool_dict, st_str_int, st_str_bool, st_str_str, st_str_tuple, st_str_list, st_str_dict, st_tuple_int, st_tuple_bool, st_tuple_str, st_tuple_tuple, st_tuple_list, st_tuple_dict, st_list_int, st_list_bool, st_list_str, st_list_tuple, st_list_list, st_list_dict, st_dict_int, st_dict_bool, st_dict_str, st_dict_tuple, st_dict_list, st_dict_dict, eq_self, Bool.true_eq_false, Bool.false_eq_true, false_implies, true_implies, implies_true, decide_eq_true_eq, decide_eq_false_iff_not, Bool.not_true, Bool.not_false, Bool.not_eq_true, Bool.not_eq_false, Bool.not_eq_true', Bool.not_eq_false', not_true_eq_false, not_false_eq_true, false_and, and_false, or_false, false_or, reduceCtorEq, ↓exLSu, ↓exDKu, ↓exDKd, ↓exLSd, ↓exLu, ↓dIxRu, ↓dPutu, ↓dGetAu, ↓dEq_int, ↓dNe_int, ↓dEq_bl, ↓dNe_bl, ↓dEq_str, ↓dNe_str, ↓dAdd_int, ↓exAt10, ↓exIx10, ↓exAt20, ↓exIx20, ↓exAt21, ↓exIx21, ↓exAt30, ↓exIx30, ↓exAt31, ↓exIx31, ↓exAt32, ↓exIx32, ↓exAt40, ↓exIx40, ↓exAt41, ↓exIx41, ↓exAt42, ↓exIx42, ↓exAt43, ↓exIx43, ↓exAt50, ↓exIx50, ↓exAt51, ↓exIx51, ↓exAt52, ↓exIx52, ↓exAt53, ↓exIx53, ↓exAt54, ↓exIx54, ↓exAt60, ↓exIx60, ↓exAt61, ↓exIx61, ↓exAt62, ↓exIx62, ↓exAt63, ↓exIx63, ↓exAt64, ↓exIx64, ↓exAt65, ↓exIx65, up_up, false_or, or_false, ↓exAtM, ↓dFlag_bl, ↓exBl, ↓exInt, ↓exRef, ↓dVar0, ↓dAug0, ↓dSet0, ↓dTgN0, ↓dTgW0, ↓dVar1, ↓dAug1, ↓dSet1, ↓dTgN1, ↓dTgW1, ↓dVar2, ↓dAug2, ↓dSet2, ↓dTgN2, ↓dTgW2, ↓dVar3, ↓dAug3, ↓dSet3, ↓dTgN3, ↓dTgW3, ↓dVar4, ↓dAug4, ↓dSet4, ↓dTgN4, ↓dTgW4, ↓dVar5, ↓dAug5, ↓dSet5, ↓dTgN5, ↓dTgW5, ↓dVar6, ↓dAug6, ↓dSet6, ↓dTgN6, ↓dTgW6, ↓dVar7, ↓dAug7, ↓dSet7, ↓dTgN7, ↓dTgW7, ↓dVar8, ↓dAug8, ↓dSet8, ↓dTgN8, ↓dTgW8, ↓dVar9, ↓dAug9, ↓dSet9, ↓dTgN9, ↓dTgW9, ↓dVar10, ↓dAug10, ↓dSet10, ↓dTgN10, ↓dTgW10, ↓dVar11, ↓dAug11, ↓dSet11, ↓dTgN11, ↓dTgW11, ↓dVar12, ↓dAug12, ↓dSet12, ↓dTgN12, ↓dTgW12, ↓dVar13, ↓dAug13, ↓dSet13, ↓dTgN13, ↓dTgW13, ↓dVar14, ↓dAug14, ↓dSet14, ↓dTgN14, ↓dTgW14, ↓dVar15, ↓dAug15, ↓dSet15, ↓dTgN15, ↓dTgW15, ↓dVar16, ↓dAug16, ↓dSet16, ↓dTgN16, ↓dTgW16, ↓dVar17, ↓dAug17, ↓dSet17, ↓dTgN17, ↓dTgW17, ↓dVar18, ↓dAug18, ↓dSet18, ↓dTgN18, ↓dTgW18, ↓dVar19, ↓dAug19, ↓dSet19, ↓dTgN19, ↓dTgW19, ↓dTg_t2, ↓dTg_t3, ↓exGetM, ↓exSumU, nD, plD, rwD, ↓dAdd_tup, ↓dAdd_ref, dIx_tup, dIx_str, dIx_ref, dIx_kl, dListOf_tup, dListOf_kl, dListOf_ref, dLen_tup, dLen_str, dLen_kl, dLen_ref, dTupOf_tup, dTupOf_ref, dSeqI_x, sqX_tup, sqX_ref, sqX_str, dEnumI_x, enX_tup, enX_ref, dSrtSet, dSortA, dIsi2, isT2, Bool.or_true, Bool.true_or, Bool.or_false, Bool.or_self, dReprR, dReprT, dDGet2]
    refine dFor_g fun F5 T5 h5 t5 => ?_; simp only [dFor, dC, dOp, dTest, dChain, dAnd, dOr, dNot, dAndV, dOrV, dNotV, dIf, dNil, dCons, dTup, dLst, dCB, d1, dNoPart, dPart, dSl, dCut, dNeg, dSorted, dSum, dAll, dAny, dInt, dAbs, dMax, dMin, dIsi, isT, dNext, dSeq, dBrk, dCont, dNever, dExpr, dRet, dRetN, dIfS, dAsg, dPutI, dI0, dI, dIsN, dNotN, dRng1, dRng2, dRngDn, dZipI, dYes, dCall, dLM, dAppend, dExtend, dReverse, dInsert, dAugI, dRg1, dRg2, dTupRg, dLstRg, dNewK, dNewT, ↓S0_, ↓S1_, ↓S2_, ↓S3_, ↓S4_, ↓S5_, ↓S6_, List.map_cons, List.map_nil, List.length_cons, List.length_nil, List.replicate, List.cons_append, List.nil_append, Nat.reduceAdd, Nat.reduceSub, Nat.zero_add, List.getElem?_cons_zero, List.getElem?_cons_succ, Option.some.injEq, exists_eq_left, exists_eq_left', List.set_cons_zero, List.set_cons_succ, wipeD, D.int.injEq, D.bl.injEq, D.str.injEq, D.ref.injEq, D.tup.injEq, D.ty.injEq, true_and, and_true, forall_const, forall_eq', forall_eq, mt_int, mt_bool, mt_str, mt_tuple, mt_list, mt_dict, st_int_int, st_int_bool, st_int_str, st_int_tuple, st_int_list, st_int_dict, st_bool_int, st_bool_bool, st_bool_str, st_bool_tuple, st_bool_list, st_bool_dict, st_str_int, st_str_bool, st_str_str, st_str_tuple, st_str_list, st_str_dict, st_tuple_int, st_tuple_bool, st_tuple_str, st_tuple_tuple, st_tuple_list, st_tuple_dict, st_list_int, st_list_bool, st_list_str, st_list_tuple, st_list_list, st_list_dict, st_dict_int, st_dict_bool, st_dict_str, st_dict_tuple, st_dict_list, st_dict_dict, eq_self, Bool.true_eq_false, Bool.false_eq_true, false_implies, true_implies, implies_true, decide_eq_true_eq, decide_eq_false_iff_not, Bool.not_true, Bool.not_false, Bool.not_eq_true, Bool.not_eq_false, Bool.not_eq_true', Bool.not_eq_false', not_true_eq_false, not_false_eq_true, false_and, and_false, or_false, false_or, reduceCtorEq, ↓exLSu, ↓exDKu, ↓exDKd, ↓exLSd, ↓exLu, ↓dIxRu, ↓dPutu, ↓dGetAu, ↓dEq_int, ↓dNe_int, ↓dEq_bl, ↓dNe_bl, ↓dEq_str, ↓dNe_str, ↓dAdd_int, ↓exAt10, ↓exIx10, ↓exAt20, ↓exIx20, ↓exAt21, ↓exIx21, ↓exAt30, ↓exIx30, ↓exAt31, ↓exIx31, ↓exAt32, ↓exIx32, ↓exAt40, ↓exIx40, ↓exAt41, ↓exIx41, ↓exAt42, ↓exIx42, ↓exAt43, ↓exIx43, ↓exAt50, ↓exIx50, ↓exAt51, ↓exIx51, ↓exAt52, ↓exIx52, ↓exAt53, ↓exIx53, ↓exAt54, ↓exIx54, ↓exAt60, ↓exIx60, ↓exAt61, ↓exIx61, ↓exAt62, ↓exIx62, ↓exAt63, ↓exIx63, ↓exAt64, ↓exIx64, ↓exAt65, ↓exIx65, up_up, false_or, or_false, ↓exAtM, ↓dFlag_bl, ↓exBl, ↓exInt, ↓exRef, ↓dVar0, ↓dAug0, ↓dSet0, ↓dTgN0, ↓dTgW0, ↓dVar1, ↓dAug1, ↓dSet1, ↓dTgN1, ↓dTgW1, ↓dVar2, ↓dAug2, ↓dSet2, ↓dTgN2, ↓dTgW2, ↓dVar3, ↓dAug3, ↓dSet3, ↓dTgN3, ↓dTgW3, ↓dVar4, ↓dAug4, ↓dSet4, ↓dTgN4, ↓dTgW4, ↓dVar5, ↓dAug5, ↓dSet5, ↓dTgN5, ↓dTgW5, ↓dVar6, ↓dAug6, ↓dSet6, ↓dTgN6, ↓dTgW6, ↓dVar7, ↓dAug7, ↓dSet7, ↓dTgN7, ↓dTgW7, ↓dVar8, ↓dAug8, ↓dSet8, ↓dTgN8, ↓dTgW8, ↓dVar9, ↓dAug9, ↓dSet9, ↓dTgN9, ↓dTgW9, ↓dVar10, ↓dAug10, ↓dSet10, ↓dTgN10, ↓dTgW10, ↓dVar11, ↓dAug11, ↓dSet11, ↓dTgN11, ↓dTgW11, ↓dVar12, ↓dAug12, ↓dSet12, ↓dTgN12, ↓dTgW12, ↓dVar13, ↓dAug13, ↓dSet13, ↓dTgN13, ↓dTgW13, ↓dVar14, ↓dAug14, ↓dSet14, ↓dTgN14, ↓dTgW14, ↓dVar15, ↓dAug15, ↓dSet15, ↓dTgN15, ↓dTgW15, ↓dVar16, ↓dAug16, ↓dSet16, ↓dTgN16, ↓dTgW16, ↓dVar17, ↓dAug17, ↓dSet17, ↓dTgN17, ↓dTgW17, ↓dVar18, ↓dAug18, ↓dSet18, ↓dTgN18, ↓dTgW18, ↓dVar19, ↓dAug19, ↓dSet19, ↓dTgN19, ↓dTgW19, ↓dTg_t2, ↓dTg_t3, ↓exGetM, ↓exSumU, nD, plD, rwD, ↓dAdd_tup, ↓dAdd_ref, dIx_tup, dIx_str, dIx_ref, dIx_kl, dListOf_tup, dListOf_kl, dListOf_ref, dLen_tup, dLen_str, dLen_kl, dLen_ref, dTupOf_tup, dTupOf_ref, dSeqI_x, sqX_tup, sqX_ref, sqX_str, dEnumI_x, enX_tup, enX_ref, dSrtSet, dSortA, dIsi2, isT2, Bool.or_true, Bool.true_or, Bool.or_false, Bool.or_self, dReprR, dReprT, dDGet2]
    refine ⟨q, mts l, i, rfl, rfl, s2.1 _ _ hq1, mts_asc l, hc, by omega, fun f M3 s3 hf0 hf => ?_⟩
    simp (config := {failIfUnchanged := false}) only [dC, dOp, dTest, dChain, dAnd, dOr, dNot, dAndV, dOrV, dNotV, dIf, dNil, dCons, dTup, dLst, dCB, d1, dNoPart, dPart, dSl, dCut, dNeg, dSorted, dSum, dAll, dAny, dInt, dAbs, dMax, dMin, dIsi, isT, dNext, dSeq, dBrk, dCont, dNever, dExpr, dRet, dRetN, dIfS, dAsg, dPutI, dI0, dI, dIsN, dNotN, dRng1, dRng2, dRngDn, dZipI, dYes, dCall, dLM, dAppend, dExtend, dReverse, dInsert, dAugI, dRg1, dRg2, dTupRg, dLstRg, dNewK, dNewT, ↓S0_, ↓S1_, ↓S2_, ↓S3_, ↓S4_, ↓S5_, ↓S6_, List.map_cons, List.map_nil, List.length_cons, List.length_nil, List.replicate, List.cons_append, List.nil_append, Nat.reduceAdd, Nat.reduceSub, Nat.zero_add, List.getElem?_cons_zero, List.getElem?_cons_succ, Option.some.injEq, exists_eq_left, exists_eq_left', List.set_cons_zero, List.set_cons_succ, wipeD, D.int.injEq, D.bl.injEq, D.str.injEq, D.ref.injEq, D.tup.injEq, D.ty.injEq, true_and, and_true, forall_const, forall_eq', forall_eq, mt_int, mt_bool, mt_str, mt_tuple, mt_list, mt_dict, st_int_int, st_int_bool, st_int_str, st_int_tuple, st_int_list, st_int_dict, st_bool_int, st_bool_bool, st_bool_str, st_bool_tuple, st_bool_list, st_bool_dict, st_str_int, st_str_bool, st_str_str, st_str_tuple, st_str_list, st_str_dict, st_tuple_int, st_tuple_bool, st_tuple_str, st_tuple_tuple, st_tuple_list, st_tuple_dict, st_list_int, st_list_bool, st_list_str, st_list_tuple, st_list_list, st_list_dict, st_dict_int, st_dict_bool, st_dict_str, st_dict_tuple, st_dict_list, st_dict_dict, eq_self, Bool.true_eq_false, Bool.false_eq_true, false_implies, true_implies, implies_true, decide_eq_true_eq, decide_eq_false_iff_not, Bool.not_true, Bool.not_false, Bool.not_eq_true, Bool.not_eq_false, Bool.not_eq_true', Bool.not_eq_false', not_true_eq_false, not_false_eq_true, false_and, and_false, or_false, false_or, reduceCtorEq, ↓exLSu, ↓exDKu, ↓exDKd, ↓exLSd, ↓exLu, ↓dIxRu, ↓dPutu, ↓dGetAu, ↓dEq_int, ↓dNe_int, ↓dEq_bl, ↓dNe_bl, ↓dEq_str, ↓dNe_str, ↓dAdd_int, ↓exAt10, ↓exIx10, ↓exAt20, ↓exIx20, ↓exAt21, ↓exIx21, ↓exAt30, ↓exIx30, ↓exAt31, ↓exIx31, ↓exAt32, ↓exIx32, ↓exAt40, ↓exIx40, ↓exAt41, ↓exIx41, ↓exAt42, ↓exIx42, ↓exAt43, ↓exIx43, ↓exAt50, ↓exIx50, ↓exAt51, ↓exIx51, ↓exAt52, ↓exIx52, ↓exAt53, ↓exIx53, ↓exAt54, ↓exIx54, ↓exAt60, ↓exIx60, ↓exAt61, ↓exIx61, ↓exAt62, ↓exIx62, ↓exAt63, ↓exIx63, ↓exAt64, ↓exIx64, ↓exAt65, ↓exIx65, up_up, false_or, or_false, ↓exAtM, ↓dFlag_bl, ↓exBl, ↓exInt, ↓exRef, ↓dVar0, ↓dAug0, ↓dSet0, ↓dTgN0, ↓dTgW0, ↓dVar1, ↓dAug1, ↓dSet1, ↓dTgN1, ↓dTgW1, ↓dVar2, ↓dAug2, ↓dSet2, ↓dTgN2, ↓dTgW2, ↓dVar3, ↓dAug3, ↓dSet3, ↓dTgN3, ↓dTgW3, ↓dVar4, ↓dAug4, ↓dSet4, ↓dTgN4, ↓dTgW4, ↓dVar5, ↓dAug5, ↓dSet5, ↓dTgN5, ↓dTgW5, ↓dVar6, ↓dAug6, ↓dSet6, ↓dTgN6, ↓dTgW6, ↓dVar7, ↓dAug7, ↓dSet7, ↓dTgN7, ↓dTgW7, ↓dVar8, ↓dAug8, ↓dSet8, ↓dTgN8, ↓dTgW8, ↓dVar9, ↓dAug9, ↓dSet9, ↓dTgN9, ↓dTgW9, ↓dVar10, ↓dAug10, ↓dSet10, ↓dTgN10, ↓dTgW10, ↓dVar11, ↓dAug11, ↓dSet11, ↓dTgN11, ↓dTgW11, ↓dVar12, ↓dAug12, ↓dSet12, ↓dTgN12, ↓dTgW12, ↓dVar13, ↓dAug13, ↓dSet13, ↓dTgN13, ↓dTgW13, ↓dVar14, ↓dAug14, ↓dSet14, ↓dTgN14, ↓dTgW14, ↓dVar15, ↓dAug15, ↓dSet15, ↓dTgN15, ↓dTgW15, ↓dVar16, ↓dAug16, ↓dSet16, ↓dTgN16, ↓dTgW16, ↓dVar17, ↓dAug17, ↓dSet17, ↓dTgN17, ↓dTgW17, ↓dVar18, ↓dAug18, ↓dSet18, ↓dTgN18, ↓dTgW18, ↓dVar19, ↓dAug19, ↓dSet19, ↓dTgN19, ↓dTgW19, ↓dTg_t2, ↓dTg_t3, ↓exGetM, ↓exSumU, nD, plD, rwD, ↓dAdd_tup, ↓dAdd_ref, dIx_tup, dIx_str, dIx_ref, dIx_kl, dListOf_tup, dListOf_kl, dListOf_ref, dLen_tup, dLen_str, dLen_kl, dLen_ref, dTupOf_tup, dTupOf_ref, dSeqI_x, sqX_tup, sqX_ref, sqX_str, dEnumI_x, enX_tup, enX_ref, dSrtSet, dSortA, dIsi2, isT2, Bool.or_true, Bool.true_or, Bool.or_false, Bool.or_self, dReprR, dReprT, dDGet2, ↓exLS hf]
    refine forL rwD (chz (mts l) i) (fun l1 δ M' => Sub M' M3 ∧ (∀ w ∈ l1, ¬ (chO (wo l w) : Int) ≤ m) ∧ ∃ a, δ = [some x, some (.int m), some (.ref q), some (nD i), a, c, d]) rfl ⟨Sub.refl, by simp, _, rfl⟩ ?_ ?_
    · rintro l1 w t δ' M4 pre2 P2 e2 ⟨s4, hal, a2, rfl⟩ hP2
      refine ⟨.inl (s4.1 _ _ hf), ?_⟩
      subst t5
      simp (config := {failIfUnchanged := false}) only [dC, dOp, dTest, dChain, dAnd, dOr, dNot, dAndV, dOrV, dNotV, dIf, dNil, dCons, dTup, dLst, dCB, d1, dNoPart, dPart, dSl, dCut, dNeg, dSorted, dSum, dAll, dAny, dInt, dAbs, dMax, dMin, dIsi, isT, dNext, dSeq, dBrk, dCont, dNever, dExpr, dRet, dRetN, dIfS, dAsg, dPutI, dI0, dI, dIsN, dNotN, dRng1, dRng2, dRngDn, dZipI, dYes, dCall, dLM, dAppend, dExtend, dReverse, dInsert, dAugI, dRg1, dRg2, dTupRg, dLstRg, dNewK, dNewT, ↓S0_, ↓S1_, ↓S2_, ↓S3_, ↓S4_, ↓S5_, ↓S6_, List.map_cons, List.map_nil, List.length_cons, List.length_nil, List.replicate, List.cons_append, List.nil_append, Nat.reduceAdd, Nat.reduceSub, Nat.zero_add, List.getElem?_cons_zero, List.getElem?_cons_succ, Option.some.injEq, exists_eq_left, exists_eq_left', List.set_cons_zero, List.set_cons_succ, wipeD, D.int.injEq, D.bl.injEq, D.str.injEq, D.ref.injEq, D.tup.injEq, D.ty.injEq, true_and, and_true, forall_const, forall_eq', forall_eq, mt_int, mt_bool, mt_str, mt_tuple, mt_list, mt_dict, st_int_int, st_int_bool, st_int_str, st_int_tuple, st_int_list, st_int_dict, st_bool_int, st_bool_bool, st_bool_str, st_bool_tuple, st_bool_list, st_bool_dict, st_str_int, st_str_bool, st_str_str, st_str_tuple, st_str_list, st_str_dict, st_tuple_int, st_tuple_bool, st_tuple_str, st_tuple_tuple, st_tuple_list, st_tuple_dict, st_list_int, st_list_bool, st_list_str, st_list_tuple, st_list_list, st_list_dict, st_dict_int, st_dict_bool, st_dict_str, st_dict_tuple, st_dict_list, st_dict_dict, eq_self, Bool.true_eq_false, Bool.false_eq_true, false_implies, true_implies, implies_true, decide_eq_true_eq, decide_eq_false_iff_not, Bool.not_true, Bool.not_false, Bool.not_eq_true, Bool.not_eq_false, Bool.not_eq_true', Bool.not_eq_false', not_true_eq_false, not_false_eq_true, false_and, and_false, or_false, false_or, reduceCtorEq, ↓exLSu, ↓exDKu, ↓exDKd, ↓exLSd, ↓exLu, ↓dIxRu, ↓dPutu, ↓dGetAu, ↓dEq_int, ↓dNe_int, ↓dEq_bl, ↓dNe_bl, ↓dEq_str, ↓dNe_str, ↓dAdd_int, ↓exAt10, ↓exIx10, ↓exAt20, ↓exIx20, ↓exAt21, ↓exIx21, ↓exAt30, ↓exIx30, ↓exAt31, ↓exIx31, ↓exAt32, ↓exIx32, ↓exAt40, ↓exIx40, ↓exAt41, ↓exIx41, ↓exAt42, ↓exIx42, ↓exAt43, ↓exIx43, ↓exAt50, ↓exIx50, ↓exAt51, ↓exIx51, ↓exAt52, ↓exIx52, ↓exAt53, ↓exIx53, ↓exAt54, ↓exIx54, ↓exAt60, ↓exIx60, ↓exAt61, ↓exIx61, ↓exAt62, ↓exIx62, ↓exAt63, ↓exIx63, ↓exAt64, ↓exIx64, ↓exAt65, ↓exIx65, up_up, false_or, or_false, ↓exAtM, ↓dFlag_bl, ↓exBl, ↓exInt, ↓exRef, ↓dVar0, ↓dAug0, ↓dSet0, ↓dTgN0, ↓dTgW0, ↓dVar1, ↓dAug1, ↓dSet1, ↓dTgN1, ↓dTgW1, ↓dVar2, ↓dAug2, ↓dSet2, ↓dTgN2, ↓dTgW2, ↓dVar3, ↓dAug3, ↓dSet3, ↓dTgN3, ↓dTgW3, ↓dVar4, ↓dAug4, ↓dSet4, ↓dTgN4, ↓dTgW4, ↓dVar5, ↓dAug5, ↓dSet5, ↓dTgN5, ↓dTgW5, ↓dVar6, ↓dAug6, ↓dSet6, ↓dTgN6, ↓dTgW6, ↓dVar7, ↓dAug7, ↓dSet7, ↓dTgN7, ↓dTgW7, ↓dVar8, ↓dAug8, ↓dSet8, ↓dTgN8, ↓dTgW8, ↓dVar9, ↓dAug9, ↓dSet9, ↓dTgN9, ↓dTgW9, ↓dVar10, ↓dAug10, ↓dSet10, ↓dTgN10, ↓dTgW10, ↓dVar11, ↓dAug11, ↓dSet11, ↓dTgN11, ↓dTgW11, ↓dVar12, ↓dAug12, ↓dSet12, ↓dTgN12, ↓dTgW12, ↓dVar13, ↓dAug13, ↓dSet13, ↓dTgN13, ↓dTgW13, ↓dVar14, ↓dAug14, ↓dSet14, ↓dTgN14, ↓dTgW14, ↓dVar15, ↓dAug15, ↓dSet15, ↓dTgN15, ↓dTgW15, ↓dVar16, ↓dAug16, ↓dSet16, ↓dTgN16, ↓dTgW16, ↓dVar17, ↓dAug17, ↓dSet17, ↓dTgN17, ↓dTgW17, ↓dVar18, ↓dAug18, ↓dSet18, ↓dTgN18, ↓dTgW18, ↓dVar19, ↓dAug19, ↓dSet19, ↓dTgN19, ↓dTgW19, ↓dTg_t2, ↓dTg_t3, ↓exGetM, ↓exSumU, nD, plD, rwD, ↓dAdd_tup, ↓dAdd_ref, dIx_tup, dIx_str, dIx_ref, dIx_kl, dListOf_tup, dListOf_kl, dListOf_ref, dLen_tup, dLen_str, dLen_kl, dLen_ref, dTupOf_tup, dTupOf_ref, dSeqI_x, sqX_tup, sqX_ref, sqX_str, dEnumI_x, enX_tup, enX_ref, dSrtSet, dSortA, dIsi2, isT2, Bool.or_true, Bool.true_or, Bool.or_false, Bool.or_self, dReprR, dReprT, dDGet2]
      have s5 := ((s4.trans s3).trans s2).trans s1
      have wl : w.length = i := chz_len i w (by rw [e2]; simp)
      have sl := wo_sl l w
      have sl1 := sl.length_le
      refine ⟨l, w, hd.sub s5, rfl, by omega, fun f2 M5 s6 hf20 hf2 => ?_⟩
      have h40 : puts (wo l w) ≤ 40 := Nat.le_trans (puts_sl sl) hd.pt
      refine ⟨wo l w, ⟨sqL hf2, by omega, h40, fun e he => hd.ok e (sl.subset he)⟩, _, rfl, plO_snd h40, fun z => ?_, fun z => sb0 (hP2 _ _ ⟨s6.trans s4, fun w2 hw2 => ?_, _, rfl⟩)⟩
      · have := Lo_some hi e2 hall hal z
        rw [this] at h
        exact (s6.trans s5).dn h
      · rcases List.mem_append.mp hw2 with y | y
        · exact hal w2 y
        · rw [List.mem_singleton] at y
          subst y
          exact z
    · rintro δ' M4 ⟨s4, hal, a2, rfl⟩
      refine ⟨.inl (s4.1 _ _ hf), ?_⟩
      rw [h5]
      simp (config := {failIfUnchanged := false}) only [dC, dOp, dTest, dChain, dAnd, dOr, dNot, dAndV, dOrV, dNotV, dIf, dNil, dCons, dTup, dLst, dCB, d1, dNoPart, dPart, dSl, dCut, dNeg, dSorted, dSum, dAll, dAny, dInt, dAbs, dMax, dMin, dIsi, isT, dNext, dSeq, dBrk, dCont, dNever, dExpr, dRet, dRetN, dIfS, dAsg, dPutI, dI0, dI, dIsN, dNotN, dRng1, dRng2, dRngDn, dZipI, dYes, dCall, dLM, dAppend, dExtend, dReverse, dInsert, dAugI, dRg1, dRg2, dTupRg, dLstRg, dNewK, dNewT, ↓S0_, ↓S1_, ↓S2_, ↓S3_, ↓S4_, ↓S5_, ↓S6_, List.map_cons, List.map_nil, List.length_cons, List.length_nil, List.replicate, List.cons_append, List.nil_append, Nat.reduceAdd, Nat.reduceSub, Nat.zero_add, List.getElem?_cons_zero, List.getElem?_cons_succ, Option.some.injEq, exists_eq_left, exists_eq_left', List.set_cons_zero, List.set_cons_succ, wipeD, D.int.injEq, D.bl.injEq, D.str.injEq, D.ref.injEq, D.tup.injEq, D.ty.injEq, true_and, and_true, forall_const, forall_eq', forall_eq, mt_int, mt_bool, mt_str, mt_tuple, mt_list, mt_dict, st_int_int, st_int_bool, st_int_str, st_int_tuple, st_int_list, st_int_dict, st_bool_int, st_bool_bool, st_bool_str, st_bool_tuple, st_bool_list, st_bool_dict, st_str_int, st_str_bool, st_str_str, st_str_tuple, st_str_list, st_str_dict, st_tuple_int, st_tuple_bool, st_tuple_str, st_tuple_tuple, st_tuple_list, st_tuple_dict, st_list_int, st_list_bool, st_list_str, st_list_tuple, st_list_list, st_list_dict, st_dict_int, st_dict_bool, st_dict_str, st_dict_tuple, st_dict_list, st_dict_dict, eq_self, Bool.true_eq_false, Bool.false_eq_true, false_implies, true_implies, implies_true, decide_eq_true_eq, decide_eq_false_iff_not, Bool.not_true, Bool.not_false, Bool.not_eq_true, Bool.not_eq_false, Bool.not_eq_true', Bool.not_eq_false', not_true_eq_false, not_false_eq_true, false_and, and_false, or_false, false_or, reduceCtorEq, ↓exLSu, ↓exDKu, ↓exDKd, ↓exLSd, ↓exLu, ↓dIxRu, ↓dPutu, ↓dGetAu, ↓dEq_int, ↓dNe_int, ↓dEq_bl, ↓dNe_bl, ↓dEq_str, ↓dNe_str, ↓dAdd_int, ↓exAt10, ↓exIx10, ↓exAt20, ↓exIx20, ↓exAt21, ↓exIx21, ↓exAt30, ↓exIx30, ↓exAt31, ↓exIx31, ↓exAt32, ↓exIx32, ↓exAt40, ↓exIx40, ↓exAt41, ↓exIx41, ↓exAt42, ↓exIx42, ↓exAt43, ↓exIx43, ↓exAt50, ↓exIx50, ↓exAt51, ↓exIx51, ↓exAt52, ↓exIx52, ↓exAt53, ↓exIx53, ↓exAt54, ↓exIx54, ↓exAt60, ↓exIx60, ↓exAt61, ↓exIx61, ↓exAt62, ↓exIx62, ↓exAt63, ↓exIx63, ↓exAt64, ↓exIx64, ↓exAt65, ↓exIx65, up_up, false_or, or_false, ↓exAtM, ↓dFlag_bl, ↓exBl, ↓exInt, ↓exRef, ↓dVar0, ↓dAug0, ↓dSet0, ↓dTgN0, ↓dTgW0, ↓dVar1, ↓dAug1, ↓dSet1, ↓dTgN1, ↓dTgW1, ↓dVar2, ↓dAug2, ↓dSet2, ↓dTgN2, ↓dTgW2, ↓dVar3, ↓dAug3, ↓dSet3, ↓dTgN3, ↓dTgW3, ↓dVar4, ↓dAug4, ↓dSet4, ↓dTgN4, ↓dTgW4, ↓dVar5, ↓dAug5, ↓dSet5, ↓dTgN5, ↓dTgW5, ↓dVar6, ↓dAug6, ↓dSet6, ↓dTgN6, ↓dTgW6, ↓dVar7, ↓dAug7, ↓dSet7, ↓dTgN7, ↓dTgW7, ↓dVar8, ↓dAug8, ↓dSet8, ↓dTgN8, ↓dTgW8, ↓dVar9, ↓dAug9, ↓dSet9, ↓dTgN9, ↓dTgW9, ↓dVar10, ↓dAug10, ↓dSet10, ↓dTgN10, ↓dTgW10, ↓dVar11, ↓dAug11, ↓dSet11, ↓dTgN11, ↓dTgW11, ↓dVar12, ↓dAug12, ↓dSet12, ↓dTgN12, ↓dTgW12, ↓dVar13, ↓dAug13, ↓dSet13, ↓dTgN13, ↓dTgW13, ↓dVar14, ↓dAug14, ↓dSet14, ↓dTgN14, ↓dTgW14, ↓dVar15, ↓dAug15, ↓dSet15, ↓dTgN15, ↓dTgW15, ↓dVar16, ↓dAug16, ↓dSet16, ↓dTgN16, ↓dTgW16, ↓dVar17, ↓dAug17, ↓dSet17, ↓dTgN17, ↓dTgW17, ↓dVar18, ↓dAug18, ↓dSet18, ↓dTgN18, ↓dTgW18, ↓dVar19, ↓dAug19, ↓dSet19, ↓dTgN19, ↓dTgW19, ↓dTg_t2, ↓dTg_t3, ↓exGetM, ↓exSumU, nD, plD, rwD, ↓dAdd_tup, ↓dAdd_ref, dIx_tup, dIx_str, dIx_ref, dIx_kl, dListOf_tup, dListOf_kl, dListOf_ref, dLen_tup, dLen_str, dLen_kl, dLen_ref, dTupOf_tup, dTupOf_ref, dSeqI_x, sqX_tup, sqX_ref, sqX_str, dEnumI_x, enX_tup, enX_ref, dSrtSet, dSortA, dIsi2, isT2, Bool.or_true, Bool.true_or, Bool.or_false, Bool.or_self, dReprR, dReprT, dDGet2]
      refine sb0 (hP _ _ ⟨(s4.trans s3).trans s2, fun w hw => ?_, _, _, _, _, rfl⟩)
      rw [allc_succ] at hw
      exact (List.mem_append.mp hw).elim (hall w) (hal w)
  · rintro δ' M2 ⟨s2, hall, a, b, c, d, rfl⟩
    rw [rg_len] at hall
    rw [h2]
    simp (config := {failIfUnchanged := false}) only [dC, dOp, dTest, dChain, dAnd, dOr, dNot, dAndV, dOrV, dNotV, dIf, dNil, dCons, dTup, dLst, dCB, d1, dNoPart, dPart, dSl, dCut, dNeg, dSorted, dSum, dAll, dAny, dInt, dAbs, dMax, dMin, dIsi, isT, dNext, dSeq, dBrk, dCont, dNever, dExpr, dRet, dRetN, dIfS, dAsg, dPutI, dI0, dI, dIsN, dNotN, dRng1, dRng2, dRngDn, dZipI, dYes, dCall, dLM, dAppend, dExtend, dReverse, dInsert, dAugI, dRg1, dRg2, dTupRg, dLstRg, dNewK, dNewT, ↓S0_, ↓S1_, ↓S2_, ↓S3_, ↓S4_, ↓S5_, ↓S6_, List.map_cons, List.map_nil, List.length_cons, List.length_nil, List.replicate, List.cons_append, List.nil_append, Nat.reduceAdd, Nat.reduceSub, Nat.zero_add, List.getElem?_cons_zero, List.getElem?_cons_succ, Option.some.injEq, exists_eq_left, exists_eq_left', List.set_cons_zero, List.set_cons_succ, wipeD, D.int.injEq, D.bl.injEq, D.str.injEq, D.ref.injEq, D.tup.injEq, D.ty.injEq, true_and, and_true, forall_const, forall_eq', forall_eq, mt_int, mt_bool, mt_str, mt_tuple, mt_list, mt_dict, st_int_int, st_int_bool, st_int_str, st_int_tuple, st_int_list, st_int_dict, st_bool_int, st_bool_bool, st_bool_str, st_bool_tuple, st_bool_list, st_bool_dict, st_str_int, st_str_bool, st_str_str, st_str_tuple, st_str_list, st_str_dict, st_tuple_int, st_tuple_bool, st_tuple_str, st_tuple_tuple, st_tuple_list, st_tuple_dict, st_list_int, st_list_bool, st_list_str, st_list_tuple, st_list_list, st_list_dict, st_dict_int, st_dict_bool, st_dict_str, st_dict_tuple, st_dict_list, st_dict_dict, eq_self, Bool.true_eq_false, Bool.false_eq_true, false_implies, true_implies, implies_true, decide_eq_true_eq, decide_eq_false_iff_not, Bool.not_true, Bool.not_false, Bool.not_eq_true, Bool.not_eq_false, Bool.not_eq_true', Bool.not_eq_false', not_true_eq_false, not_false_eq_true, false_and, and_false, or_false, false_or, reduceCtorEq, ↓exLSu, ↓exDKu, ↓exDKd, ↓exLSd, ↓exLu, ↓dIxRu, ↓dPutu, ↓dGetAu, ↓dEq_int, ↓dNe_int, ↓dEq_bl, ↓dNe_bl, ↓dEq_str, ↓dNe_str, ↓dAdd_int, ↓exAt10, ↓exIx10, ↓exAt20, ↓exIx20, ↓exAt21, ↓exIx21, ↓exAt30, ↓exIx30, ↓exAt31, ↓exIx31, ↓exAt32, ↓exIx32, ↓exAt40, ↓exIx40, ↓exAt41, ↓exIx41, ↓exAt42, ↓exIx42, ↓exAt43, ↓exIx43, ↓exAt50, ↓exIx50, ↓exAt51, ↓exIx51, ↓exAt52, ↓exIx52, ↓exAt53, ↓exIx53, ↓exAt54, ↓exIx54, ↓exAt60, ↓exIx60, ↓exAt61, ↓exIx61, ↓exAt62, ↓exIx62, ↓exAt63, ↓exIx63, ↓exAt64, ↓exIx64, ↓exAt65, ↓exIx65, up_up, false_or, or_false, ↓exAtM, ↓dFlag_bl, ↓exBl, ↓exInt, ↓exRef, ↓dVar0, ↓dAug0, ↓dSet0, ↓dTgN0, ↓dTgW0, ↓dVar1, ↓dAug1, ↓dSet1, ↓dTgN1, ↓dTgW1, ↓dVar2, ↓dAug2, ↓dSet2, ↓dTgN2, ↓dTgW2, ↓dVar3, ↓dAug3, ↓dSet3, ↓dTgN3, ↓dTgW3, ↓dVar4, ↓dAug4, ↓dSet4, ↓dTgN4, ↓dTgW4, ↓dVar5, ↓dAug5, ↓dSet5, ↓dTgN5, ↓dTgW5, ↓dVar6, ↓dAug6, ↓dSet6, ↓dTgN6, ↓dTgW6, ↓dVar7, ↓dAug7, ↓dSet7, ↓dTgN7, ↓dTgW7, ↓dVar8, ↓dAug8, ↓dSet8, ↓dTgN8, ↓dTgW8, ↓dVar9, ↓dAug9, ↓dSet9, ↓dTgN9, ↓dTgW9, ↓dVar10, ↓dAug10, ↓dSet10, ↓dTgN10, ↓dTgW10, ↓dVar11, ↓dAug11, ↓dSet11, ↓dTgN11, ↓dTgW11, ↓dVar12, ↓dAug12, ↓dSet12, ↓dTgN12, ↓dTgW12, ↓dVar13, ↓dAug13, ↓dSet13, ↓dTgN13, ↓dTgW13, ↓dVar14, ↓dAug14, ↓dSet14, ↓dTgN14, ↓dTgW14, ↓dVar15, ↓dAug15, ↓dSet15, ↓dTgN15, ↓dTgW15, ↓dVar16, ↓dAug16, ↓dSet16, ↓dTgN16, ↓dTgW16, ↓dVar17, ↓dAug17, ↓dSet17, ↓dTgN17, ↓dTgW17, ↓dVar18, ↓dAug18, ↓dSet18, ↓dTgN18, ↓dTgW18, ↓dVar19, ↓dAug19, ↓dSet19, ↓dTgN19, ↓dTgW19, ↓dTg_t2, ↓dTg_t3, ↓exGetM, ↓exSumU, nD, plD, rwD, ↓dAdd_tup, ↓dAdd_ref, dIx_tup, dIx_str, dIx_ref, dIx_kl, dListOf_tup, dListOf_kl, dListOf_ref, dLen_tup, dLen_str, dLen_kl, dLen_ref, dTupOf_tup, dTupOf_ref, dSeqI_x, sqX_tup, sqX_ref, sqX_str, dEnumI_x, enX_tup, enX_ref, dSrtSet, dSortA, dIsi2, isT2, Bool.or_true, Bool.true_or, Bool.or_false, Bool.or_self, dReprR, dReprT, dDGet2]
    rw [Lo_none hall] at h
    exact (s2.trans s1).dn h
end
/-- pairs of a row's length and the row -/
def pR (w : List Nat) : D := .tup [nD w.length, rwD w]
def pG (w : List Nat) : PyData := .tuple [.int (w.length : Int), .tuple (w.map fun n : Nat => PyData.int n)]
theorem ltl_pair : LikeLt pR pG 2 ltR := by
  have er : ∀ a b : List Nat, PyData.eqv (.tuple (a.map fun n : Nat => PyData.int n)) (.tuple (b.map fun n : Nat => PyData.int n)) = decide (a = b) := like_row.eqv
  refine ⟨⟨fun a b => ?_, fun a => ?_, fun a => ?_, fun M a => .tup (.cons (.int _) (.cons (like_row.pd M a) .nil))⟩, fun a b => ?_, fun a b => ?_⟩
  · unfold pG
    rw [PyData.eqv, PyData.eqvAll, PyData.eqvAll, PyData.eqvAll, er, PyData.eqv]
    by_cases e : a = b
    · subst e; simp
    · simp [e]
  · unfold pG
    rw [PyData.canLay0, PyData.canLayAll0, PyData.canLayAll0, PyData.canLayAll0, like_row.lay, PyData.canLay0]; rfl
  · have key : ∀ x y : PyData, x.depth ≤ 1 → y.depth ≤ 1 → (PyData.tuple [x, y]).depth ≤ 2 := fun x y h1 h2 => by
      rw [PyData.depth, PyData.depthAll, PyData.depthAll, PyData.depthAll]
      omega
    exact key _ _ (by rw [PyData.depth]; omega) (like_row.dep a)
  · have := ltl_row.al a b
    unfold pG
    show (PySem.W.alike (PyData.int (a.length : Int)) (PyData.int (b.length : Int)) && (PySem.W.alike _ _ && true)) = true
    rw [this]; rfl
  · unfold pG
    rw [PySem.W.dataLt_tuple]
    by_cases e : a.length = b.length
    · rw [PySem.W.dataLt_all_yes rfl (by rw [PyData.eqv, e]; simp)]
      by_cases e2 : a = b
      · subst e2
        rw [PySem.W.dataLt_all_yes (ltl_row.al a a) (by rw [er, decide_eq_true rfl]), ltR_irr]
        exact toks_nil []
      · rw [PySem.W.dataLt_all_no (ltl_row.al a b) (by rw [er, decide_eq_false e2]), ltl_row.lt]
        unfold ltR
        rw [decide_eq_false (by omega), decide_eq_true e, Bool.true_and, Bool.false_or]
    · rw [PySem.W.dataLt_all_no rfl (by rw [PyData.eqv]; simp; omega), PySem.W.dataLt_int]
      unfold ltR
      rw [decide_eq_false e, Bool.false_and, Bool.or_false]
      exact decide_eq_decide.mpr Int.ofNat_lt
section
variable {P : Program} {w : World} {K : PySem.W.Frag} {mg : Str → Option Value} {base : Heap}
theorem pr_law (G : Gv K mg) : PrG P w K mg base "law" 8 ["_law_script"] SLaw := by
  refine (prG3 (k := 7) G.d_law bi_law sc_law S1n (fun f cdv A outer s H E hr hgd => (b_cons (s_set 1 sc_law.nd (e_callP (pr__law_pool G) (hr.mono (by decide)) (by rfl) pass0 (a_cons (e_var 0) a_nil)))
      (b_cons (s_set 2 sc_law.nd (e_callP (pr__law_draw G) (hr.mono (by decide)) (by rfl) pass0 (a_cons (e_var 1) (a_cons e_int a_nil))))
      (b_cons (s_set 3 sc_law.nd (e_callP (pr__law_draw G) (hr.mono (by decide)) (by rfl) pass0 (a_cons (e_var 1) (a_cons e_int a_nil))))
      (b_cons (s_set 4 sc_law.nd (e_callP (pr__law_day G) (hr.mono (by decide)) (by rfl) pass0 (a_cons (e_var 1) a_nil)))
      (b_cons (s_set 5 sc_law.nd (e_callP (pr__law_choices G) (hr.mono (by decide)) (by rfl) pass0 (a_cons (e_var 4) a_nil)))
      (b_cons (s_set 6 sc_law.nd (e_lc (own := [("_law_left", 12)]) rfl sc_law.nd (i_seq (e_var 5)) (blkOk_by (by rfl)) (fun _ _ _ _ _ => (g_nm 12 sc_law.nd)) (fun _ _ _ _ _ => ts_nil) (fun _ _ _ _ _ => (e_callP (pr__law_chains G) (hr.mono (by decide)) (by rfl) pass0 (a_cons (e_callP (pr__law_without G) (hr.mono (by decide)) (by rfl) pass0 (a_cons (e_var 4) (a_cons (e_var 12) a_nil))) a_nil)))))
      (b_cons (s_set 7 sc_law.nd (e_ix (ixd (hu_of hr)) (e_var 6) (e_op od_mod (e_callTy cd_int (by rfl) G.b_int rfl (a_cons (e_var 2) a_nil)) (e_callB cd_len (by rfl) G.b_len rfl (a_cons (e_var 6) a_nil)))))
      (b_cut (s_if (PW3.pt (w_and (t_cmp (od_eq (hu3 hr)) (e_var 3) e_int) (w_and1 (t_cmp od_gt (e_var 7) e_int)))) (b_one (s_set 7 sc_law.nd (e_op od_sub (e_var 7) e_int))) b_nil)
      (b_cut (s_if (t_cmp (od_eq (hu3 hr)) (e_var 3) e_int) (b_one (s_set 7 sc_law.nd (e_callP (pr__law_draw G) (hr.mono (by decide)) (by rfl) pass0 (a_cons (e_var 1) (a_cons e_int a_nil))))) b_nil)
      (b_cons (s_set 8 sc_law.nd (e_callTy (cd_list rfl) (by rfl) G.b_list rfl (a_cons (e_var 4) a_nil)))
      (b_cut (s_if (t_cmp (od_eq (hu3 hr)) (e_callP (pr__law_draw G) (hr.mono (by decide)) (by rfl) pass0 (a_cons (e_var 1) (a_cons e_int a_nil))) e_int) (b_one (s_set 8 sc_law.nd (e_callTy cd_tuple (by rfl) G.b_tuple rfl (a_cons (e_var 4) a_nil)))) b_nil)
      (b_cons (s_set 9 sc_law.nd (e_callB (cd_reprG (hu3 hr) hgd) (by rfl) G.b_repr rfl (a_cons (e_var 8) a_nil)))
      (b_cons (s_set 10 sc_law.nd (e_callP (pr_left_out G) (hr.mono (by decide)) (by rfl) pass0 (a_cons (e_var 8) (a_cons (e_var 7) a_nil))))
      (b_cons (s_if (PW3.pt (w_or (t_cmp (od_ne (hu3 hr)) (e_callB (cd_reprG (hu3 hr) hgd) (by rfl) G.b_repr rfl (a_cons (e_var 8) a_nil)) (e_var 9)) (w_or1 (t_not (t_val (e_callP (pr__law_is_row G) (hr.mono (by decide)) (by rfl) pass0 (a_cons (e_callP (pr_left_out G) (hr.mono (by decide)) (by rfl) pass0 (a_cons (e_var 8) (a_cons (e_ix (ixd (hu_of hr)) (e_var 6) e_int) a_nil))) (a_cons (e_tup a_nil) a_nil)))))))) (b_one (s_ret e_bl)) b_nil)
      (b_cons (s_set 11 sc_law.nd (e_callB (cd_sortA (hu3 hr)) (by rfl) G.b_sorted rfl (a_cons (e_lc (own := [("_law_k", 13)]) rfl sc_law.nd (i_rng1 (by rfl) G.b_range (a_cons (e_callB cd_len (by rfl) G.b_len rfl (a_cons (e_var 5) a_nil)) a_nil)) (blkOk_by (by rfl)) (fun _ _ _ _ _ => (g_nm 13 sc_law.nd)) (fun _ _ _ _ _ => (ts_one (t_cmp od_le (e_ix (ixd (hu_of hr)) (e_var 6) (e_var 13)) (e_var 7)))) (fun _ _ _ _ _ => (e_tup (a_cons (e_callB cd_len (by rfl) G.b_len rfl (a_cons (e_ix (ixd (hu_of hr)) (e_var 5) (e_var 13)) a_nil)) (a_cons (e_ix (ixd (hu_of hr)) (e_var 5) (e_var 13)) a_nil))))) a_nil)))
      (b_cons (s_if (t_cmp (od_eq (hu3 hr)) (e_callB cd_len (by rfl) G.b_len rfl (a_cons (e_var 11) a_nil)) e_int) (b_one (s_ret (e_cmp od_is (e_var 10) e_non))) b_nil)
      (b_cons (s_if (t_not (t_val (e_callP (pr__law_is_row G) (hr.mono (by decide)) (by rfl) pass0 (a_cons (e_var 10) (a_cons (e_ix (ixd (hu_of hr)) (e_ix (ixd (hu_of hr)) (e_var 11) e_int) e_int) a_nil))))) (b_one (s_ret e_bl)) b_nil)
      (b_one (s_ret (e_callP (pr__law_is_row G) (hr.mono (by decide)) (by rfl) pass0 (a_cons (e_callP (pr_left_out G) (hr.mono (by decide)) (by rfl) pass0 (a_cons (e_callP (pr__law_without G) (hr.mono (by decide)) (by rfl) pass0 (a_cons (e_var 4) (a_cons (e_var 10) a_nil))) (a_cons (e_var 7) a_nil))) (a_cons (e_tup a_nil) a_nil)))))))))))))))))))))))) ?_
  rintro _ M Q E ⟨x, rfl, ns, hl, hs, h⟩ H rep
  refine ⟨M, rep, fun _ h => h, ?_⟩
  simp only [startD, List.map_cons, List.map_nil, List.length_cons, List.length_nil, Nat.reduceAdd, Nat.reduceSub, Nat.zero_add, List.replicate, List.cons_append, List.nil_append]; simp (config := {failIfUnchanged := false}) only [dC, dOp, dTest, dChain, dAnd, dOr, dNot, dAndV, dOrV, dNotV, dIf, dNil, dCons, dTup, dLst, dCB, d1, dNoPart, dPart, dSl, dCut, dNeg, dSorted, dSum, dAll, dAny, dInt, dAbs, dMax, dMin, dIsi, isT, dNext, dSeq, dBrk, dCont, dNever, dExpr, dRet, dRetN, dIfS, dAsg, dPutI, dI0, dI, dIsN, dNotN, dRng1, dRng2, dRngDn, dZipI, dYes, dCall, dLM, dAppend, dExtend, dReverse, dInsert, dAugI, dRg1, dRg2, dTupRg, dLstRg, dNewK, dNewT, ↓S0_, ↓S1_, ↓S2_, ↓S3_, ↓S4_, ↓S5_, ↓S6_, List.map_cons, List.map_nil, List.length_cons, List.length_nil, List.replicate, List.cons_append, List.nil_append, Nat.reduceAdd, Nat.reduceSub, Nat.zero_add, List.getElem?_cons_zero, List.getElem?_cons_succ, Option.some.injEq, exists_eq_left, exists_eq_left', List.set_cons_zero, List.set_cons_succ, wipeD, D.int.injEq, D.bl.injEq, D.str.injEq, D.ref.injEq, D.tup.injEq, D.ty.injEq, true_and, and_true, forall_const, forall_eq', forall_eq, mt_int, mt_bool, mt_str, mt_tuple, mt_list, mt_dict, st_int_int, st_int_bool, st_int_str, st_int_tuple, st_int_list, st_int_dict, st_bool_int, st_bool_bool, st_bool_str, st_bool_tuple, st_bool_list, st_bool_dict, st_str_int, st_str_bool, st_str_str, st_str_tuple, st_str_list, st_str_dict, st_tuple_int, st_tuple_bool, st_tuple_str, st_tuple_tuple, st_tuple_list, st_tuple_dict, st_list_int, st_list_bool, st_list_str, st_list_tuple, st_list_list, st_list_dict, st_dict_int, st_dict_bool, st_dict_str, st_dict_tuple, st_dict_list, st_dict_dict, eq_self, Bool.true_eq_false, Bool.false_eq_true, false_implies, true_implies, implies_true, decide_eq_true_eq, decide_eq_false_iff_not, Bool.not_true, Bool.not_false, Bool.not_eq_true, Bool.not_eq_false, Bool.not_eq_true', Bool.not_eq_false', not_true_eq_false, not_false_eq_true, false_and, and_false, or_false, false_or, reduceCtorEq, ↓exLSu, ↓exDKu, ↓exDKd, ↓exLSd, ↓exLu, ↓dIxRu, ↓dPutu, ↓dGetAu, ↓dEq_int, ↓dNe_int, ↓dEq_bl, ↓dNe_bl, ↓dEq_str, ↓dNe_str, ↓dAdd_int, ↓exAt10, ↓exIx10, ↓exAt20, ↓exIx20, ↓exAt21, ↓exIx21, ↓exAt30, ↓exIx30, ↓exAt31, ↓exIx31, ↓exAt32, ↓exIx32, ↓exAt40, ↓exIx40, ↓exAt41, ↓exIx41, ↓exAt42, ↓exIx42, ↓exAt43, ↓exIx43, ↓exAt50, ↓exIx50, ↓exAt51, ↓exIx51, ↓exAt52, ↓exIx52, ↓exAt53, ↓exIx53, ↓exAt54, ↓exIx54, ↓exAt60, ↓exIx60, ↓exAt61, ↓exIx61, ↓exAt62, ↓exIx62, ↓exAt63, ↓exIx63, ↓exAt64, ↓exIx64, ↓exAt65, ↓exIx65, up_up, false_or, or_false, ↓exAtM, ↓dFlag_bl, ↓exBl, ↓exInt, ↓exRef, ↓dVar0, ↓dAug0, ↓dSet0, ↓dTgN0, ↓dTgW0, ↓dVar1, ↓dAug1, ↓dSet1, ↓dTgN1, ↓dTgW1, ↓dVar2, ↓dAug2, ↓dSet2, ↓dTgN2, ↓dTgW2, ↓dVar3, ↓dAug3, ↓dSet3, ↓dTgN3, ↓dTgW3, ↓dVar4, ↓dAug4, ↓dSet4, ↓dTgN4, ↓dTgW4, ↓dVar5, ↓dAug5, ↓dSet5, ↓dTgN5, ↓dTgW5, ↓dVar6, ↓dAug6, ↓dSet6, ↓dTgN6, ↓dTgW6, ↓dVar7, ↓dAug7, ↓dSet7, ↓dTgN7, ↓dTgW7, ↓dVar8, ↓dAug8, ↓dSet8, ↓dTgN8, ↓dTgW8, ↓dVar9, ↓dAug9, ↓dSet9, ↓dTgN9, ↓dTgW9, ↓dVar10, ↓dAug10, ↓dSet10, ↓dTgN10, ↓dTgW10, ↓dVar11, ↓dAug11, ↓dSet11, ↓dTgN11, ↓dTgW11, ↓dVar12, ↓dAug12, ↓dSet12, ↓dTgN12, ↓dTgW12, ↓dVar13, ↓dAug13, ↓dSet13, ↓dTgN13, ↓dTgW13, ↓dVar14, ↓dAug14, ↓dSet14, ↓dTgN14, ↓dTgW14, ↓dVar15, ↓dAug15, ↓dSet15, ↓dTgN15, ↓dTgW15, ↓dVar16, ↓dAug16, ↓dSet16, ↓dTgN16, ↓dTgW16, ↓dVar17, ↓dAug17, ↓dSet17, ↓dTgN17, ↓dTgW17, ↓dVar18, ↓dAug18, ↓dSet18, ↓dTgN18, ↓dTgW18, ↓dVar19, ↓dAug19, ↓dSet19, ↓dTgN19, ↓dTgW19, ↓dTg_t2, ↓dTg_t3, ↓exGetM, ↓exSumU, nD, plD, rwD, ↓dAdd_tup, ↓dAdd_ref, dIx_tup, dIx_str, dIx_ref, dIx_kl, dListOf_tup, dListOf_kl, dListOf_ref, dLen_tup, dLen_str, dLen_kl, dLen_ref, dTupOf_tup, dTupOf_ref, dSeqI_x, sqX_tup, sqX_ref, sqX_str, dEnumI_x, enX_tup, enX_ref, dSrtSet, dSortA, dIsi2, isT2, Bool.or_true, Bool.true_or, Bool.or_false, Bool.or_self, dReprR, dReprT, dDGet2]
  refine ⟨ns, hl, hs, fun y M0 hp => ⟨64, rfl, hp, by omega, by omega, fun pk hpk => ⟨3, rfl, hp, by omega, by omega, fun kd hkd => ⟨hp, fun f M1 l s1 hf0 hf ll ml okl => ?_⟩⟩⟩⟩
  refine ⟨f, l, rfl, hf, by omega, by omega, fun g M2 s2 hg0 hg => ?_⟩
  have hf2 := s2.1 _ _ hf
  have dl : (dbl (mts l)).length ≤ 64 := by
    rw [dbl_len]
    exact Nat.pow_le_pow_right (n := 2) (by omega) ml
  have s12 := s2.trans s1
  refine dLc_g fun F1 T1 U1 h1 t1 u1 => ?_; simp only [dLc, dC, dOp, dTest, dChain, dAnd, dOr, dNot, dAndV, dOrV, dNotV, dIf, dNil, dCons, dTup, dLst, dCB, d1, dNoPart, dPart, dSl, dCut, dNeg, dSorted, dSum, dAll, dAny, dInt, dAbs, dMax, dMin, dIsi, isT, dNext, dSeq, dBrk, dCont, dNever, dExpr, dRet, dRetN, dIfS, dAsg, dPutI, dI0, dI, dIsN, dNotN, dRng1, dRng2, dRngDn, dZipI, dYes, dCall, dLM, dAppend, dExtend, dReverse, dInsert, dAugI, dRg1, dRg2, dTupRg, dLstRg, dNewK, dNewT, ↓S0_, ↓S1_, ↓S2_, ↓S3_, ↓S4_, ↓S5_, ↓S6_, List.map_cons, List.map_nil, List.length_cons, List.length_nil, List.replicate, List.cons_append, List.nil_append, Nat.reduceAdd, Nat.reduceSub, Nat.zero_add, List.getElem?_cons_zero, List.getElem?_cons_succ, Option.some.injEq, exists_eq_left, exists_eq_left', List.set_cons_zero, List.set_cons_succ, wipeD, D.int.injEq, D.bl.injEq, D.str.injEq, D.ref.injEq, D.tup.injEq, D.ty.injEq, true_and, and_true, forall_const, forall_eq', forall_eq, mt_int, mt_bool, mt_str, mt_tuple, mt_list, mt_dict, st_int_int, st_int_bool, st_int_str, st_int_tuple, st_int_list, st_int_dict, st_bool_int, st_bool_bool, st_bool_str, st_bool_tuple, st_bool_list, st_bool_dict, st_str_int, st_str_bool, st_str_str, st_str_tuple, st_str_list, st_str_dict, st_tuple_int, st_tuple_bool, st_tuple_str, st_tuple_tuple, st_tuple_list, st_tuple_dict, st_list_int, st_list_bool, st_list_str, st_list_tuple, st_list_list, st_list_dict, st_dict_int, st_dict_bool, st_dict_str, st_dict_tuple, st_dict_list, st_dict_dict, eq_self, Bool.true_eq_false, Bool.false_eq_true, false_implies, true_implies, implies_true, decide_eq_true_eq, decide_eq_false_iff_not, Bool.not_true, Bool.not_false, Bool.not_eq_true, Bool.not_eq_false, Bool.not_eq_true', Bool.not_eq_false', not_true_eq_false, not_false_eq_true, false_and, and_false, or_false, false_or, reduceCtorEq, ↓exLSu, ↓exDKu, ↓exDKd, ↓exLSd, ↓exLu, ↓dIxRu, ↓dPutu, ↓dGetAu, ↓dEq_int, ↓dNe_int, ↓dEq_bl, ↓dNe_bl, ↓dEq_str, ↓dNe_str, ↓dAdd_int, ↓exAt10, ↓exIx10, ↓exAt20, ↓exIx20, ↓exAt21, ↓exIx21, ↓exAt30, ↓exIx30, ↓exAt31, ↓exIx31, ↓exAt32, ↓exIx32, ↓exAt40, ↓exIx40, ↓exAt41, ↓exIx41, ↓exAt42, ↓exIx42, ↓exAt43, ↓exIx43, ↓exAt50, ↓exIx50, ↓exAt51, ↓exIx51, ↓exAt52, ↓exIx52, ↓exAt53, ↓exIx53, ↓exAt54, ↓exIx54, ↓exAt60, ↓exIx60, ↓exAt61, ↓exIx61, ↓exAt62, ↓exIx62, ↓exAt63, ↓exIx63, ↓exAt64, ↓exIx64, ↓exAt65, ↓exIx65, up_up, false_or, or_false, ↓exAtM, ↓dFlag_bl, ↓exBl, ↓exInt, ↓exRef, ↓dVar0, ↓dAug0, ↓dSet0, ↓dTgN0, ↓dTgW0, ↓dVar1, ↓dAug1, ↓dSet1, ↓dTgN1, ↓dTgW1, ↓dVar2, ↓dAug2, ↓dSet2, ↓dTgN2, ↓dTgW2, ↓dVar3, ↓dAug3, ↓dSet3, ↓dTgN3, ↓dTgW3, ↓dVar4, ↓dAug4, ↓dSet4, ↓dTgN4, ↓dTgW4, ↓dVar5, ↓dAug5, ↓dSet5, ↓dTgN5, ↓dTgW5, ↓dVar6, ↓dAug6, ↓dSet6, ↓dTgN6, ↓dTgW6, ↓dVar7, ↓dAug7, ↓dSet7, ↓dTgN7, ↓dTgW7, ↓dVar8, ↓dAug8, ↓dSet8, ↓dTgN8, ↓dTgW8, ↓dVar9, ↓dAug9, ↓dSet9, ↓dTgN9, ↓dTgW9, ↓dVar10, ↓dAug10, ↓dSet10, ↓dTgN10, ↓dTgW10, ↓dVar11, ↓dAug11, ↓dSet11, ↓dTgN11, ↓dTgW11, ↓dVar12, ↓dAug12, ↓dSet12, ↓dTgN12, ↓dTgW12, ↓dVar13, ↓dAug13, ↓dSet13, ↓dTgN13, ↓dTgW13, ↓dVar14, ↓dAug14, ↓dSet14, ↓dTgN14, ↓dTgW14, ↓dVar15, ↓dAug15, ↓dSet15, ↓dTgN15, ↓dTgW15, ↓dVar16, ↓dAug16, ↓dSet16, ↓dTgN16, ↓dTgW16, ↓dVar17, ↓dAug17, ↓dSet17, ↓dTgN17, ↓dTgW17, ↓dVar18, ↓dAug18, ↓dSet18, ↓dTgN18, ↓dTgW18, ↓dVar19, ↓dAug19, ↓dSet19, ↓dTgN19, ↓dTgW19, ↓dTg_t2, ↓dTg_t3, ↓exGetM, ↓exSumU, nD, plD, rwD, ↓dAdd_tup, ↓dAdd_ref, dIx_tup, dIx_str, dIx_ref, dIx_kl, dListOf_tup, dListOf_kl, dListOf_ref, dLen_tup, dLen_str, dLen_kl, dLen_ref, dTupOf_tup, dTupOf_ref, dSeqI_x, sqX_tup, sqX_ref, sqX_str, dEnumI_x, enX_tup, enX_ref, dSrtSet, dSortA, dIsi2, isT2, Bool.or_true, Bool.true_or, Bool.or_false, Bool.or_self, dReprR, dReprT, dDGet2]
  have wl : ∀ w ∈ dbl (mts l), w.length ≤ 6 := fun w hw => by
    obtain ⟨b1, b2⟩ := (dbl_mem _ (mts_asc _) w).mp hw
    have := asc_len b1 b2
    omega
  have okw : ∀ w, (wo l w).length ≤ 60 ∧ puts (wo l w) ≤ 40 ∧ ∀ e ∈ wo l w, e.ok := fun w => by
    have sl := wo_sl l w
    have h1 := sl.length_le
    have h2 := puts_sl sl
    have h3 := puts_le l
    exact ⟨by omega, by omega, fun e he => okl e (sl.subset he)⟩
  refine ⟨_, .inl hg, by rw [List.length_map]; exact Nat.le_of_lt (small1000 (by omega)), lcM rwD (fun w => nD (chO (wo l w))) (dbl (mts l)) rfl (fun l1 w t pre acc P2 e1 hP2 => ⟨.inl hg, ?_⟩) ⟨.inl hg, fun q hq => ?_⟩⟩
  · have w6 := wl w (by rw [e1]; simp)
    obtain ⟨k1, k2, k3⟩ := okw w
    subst t1; subst u1
    simp (config := {failIfUnchanged := false}) only [dC, dOp, dTest, dChain, dAnd, dOr, dNot, dAndV, dOrV, dNotV, dIf, dNil, dCons, dTup, dLst, dCB, d1, dNoPart, dPart, dSl, dCut, dNeg, dSorted, dSum, dAll, dAny, dInt, dAbs, dMax, dMin, dIsi, isT, dNext, dSeq, dBrk, dCont, dNever, dExpr, dRet, dRetN, dIfS, dAsg, dPutI, dI0, dI, dIsN, dNotN, dRng1, dRng2, dRngDn, dZipI, dYes, dCall, dLM, dAppend, dExtend, dReverse, dInsert, dAugI, dRg1, dRg2, dTupRg, dLstRg, dNewK, dNewT, ↓S0_, ↓S1_, ↓S2_, ↓S3_, ↓S4_, ↓S5_, ↓S6_, List.map_cons, List.map_nil, List.length_cons, List.length_nil, List.replicate, List.cons_append, List.nil_append, Nat.reduceAdd, Nat.reduceSub, Nat.zero_add, List.getElem?_cons_zero, List.getElem?_cons_succ, Option.some.injEq, exists_eq_left, exists_eq_left', List.set_cons_zero, List.set_cons_succ, wipeD, D.int.injEq, D.bl.injEq, D.str.injEq, D.ref.injEq, D.tup.injEq, D.ty.injEq, true_and, and_true, forall_const, forall_eq', forall_eq, mt_int, mt_bool, mt_str, mt_tuple, mt_list, mt_dict, st_int_int, st_int_bool, st_int_str, st_int_tuple, st_int_list, st_int_dict, st_bool_int, st_bool_bool, st_bool_str, st_bool_tuple, st_bool_list, st_bool_dict, st_str_int, st_str_bool, st_str_str, st_str_tuple, st_str_list, st_str_dict, st_tuple_int, st_tuple_bool, st_tuple_str, st_tuple_tuple, st_tuple_list, st_tuple_dict, st_list_int, st_list_bool, st_list_str, st_list_tuple, st_list_list, st_list_dict, st_dict_int, st_dict_bool, st_dict_str, st_dict_tuple, st_dict_list, st_dict_dict, eq_self, Bool.true_eq_false, Bool.false_eq_true, false_implies, true_implies, implies_true, decide_eq_true_eq, decide_eq_false_iff_not, Bool.not_true, Bool.not_false, Bool.not_eq_true, Bool.not_eq_false, Bool.not_eq_true', Bool.not_eq_false', not_true_eq_false, not_false_eq_true, false_and, and_false, or_false, false_or, reduceCtorEq, ↓exLSu, ↓exDKu, ↓exDKd, ↓exLSd, ↓exLu, ↓dIxRu, ↓dPutu, ↓dGetAu, ↓dEq_int, ↓dNe_int, ↓dEq_bl, ↓dNe_bl, ↓dEq_str, ↓dNe_str, ↓dAdd_int, ↓exAt10, ↓exIx10, ↓exAt20, ↓exIx20, ↓exAt21, ↓exIx21, ↓exAt30, ↓exIx30, ↓exAt31, ↓exIx31, ↓exAt32, ↓exIx32, ↓exAt40, ↓exIx40, ↓exAt41, ↓exIx41, ↓exAt42, ↓exIx42, ↓exAt43, ↓exIx43, ↓exAt50, ↓exIx50, ↓exAt51, ↓exIx51, ↓exAt52, ↓exIx52, ↓exAt53, ↓exIx53, ↓exAt54, ↓exIx54, ↓exAt60, ↓exIx60, ↓exAt61, ↓exIx61, ↓exAt62, ↓exIx62, ↓exAt63, ↓exIx63, ↓exAt64, ↓exIx64, ↓exAt65, ↓exIx65, up_up, false_or, or_false, ↓exAtM, ↓dFlag_bl, ↓exBl, ↓exInt, ↓exRef, ↓dVar0, ↓dAug0, ↓dSet0, ↓dTgN0, ↓dTgW0, ↓dVar1, ↓dAug1, ↓dSet1, ↓dTgN1, ↓dTgW1, ↓dVar2, ↓dAug2, ↓dSet2, ↓dTgN2, ↓dTgW2, ↓dVar3, ↓dAug3, ↓dSet3, ↓dTgN3, ↓dTgW3, ↓dVar4, ↓dAug4, ↓dSet4, ↓dTgN4, ↓dTgW4, ↓dVar5, ↓dAug5, ↓dSet5, ↓dTgN5, ↓dTgW5, ↓dVar6, ↓dAug6, ↓dSet6, ↓dTgN6, ↓dTgW6, ↓dVar7, ↓dAug7, ↓dSet7, ↓dTgN7, ↓dTgW7, ↓dVar8, ↓dAug8, ↓dSet8, ↓dTgN8, ↓dTgW8, ↓dVar9, ↓dAug9, ↓dSet9, ↓dTgN9, ↓dTgW9, ↓dVar10, ↓dAug10, ↓dSet10, ↓dTgN10, ↓dTgW10, ↓dVar11, ↓dAug11, ↓dSet11, ↓dTgN11, ↓dTgW11, ↓dVar12, ↓dAug12, ↓dSet12, ↓dTgN12, ↓dTgW12, ↓dVar13, ↓dAug13, ↓dSet13, ↓dTgN13, ↓dTgW13, ↓dVar14, ↓dAug14, ↓dSet14, ↓dTgN14, ↓dTgW14, ↓dVar15, ↓dAug15, ↓dSet15, ↓dTgN15, ↓dTgW15, ↓dVar16, ↓dAug16, ↓dSet16, ↓dTgN16, ↓dTgW16, ↓dVar17, ↓dAug17, ↓dSet17, ↓dTgN17, ↓dTgW17, ↓dVar18, ↓dAug18, ↓dSet18, ↓dTgN18, ↓dTgW18, ↓dVar19, ↓dAug19, ↓dSet19, ↓dTgN19, ↓dTgW19, ↓dTg_t2, ↓dTg_t3, ↓exGetM, ↓exSumU, nD, plD, rwD, ↓dAdd_tup, ↓dAdd_ref, dIx_tup, dIx_str, dIx_ref, dIx_kl, dListOf_tup, dListOf_kl, dListOf_ref, dLen_tup, dLen_str, dLen_kl, dLen_ref, dTupOf_tup, dTupOf_ref, dSeqI_x, sqX_tup, sqX_ref, sqX_str, dEnumI_x, enX_tup, enX_ref, dSrtSet, dSortA, dIsi2, isT2, Bool.or_true, Bool.true_or, Bool.or_false, Bool.or_self, dReprR, dReprT, dDGet2]
    exact ⟨f, l, w, rfl, hf2, by omega, rfl, by omega, fun f2 M5 s6 _ hf3 => ⟨wo l w, ⟨sqL hf3, k1, k2, k3⟩, M2, s6, hP2⟩⟩
  rw [h1]; clear h1 t1 u1
  have s3 : Sub (up M2 q (.lst ((dbl (mts l)).map fun w => nD (chO (wo l w))))) M2 := Sub.new hq (by intro _ z; cases z)
  have hq3 : up M2 q (.lst ((dbl (mts l)).map fun w => nD (chO (wo l w)))) q = some (.lst ((dbl (mts l)).map fun w => nD (chO (wo l w)))) := up_same
  have hf3 := s3.1 _ _ hf2
  have hg3 := s3.1 _ _ hg
  replace s3 := s3.trans s12
  generalize up M2 q (.lst ((dbl (mts l)).map fun w => nD (chO (wo l w)))) = M3 at *
  simp (config := {failIfUnchanged := false}) only [dC, dOp, dTest, dChain, dAnd, dOr, dNot, dAndV, dOrV, dNotV, dIf, dNil, dCons, dTup, dLst, dCB, d1, dNoPart, dPart, dSl, dCut, dNeg, dSorted, dSum, dAll, dAny, dInt, dAbs, dMax, dMin, dIsi, isT, dNext, dSeq, dBrk, dCont, dNever, dExpr, dRet, dRetN, dIfS, dAsg, dPutI, dI0, dI, dIsN, dNotN, dRng1, dRng2, dRngDn, dZipI, dYes, dCall, dLM, dAppend, dExtend, dReverse, dInsert, dAugI, dRg1, dRg2, dTupRg, dLstRg, dNewK, dNewT, ↓S0_, ↓S1_, ↓S2_, ↓S3_, ↓S4_, ↓S5_, ↓S6_, List.map_cons, List.map_nil, List.length_cons, List.length_nil, List.replicate, List.cons_append, List.nil_append, Nat.reduceAdd, Nat.reduceSub, Nat.zero_add, List.getElem?_cons_zero, List.getElem?_cons_succ, Option.some.injEq, exists_eq_left, exists_eq_left', List.set_cons_zero, List.set_cons_succ, wipeD, D.int.injEq, D.bl.injEq, D.str.injEq, D.ref.injEq, D.tup.injEq, D.ty.injEq, true_and, and_true, forall_const, forall_eq', forall_eq, mt_int, mt_bool, mt_str, mt_tuple, mt_list, mt_dict, st_int_int, st_int_bool, st_int_str, st_int_tuple, st_int_list, st_int_dict, st_bool_int, st_bool_bool, st_bool_str, st_bool_tuple, st_bool_list, st_bool_dict, st_str_int, st_str_bool, st_str_str, st_str_tuple, st_str_list, st_str_dict, st_tuple_int, st_tuple_bool, st_tuple_str, st_tuple_tuple, st_tuple_list, st_tuple_dict, st_list_int, st_list_bool, st_list_str, st_list_tuple, st_list_list, st_list_dict, st_dict_int, st_dict_bool, st_dict_str, st_dict_tuple, st_dict_list, st_dict_dict, eq_self, Bool.true_eq_false, Bool.false_eq_true, false_implies, true_implies, implies_true, decide_eq_true_eq, decide_eq_false_iff_not, Bool.not_true, Bool.not_false, Bool.not_eq_true, Bool.not_eq_false, Bool.not_eq_true', Bool.not_eq_false', not_true_eq_false, not_false_eq_true, false_and, and_false, or_false, false_or, reduceCtorEq, ↓exLSu, ↓exDKu, ↓exDKd, ↓exLSd, ↓exLu, ↓dIxRu, ↓dPutu, ↓dGetAu, ↓dEq_int, ↓dNe_int, ↓dEq_bl, ↓dNe_bl, ↓dEq_str, ↓dNe_str, ↓dAdd_int, ↓exAt10, ↓exIx10, ↓exAt20, ↓exIx20, ↓exAt21, ↓exIx21, ↓exAt30, ↓exIx30, ↓exAt31, ↓exIx31, ↓exAt32, ↓exIx32, ↓exAt40, ↓exIx40, ↓exAt41, ↓exIx41, ↓exAt42, ↓exIx42, ↓exAt43, ↓exIx43, ↓exAt50, ↓exIx50, ↓exAt51, ↓exIx51, ↓exAt52, ↓exIx52, ↓exAt53, ↓exIx53, ↓exAt54, ↓exIx54, ↓exAt60, ↓exIx60, ↓exAt61, ↓exIx61, ↓exAt62, ↓exIx62, ↓exAt63, ↓exIx63, ↓exAt64, ↓exIx64, ↓exAt65, ↓exIx65, up_up, false_or, or_false, ↓exAtM, ↓dFlag_bl, ↓exBl, ↓exInt, ↓exRef, ↓dVar0, ↓dAug0, ↓dSet0, ↓dTgN0, ↓dTgW0, ↓dVar1, ↓dAug1, ↓dSet1, ↓dTgN1, ↓dTgW1, ↓dVar2, ↓dAug2, ↓dSet2, ↓dTgN2, ↓dTgW2, ↓dVar3, ↓dAug3, ↓dSet3, ↓dTgN3, ↓dTgW3, ↓dVar4, ↓dAug4, ↓dSet4, ↓dTgN4, ↓dTgW4, ↓dVar5, ↓dAug5, ↓dSet5, ↓dTgN5, ↓dTgW5, ↓dVar6, ↓dAug6, ↓dSet6, ↓dTgN6, ↓dTgW6, ↓dVar7, ↓dAug7, ↓dSet7, ↓dTgN7, ↓dTgW7, ↓dVar8, ↓dAug8, ↓dSet8, ↓dTgN8, ↓dTgW8, ↓dVar9, ↓dAug9, ↓dSet9, ↓dTgN9, ↓dTgW9, ↓dVar10, ↓dAug10, ↓dSet10, ↓dTgN10, ↓dTgW10, ↓dVar11, ↓dAug11, ↓dSet11, ↓dTgN11, ↓dTgW11, ↓dVar12, ↓dAug12, ↓dSet12, ↓dTgN12, ↓dTgW12, ↓dVar13, ↓dAug13, ↓dSet13, ↓dTgN13, ↓dTgW13, ↓dVar14, ↓dAug14, ↓dSet14, ↓dTgN14, ↓dTgW14, ↓dVar15, ↓dAug15, ↓dSet15, ↓dTgN15, ↓dTgW15, ↓dVar16, ↓dAug16, ↓dSet16, ↓dTgN16, ↓dTgW16, ↓dVar17, ↓dAug17, ↓dSet17, ↓dTgN17, ↓dTgW17, ↓dVar18, ↓dAug18, ↓dSet18, ↓dTgN18, ↓dTgW18, ↓dVar19, ↓dAug19, ↓dSet19, ↓dTgN19, ↓dTgW19, ↓dTg_t2, ↓dTg_t3, ↓exGetM, ↓exSumU, nD, plD, rwD, ↓dAdd_tup, ↓dAdd_ref, dIx_tup, dIx_str, dIx_ref, dIx_kl, dListOf_tup, dListOf_kl, dListOf_ref, dLen_tup, dLen_str, dLen_kl, dLen_ref, dTupOf_tup, dTupOf_ref, dSeqI_x, sqX_tup, sqX_ref, sqX_str, dEnumI_x, enX_tup, enX_ref, dSrtSet, dSortA, dIsi2, isT2, Bool.or_true, Bool.true_or, Bool.or_false, Bool.or_self, dReprR, dReprT, dDGet2, ↓exLS hq3, ↓exDKh hq3, ↓dIxRh hq3]
  rw [List.length_map, ← Int.natCast_emod]
  have dp : 0 < (dbl (mts l)).length := by rw [dbl_len]; exact Nat.pow_pos (by omega)
  have hj : pk % (dbl (mts l)).length < (dbl (mts l)).length := Nat.mod_lt _ dp
  refine ⟨by omega, _, atI_nat (List.getElem?_eq_getElem hj), ?_⟩
  generalize chO (wo l (dbl (mts l))[pk % (dbl (mts l)).length]) = m0
  have hp3 := hp.sub s3
  refine ⟨fun δ M' => M' = M3 ∧ ∃ m : Int, 0 ≤ m ∧ δ = [some x, some y, some (nD pk), some (nD kd), some (.ref f), some (.ref g), some (.ref q), some (.int m), none, none, none, none, none, none], ?_, ?_⟩
  · simp (config := {failIfUnchanged := false}) only [dC, dOp, dTest, dChain, dAnd, dOr, dNot, dAndV, dOrV, dNotV, dIf, dNil, dCons, dTup, dLst, dCB, d1, dNoPart, dPart, dSl, dCut, dNeg, dSorted, dSum, dAll, dAny, dInt, dAbs, dMax, dMin, dIsi, isT, dNext, dSeq, dBrk, dCont, dNever, dExpr, dRet, dRetN, dIfS, dAsg, dPutI, dI0, dI, dIsN, dNotN, dRng1, dRng2, dRngDn, dZipI, dYes, dCall, dLM, dAppend, dExtend, dReverse, dInsert, dAugI, dRg1, dRg2, dTupRg, dLstRg, dNewK, dNewT, ↓S0_, ↓S1_, ↓S2_, ↓S3_, ↓S4_, ↓S5_, ↓S6_, List.map_cons, List.map_nil, List.length_cons, List.length_nil, List.replicate, List.cons_append, List.nil_append, Nat.reduceAdd, Nat.reduceSub, Nat.zero_add, List.getElem?_cons_zero, List.getElem?_cons_succ, Option.some.injEq, exists_eq_left, exists_eq_left', List.set_cons_zero, List.set_cons_succ, wipeD, D.int.injEq, D.bl.injEq, D.str.injEq, D.ref.injEq, D.tup.injEq, D.ty.injEq, true_and, and_true, forall_const, forall_eq', forall_eq, mt_int, mt_bool, mt_str, mt_tuple, mt_list, mt_dict, st_int_int, st_int_bool, st_int_str, st_int_tuple, st_int_list, st_int_dict, st_bool_int, st_bool_bool, st_bool_str, st_bool_tuple, st_bool_list, st_bool_dict, st_str_int, st_str_bool, st_str_str, st_str_tuple, st_str_list, st_str_dict, st_tuple_int, st_tuple_bool, st_tuple_str, st_tuple_tuple, st_tuple_list, st_tuple_dict, st_list_int, st_list_bool, st_list_str, st_list_tuple, st_list_list, st_list_dict, st_dict_int, st_dict_bool, st_dict_str, st_dict_tuple, st_dict_list, st_dict_dict, eq_self, Bool.true_eq_false, Bool.false_eq_true, false_implies, true_implies, implies_true, decide_eq_true_eq, decide_eq_false_iff_not, Bool.not_true, Bool.not_false, Bool.not_eq_true, Bool.not_eq_false, Bool.not_eq_true', Bool.not_eq_false', not_true_eq_false, not_false_eq_true, false_and, and_false, or_false, false_or, reduceCtorEq, ↓exLSu, ↓exDKu, ↓exDKd, ↓exLSd, ↓exLu, ↓dIxRu, ↓dPutu, ↓dGetAu, ↓dEq_int, ↓dNe_int, ↓dEq_bl, ↓dNe_bl, ↓dEq_str, ↓dNe_str, ↓dAdd_int, ↓exAt10, ↓exIx10, ↓exAt20, ↓exIx20, ↓exAt21, ↓exIx21, ↓exAt30, ↓exIx30, ↓exAt31, ↓exIx31, ↓exAt32, ↓exIx32, ↓exAt40, ↓exIx40, ↓exAt41, ↓exIx41, ↓exAt42, ↓exIx42, ↓exAt43, ↓exIx43, ↓exAt50, ↓exIx50, ↓exAt51, ↓exIx51, ↓exAt52, ↓exIx52, ↓exAt53, ↓exIx53, ↓exAt54, ↓exIx54, ↓exAt60, ↓exIx60, ↓exAt61, ↓exIx61, ↓exAt62, ↓exIx62, ↓exAt63, ↓exIx63, ↓exAt64, ↓exIx64, ↓exAt65, ↓exIx65, up_up, false_or, or_false, ↓exAtM, ↓dFlag_bl, ↓exBl, ↓exInt, ↓exRef, ↓dVar0, ↓dAug0, ↓dSet0, ↓dTgN0, ↓dTgW0, ↓dVar1, ↓dAug1, ↓dSet1, ↓dTgN1, ↓dTgW1, ↓dVar2, ↓dAug2, ↓dSet2, ↓dTgN2, ↓dTgW2, ↓dVar3, ↓dAug3, ↓dSet3, ↓dTgN3, ↓dTgW3, ↓dVar4, ↓dAug4, ↓dSet4, ↓dTgN4, ↓dTgW4, ↓dVar5, ↓dAug5, ↓dSet5, ↓dTgN5, ↓dTgW5, ↓dVar6, ↓dAug6, ↓dSet6, ↓dTgN6, ↓dTgW6, ↓dVar7, ↓dAug7, ↓dSet7, ↓dTgN7, ↓dTgW7, ↓dVar8, ↓dAug8, ↓dSet8, ↓dTgN8, ↓dTgW8, ↓dVar9, ↓dAug9, ↓dSet9, ↓dTgN9, ↓dTgW9, ↓dVar10, ↓dAug10, ↓dSet10, ↓dTgN10, ↓dTgW10, ↓dVar11, ↓dAug11, ↓dSet11, ↓dTgN11, ↓dTgW11, ↓dVar12, ↓dAug12, ↓dSet12, ↓dTgN12, ↓dTgW12, ↓dVar13, ↓dAug13, ↓dSet13, ↓dTgN13, ↓dTgW13, ↓dVar14, ↓dAug14, ↓dSet14, ↓dTgN14, ↓dTgW14, ↓dVar15, ↓dAug15, ↓dSet15, ↓dTgN15, ↓dTgW15, ↓dVar16, ↓dAug16, ↓dSet16, ↓dTgN16, ↓dTgW16, ↓dVar17, ↓dAug17, ↓dSet17, ↓dTgN17, ↓dTgW17, ↓dVar18, ↓dAug18, ↓dSet18, ↓dTgN18, ↓dTgW18, ↓dVar19, ↓dAug19, ↓dSet19, ↓dTgN19, ↓dTgW19, ↓dTg_t2, ↓dTg_t3, ↓exGetM, ↓exSumU, nD, plD, rwD, ↓dAdd_tup, ↓dAdd_ref, dIx_tup, dIx_str, dIx_ref, dIx_kl, dListOf_tup, dListOf_kl, dListOf_ref, dLen_tup, dLen_str, dLen_kl, dLen_ref, dTupOf_tup, dTupOf_ref, dSeqI_x, sqX_tup, sqX_ref, sqX_str, dEnumI_x, enX_tup, enX_ref, dSrtSet, dSortA, dIsi2, isT2, Bool.or_true, Bool.true_or, Bool.or_false, Bool.or_self, dReprR, dReprT, dDGet2]
    exact ⟨fun _ => ⟨fun _ => ⟨_, by omega, rfl⟩, fun _ => ⟨_, by omega, rfl⟩⟩, fun _ => ⟨_, by omega, rfl⟩⟩
  rintro δ M3 ⟨rfl, m1, hm1, rfl⟩
  simp (config := {failIfUnchanged := false}) only [dC, dOp, dTest, dChain, dAnd, dOr, dNot, dAndV, dOrV, dNotV, dIf, dNil, dCons, dTup, dLst, dCB, d1, dNoPart, dPart, dSl, dCut, dNeg, dSorted, dSum, dAll, dAny, dInt, dAbs, dMax, dMin, dIsi, isT, dNext, dSeq, dBrk, dCont, dNever, dExpr, dRet, dRetN, dIfS, dAsg, dPutI, dI0, dI, dIsN, dNotN, dRng1, dRng2, dRngDn, dZipI, dYes, dCall, dLM, dAppend, dExtend, dReverse, dInsert, dAugI, dRg1, dRg2, dTupRg, dLstRg, dNewK, dNewT, ↓S0_, ↓S1_, ↓S2_, ↓S3_, ↓S4_, ↓S5_, ↓S6_, List.map_cons, List.map_nil, List.length_cons, List.length_nil, List.replicate, List.cons_append, List.nil_append, Nat.reduceAdd, Nat.reduceSub, Nat.zero_add, List.getElem?_cons_zero, List.getElem?_cons_succ, Option.some.injEq, exists_eq_left, exists_eq_left', List.set_cons_zero, List.set_cons_succ, wipeD, D.int.injEq, D.bl.injEq, D.str.injEq, D.ref.injEq, D.tup.injEq, D.ty.injEq, true_and, and_true, forall_const, forall_eq', forall_eq, mt_int, mt_bool, mt_str, mt_tuple, mt_list, mt_dict, st_int_int, st_int_bool, st_int_str, st_int_tuple, st_int_list, st_int_dict, st_bool_int, st_bool_bool, st_bool_str, st_bool_tuple, st_bool_list, st_bool_dict, st_str_int, st_str_bool, st_str_str, st_str_tuple, st_str_list, st_str_dict, st_tuple_int, st_tuple_bool, st_tuple_str, st_tuple_tuple, st_tuple_list, st_tuple_dict, st_list_int, st_list_bool, st_list_str, st_list_tuple, st_list_list, st_list_dict, st_dict_int, st_dict_bool, st_dict_str, st_dict_tuple, st_dict_list, st_dict_dict, eq_self, Bool.true_eq_false, Bool.false_eq_true, false_implies, true_implies, implies_true, decide_eq_true_eq, decide_eq_false_iff_not, Bool.not_true, Bool.not_false, Bool.not_eq_true, Bool.not_eq_false, Bool.not_eq_true', Bool.not_eq_false', not_true_eq_false, not_false_eq_true, false_and, and_false, or_false, false_or, reduceCtorEq, ↓exLSu, ↓exDKu, ↓exDKd, ↓exLSd, ↓exLu, ↓dIxRu, ↓dPutu, ↓dGetAu, ↓dEq_int, ↓dNe_int, ↓dEq_bl, ↓dNe_bl, ↓dEq_str, ↓dNe_str, ↓dAdd_int, ↓exAt10, ↓exIx10, ↓exAt20, ↓exIx20, ↓exAt21, ↓exIx21, ↓exAt30, ↓exIx30, ↓exAt31, ↓exIx31, ↓exAt32, ↓exIx32, ↓exAt40, ↓exIx40, ↓exAt41, ↓exIx41, ↓exAt42, ↓exIx42, ↓exAt43, ↓exIx43, ↓exAt50, ↓exIx50, ↓exAt51, ↓exIx51, ↓exAt52, ↓exIx52, ↓exAt53, ↓exIx53, ↓exAt54, ↓exIx54, ↓exAt60, ↓exIx60, ↓exAt61, ↓exIx61, ↓exAt62, ↓exIx62, ↓exAt63, ↓exIx63, ↓exAt64, ↓exIx64, ↓exAt65, ↓exIx65, up_up, false_or, or_false, ↓exAtM, ↓dFlag_bl, ↓exBl, ↓exInt, ↓exRef, ↓dVar0, ↓dAug0, ↓dSet0, ↓dTgN0, ↓dTgW0, ↓dVar1, ↓dAug1, ↓dSet1, ↓dTgN1, ↓dTgW1, ↓dVar2, ↓dAug2, ↓dSet2, ↓dTgN2, ↓dTgW2, ↓dVar3, ↓dAug3, ↓dSet3, ↓dTgN3, ↓dTgW3, ↓dVar4, ↓dAug4, ↓dSet4, ↓dTgN4, ↓dTgW4, ↓dVar5, ↓dAug5, ↓dSet5, ↓dTgN5, ↓dTgW5, ↓dVar6, ↓dAug6, ↓dSet6, ↓dTgN6, ↓dTgW6, ↓dVar7, ↓dAug7, ↓dSet7, ↓dTgN7, ↓dTgW7, ↓dVar8, ↓dAug8, ↓dSet8, ↓dTgN8, ↓dTgW8, ↓dVar9, ↓dAug9, ↓dSet9, ↓dTgN9, ↓dTgW9, ↓dVar10, ↓dAug10, ↓dSet10, ↓dTgN10, ↓dTgW10, ↓dVar11, ↓dAug11, ↓dSet11, ↓dTgN11, ↓dTgW11, ↓dVar12, ↓dAug12, ↓dSet12, ↓dTgN12, ↓dTgW12, ↓dVar13, ↓dAug13, ↓dSet13, ↓dTgN13, ↓dTgW13, ↓dVar14, ↓dAug14, ↓dSet14, ↓dTgN14, ↓dTgW14, ↓dVar15, ↓dAug15, ↓dSet15, ↓dTgN15, ↓dTgW15, ↓dVar16, ↓dAug16, ↓dSet16, ↓dTgN16, ↓dTgW16, ↓dVar17, ↓dAug17, ↓dSet17, ↓dTgN17, ↓dTgW17, ↓dVar18, ↓dAug18, ↓dSet18, ↓dTgN18, ↓dTgW18, ↓dVar19, ↓dAug19, ↓dSet19, ↓dTgN19, ↓dTgW19, ↓dTg_t2, ↓dTg_t3, ↓exGetM, ↓exSumU, nD, plD, rwD, ↓dAdd_tup, ↓dAdd_ref, dIx_tup, dIx_str, dIx_ref, dIx_kl, dListOf_tup, dListOf_kl, dListOf_ref, dLen_tup, dLen_str, dLen_kl, dLen_ref, dTupOf_tup, dTupOf_ref, dSeqI_x, sqX_tup, sqX_ref, sqX_str, dEnumI_x, enX_tup, enX_ref, dSrtSet, dSortA, dIsi2, isT2, Bool.or_true, Bool.true_or, Bool.or_false, Bool.or_self, dReprR, dReprT, dDGet2]
  refine ⟨fun δ M' => M' = M3 ∧ ∃ m : Int, 0 ≤ m ∧ δ = [some x, some y, some (nD pk), some (nD kd), some (.ref f), some (.ref g), some (.ref q), some (.int m), none, none, none, none, none, none], ?_, ?_⟩
  · simp (config := {failIfUnchanged := false}) only [dC, dOp, dTest, dChain, dAnd, dOr, dNot, dAndV, dOrV, dNotV, dIf, dNil, dCons, dTup, dLst, dCB, d1, dNoPart, dPart, dSl, dCut, dNeg, dSorted, dSum, dAll, dAny, dInt, dAbs, dMax, dMin, dIsi, isT, dNext, dSeq, dBrk, dCont, dNever, dExpr, dRet, dRetN, dIfS, dAsg, dPutI, dI0, dI, dIsN, dNotN, dRng1, dRng2, dRngDn, dZipI, dYes, dCall, dLM, dAppend, dExtend, dReverse, dInsert, dAugI, dRg1, dRg2, dTupRg, dLstRg, dNewK, dNewT, ↓S0_, ↓S1_, ↓S2_, ↓S3_, ↓S4_, ↓S5_, ↓S6_, List.map_cons, List.map_nil, List.length_cons, List.length_nil, List.replicate, List.cons_append, List.nil_append, Nat.reduceAdd, Nat.reduceSub, Nat.zero_add, List.getElem?_cons_zero, List.getElem?_cons_succ, Option.some.injEq, exists_eq_left, exists_eq_left', List.set_cons_zero, List.set_cons_succ, wipeD, D.int.injEq, D.bl.injEq, D.str.injEq, D.ref.injEq, D.tup.injEq, D.ty.injEq, true_and, and_true, forall_const, forall_eq', forall_eq, mt_int, mt_bool, mt_str, mt_tuple, mt_list, mt_dict, st_int_int, st_int_bool, st_int_str, st_int_tuple, st_int_list, st_int_dict, st_bool_int, st_bool_bool, st_bool_str, st_bool_tuple, st_bool_list, st_bool_dict, st_str_int, st_str_bool, st_str_str, st_str_tuple, st_str_list, st_str_dict, st_tuple_int, st_tuple_bool, st_tuple_str, st_tuple_tuple, st_tuple_list, st_tuple_dict, st_list_int, st_list_bool, st_list_str, st_list_tuple, st_list_list, st_list_dict, st_dict_int, st_dict_bool, st_dict_str, st_dict_tuple, st_dict_list, st_dict_dict, eq_self, Bool.true_eq_false, Bool.false_eq_true, false_implies, true_implies, implies_true, decide_eq_true_eq, decide_eq_false_iff_not, Bool.not_true, Bool.not_false, Bool.not_eq_true, Bool.not_eq_false, Bool.not_eq_true', Bool.not_eq_false', not_true_eq_false, not_false_eq_true, false_and, and_false, or_false, false_or, reduceCtorEq, ↓exLSu, ↓exDKu, ↓exDKd, ↓exLSd, ↓exLu, ↓dIxRu, ↓dPutu, ↓dGetAu, ↓dEq_int, ↓dNe_int, ↓dEq_bl, ↓dNe_bl, ↓dEq_str, ↓dNe_str, ↓dAdd_int, ↓exAt10, ↓exIx10, ↓exAt20, ↓exIx20, ↓exAt21, ↓exIx21, ↓exAt30, ↓exIx30, ↓exAt31, ↓exIx31, ↓exAt32, ↓exIx32, ↓exAt40, ↓exIx40, ↓exAt41, ↓exIx41, ↓exAt42, ↓exIx42, ↓exAt43, ↓exIx43, ↓exAt50, ↓exIx50, ↓exAt51, ↓exIx51, ↓exAt52, ↓exIx52, ↓exAt53, ↓exIx53, ↓exAt54, ↓exIx54, ↓exAt60, ↓exIx60, ↓exAt61, ↓exIx61, ↓exAt62, ↓exIx62, ↓exAt63, ↓exIx63, ↓exAt64, ↓exIx64, ↓exAt65, ↓exIx65, up_up, false_or, or_false, ↓exAtM, ↓dFlag_bl, ↓exBl, ↓exInt, ↓exRef, ↓dVar0, ↓dAug0, ↓dSet0, ↓dTgN0, ↓dTgW0, ↓dVar1, ↓dAug1, ↓dSet1, ↓dTgN1, ↓dTgW1, ↓dVar2, ↓dAug2, ↓dSet2, ↓dTgN2, ↓dTgW2, ↓dVar3, ↓dAug3, ↓dSet3, ↓dTgN3, ↓dTgW3, ↓dVar4, ↓dAug4, ↓dSet4, ↓dTgN4, ↓dTgW4, ↓dVar5, ↓dAug5, ↓dSet5, ↓dTgN5, ↓dTgW5, ↓dVar6, ↓dAug6, ↓dSet6, ↓dTgN6, ↓dTgW6, ↓dVar7, ↓dAug7, ↓dSet7, ↓dTgN7, ↓dTgW7, ↓dVar8, ↓dAug8, ↓dSet8, ↓dTgN8, ↓dTgW8, ↓dVar9, ↓dAug9, ↓dSet9, ↓dTgN9, ↓dTgW9, ↓dVar10, ↓dAug10, ↓dSet10, ↓dTgN10, ↓dTgW10, ↓dVar11, ↓dAug11, ↓dSet11, ↓dTgN11, ↓dTgW11, ↓dVar12, ↓dAug12, ↓dSet12, ↓dTgN12, ↓dTgW12, ↓dVar13, ↓dAug13, ↓dSet13, ↓dTgN13, ↓dTgW13, ↓dVar14, ↓dAug14, ↓dSet14, ↓dTgN14, ↓dTgW14, ↓dVar15, ↓dAug15, ↓dSet15, ↓dTgN15, ↓dTgW15, ↓dVar16, ↓dAug16, ↓dSet16, ↓dTgN16, ↓dTgW16, ↓dVar17, ↓dAug17, ↓dSet17, ↓dTgN17, ↓dTgW17, ↓dVar18, ↓dAug18, ↓dSet18, ↓dTgN18, ↓dTgW18, ↓dVar19, ↓dAug19, ↓dSet19, ↓dTgN19, ↓dTgW19, ↓dTg_t2, ↓dTg_t3, ↓exGetM, ↓exSumU, nD, plD, rwD, ↓dAdd_tup, ↓dAdd_ref, dIx_tup, dIx_str, dIx_ref, dIx_kl, dListOf_tup, dListOf_kl, dListOf_ref, dLen_tup, dLen_str, dLen_kl, dLen_ref, dTupOf_tup, dTupOf_ref, dSeqI_x, sqX_tup, sqX_ref, sqX_str, dEnumI_x, enX_tup, enX_ref, dSrtSet, dSortA, dIsi2, isT2, Bool.or_true, Bool.true_or, Bool.or_false, Bool.or_self, dReprR, dReprT, dDGet2]
    exact ⟨fun _ => ⟨30, rfl, hp3, by omega, by omega, fun v hv => ⟨_, by omega, rfl⟩⟩, fun _ => ⟨_, hm1, rfl⟩⟩
  rintro δ M3 ⟨rfl, m, hm, rfl⟩
  simp (config := {failIfUnchanged := false}) only [dC, dOp, dTest, dChain, dAnd, dOr, dNot, dAndV, dOrV, dNotV, dIf, dNil, dCons, dTup, dLst, dCB, d1, dNoPart, dPart, dSl, dCut, dNeg, dSorted, dSum, dAll, dAny, dInt, dAbs, dMax, dMin, dIsi, isT, dNext, dSeq, dBrk, dCont, dNever, dExpr, dRet, dRetN, dIfS, dAsg, dPutI, dI0, dI, dIsN, dNotN, dRng1, dRng2, dRngDn, dZipI, dYes, dCall, dLM, dAppend, dExtend, dReverse, dInsert, dAugI, dRg1, dRg2, dTupRg, dLstRg, dNewK, dNewT, ↓S0_, ↓S1_, ↓S2_, ↓S3_, ↓S4_, ↓S5_, ↓S6_, List.map_cons, List.map_nil, List.length_cons, List.length_nil, List.replicate, List.cons_append, List.nil_append, Nat.reduceAdd, Nat.reduceSub, Nat.zero_add, List.getElem?_cons_zero, List.getElem?_cons_succ, Option.some.injEq, exists_eq_left, exists_eq_left', List.set_cons_zero, List.set_cons_succ, wipeD, D.int.injEq, D.bl.injEq, D.str.injEq, D.ref.injEq, D.tup.injEq, D.ty.injEq, true_and, and_true, forall_const, forall_eq', forall_eq, mt_int, mt_bool, mt_str, mt_tuple, mt_list, mt_dict, st_int_int, st_int_bool, st_int_str, st_int_tuple, st_int_list, st_int_dict, st_bool_int, st_bool_bool, st_bool_str, st_bool_tuple, st_bool_list, st_bool_dict, st_str_int, st_str_bool, st_str_str, st_str_tuple, st_str_list, st_str_dict, st_tuple_int, st_tuple_bool, st_tuple_str, st_tuple_tuple, st_tuple_list, st_tuple_dict, st_list_int, st_list_bool, st_list_str, st_list_tuple, st_list_list, st_list_dict, st_dict_int, st_dict_bool, st_dict_str, st_dict_tuple, st_dict_list, st_dict_dict, eq_self, Bool.true_eq_false, Bool.false_eq_true, false_implies, true_implies, implies_true, decide_eq_true_eq, decide_eq_false_iff_not, Bool.not_true, Bool.not_false, Bool.not_eq_true, Bool.not_eq_false, Bool.not_eq_true', Bool.not_eq_false', not_true_eq_false, not_false_eq_true, false_and, and_false, or_false, false_or, reduceCtorEq, ↓exLSu, ↓exDKu, ↓exDKd, ↓exLSd, ↓exLu, ↓dIxRu, ↓dPutu, ↓dGetAu, ↓dEq_int, ↓dNe_int, ↓dEq_bl, ↓dNe_bl, ↓dEq_str, ↓dNe_str, ↓dAdd_int, ↓exAt10, ↓exIx10, ↓exAt20, ↓exIx20, ↓exAt21, ↓exIx21, ↓exAt30, ↓exIx30, ↓exAt31, ↓exIx31, ↓exAt32, ↓exIx32, ↓exAt40, ↓exIx40, ↓exAt41, ↓exIx41, ↓exAt42, ↓exIx42, ↓exAt43, ↓exIx43, ↓exAt50, ↓exIx50, ↓exAt51, ↓exIx51, ↓exAt52, ↓exIx52, ↓exAt53, ↓exIx53, ↓exAt54, ↓exIx54, ↓exAt60, ↓exIx60, ↓exAt61, ↓exIx61, ↓exAt62, ↓exIx62, ↓exAt63, ↓exIx63, ↓exAt64, ↓exIx64, ↓exAt65, ↓exIx65, up_up, false_or, or_false, ↓exAtM, ↓dFlag_bl, ↓exBl, ↓exInt, ↓exRef, ↓dVar0, ↓dAug0, ↓dSet0, ↓dTgN0, ↓dTgW0, ↓dVar1, ↓dAug1, ↓dSet1, ↓dTgN1, ↓dTgW1, ↓dVar2, ↓dAug2, ↓dSet2, ↓dTgN2, ↓dTgW2, ↓dVar3, ↓dAug3, ↓dSet3, ↓dTgN3, ↓dTgW3, ↓dVar4, ↓dAug4, ↓dSet4, ↓dTgN4, ↓dTgW4, ↓dVar5, ↓dAug5, ↓dSet5, ↓dTgN5, ↓dTgW5, ↓dVar6, ↓dAug6, ↓dSet6, ↓dTgN6, ↓dTgW6, ↓dVar7, ↓dAug7, ↓dSet7, ↓dTgN7, ↓dTgW7, ↓dVar8, ↓dAug8, ↓dSet8, ↓dTgN8, ↓dTgW8, ↓dVar9, ↓dAug9, ↓dSet9, ↓dTgN9, ↓dTgW9, ↓dVar10, ↓dAug10, ↓dSet10, ↓dTgN10, ↓dTgW10, ↓dVar11, ↓dAug11, ↓dSet11, ↓dTgN11, ↓dTgW11, ↓dVar12, ↓dAug12, ↓dSet12, ↓dTgN12, ↓dTgW12, ↓dVar13, ↓dAug13, ↓dSet13, ↓dTgN13, ↓dTgW13, ↓dVar14, ↓dAug14, ↓dSet14, ↓dTgN14, ↓dTgW14, ↓dVar15, ↓dAug15, ↓dSet15, ↓dTgN15, ↓dTgW15, ↓dVar16, ↓dAug16, ↓dSet16, ↓dTgN16, ↓dTgW16, ↓dVar17, ↓dAug17, ↓dSet17, ↓dTgN17, ↓dTgW17, ↓dVar18, ↓dAug18, ↓dSet18, ↓dTgN18, ↓dTgW18, ↓dVar19, ↓dAug19, ↓dSet19, ↓dTgN19, ↓dTgW19, ↓dTg_t2, ↓dTg_t3, ↓exGetM, ↓exSumU, nD, plD, rwD, ↓dAdd_tup, ↓dAdd_ref, dIx_tup, dIx_str, dIx_ref, dIx_kl, dListOf_tup, dListOf_kl, dListOf_ref, dLen_tup, dLen_str, dLen_kl, dLen_ref, dTupOf_tup, dTupOf_ref, dSeqI_x, sqX_tup, sqX_ref, sqX_str, dEnumI_x, enX_tup, enX_ref, dSrtSet, dSortA, dIsi2, isT2, Bool.or_true, Bool.true_or, Bool.or_false, Bool.or_self, dReprR, dReprT, dDGet2, ↓exLS hf3, ↓exDKh hf3]
  intro r hr
  have s4 : Sub (up M3 r (.lst (l.map evD))) M3 := Sub.new hr (by intro _ z; cases z)
  have hl60 : l.length ≤ 60 := by omega
  have pl : puts l ≤ 40 := by have := puts_le l; omega
  have hdr : DayO (up M3 r (.lst (l.map evD))) (.ref r) l := ⟨sqL up_same, hl60, pl, okl⟩
  have hf4 := s4.1 _ _ hf3
  have hg4 := s4.1 _ _ hg3
  have hq4 := s4.1 _ _ hq3
  have hp4 := hp3.sub s4
  replace s4 := s4.trans s3
  generalize up M3 r (.lst (l.map evD)) = M4 at *
  refine ⟨fun δ M' => M' = M4 ∧ ∃ da, DayO M4 da l ∧ δ = [some x, some y, some (nD pk), some (nD kd), some (.ref f), some (.ref g), some (.ref q), some (.int m), some da, none, none, none, none, none], ?_, ?_⟩
  · simp (config := {failIfUnchanged := false}) only [dC, dOp, dTest, dChain, dAnd, dOr, dNot, dAndV, dOrV, dNotV, dIf, dNil, dCons, dTup, dLst, dCB, d1, dNoPart, dPart, dSl, dCut, dNeg, dSorted, dSum, dAll, dAny, dInt, dAbs, dMax, dMin, dIsi, isT, dNext, dSeq, dBrk, dCont, dNever, dExpr, dRet, dRetN, dIfS, dAsg, dPutI, dI0, dI, dIsN, dNotN, dRng1, dRng2, dRngDn, dZipI, dYes, dCall, dLM, dAppend, dExtend, dReverse, dInsert, dAugI, dRg1, dRg2, dTupRg, dLstRg, dNewK, dNewT, ↓S0_, ↓S1_, ↓S2_, ↓S3_, ↓S4_, ↓S5_, ↓S6_, List.map_cons, List.map_nil, List.length_cons, List.length_nil, List.replicate, List.cons_append, List.nil_append, Nat.reduceAdd, Nat.reduceSub, Nat.zero_add, List.getElem?_cons_zero, List.getElem?_cons_succ, Option.some.injEq, exists_eq_left, exists_eq_left', List.set_cons_zero, List.set_cons_succ, wipeD, D.int.injEq, D.bl.injEq, D.str.injEq, D.ref.injEq, D.tup.injEq, D.ty.injEq, true_and, and_true, forall_const, forall_eq', forall_eq, mt_int, mt_bool, mt_str, mt_tuple, mt_list, mt_dict, st_int_int, st_int_bool, st_int_str, st_int_tuple, st_int_list, st_int_dict, st_bool_int, st_bool_bool, st_bool_str, st_bool_tuple, st_bool_list, st_bool_dict, st_str_int, st_str_bool, st_str_str, st_str_tuple, st_str_list, st_str_dict, st_tuple_int, st_tuple_bool, st_tuple_str, st_tuple_tuple, st_tuple_list, st_tuple_dict, st_list_int, st_list_bool, st_list_str, st_list_tuple, st_list_list, st_list_dict, st_dict_int, st_dict_bool, st_dict_str, st_dict_tuple, st_dict_list, st_dict_dict, eq_self, Bool.true_eq_false, Bool.false_eq_true, false_implies, true_implies, implies_true, decide_eq_true_eq, decide_eq_false_iff_not, Bool.not_true, Bool.not_false, Bool.not_eq_true, Bool.not_eq_false, Bool.not_eq_true', Bool.not_eq_false', not_true_eq_false, not_false_eq_true, false_and, and_false, or_false, false_or, reduceCtorEq, ↓exLSu, ↓exDKu, ↓exDKd, ↓exLSd, ↓exLu, ↓dIxRu, ↓dPutu, ↓dGetAu, ↓dEq_int, ↓dNe_int, ↓dEq_bl, ↓dNe_bl, ↓dEq_str, ↓dNe_str, ↓dAdd_int, ↓exAt10, ↓exIx10, ↓exAt20, ↓exIx20, ↓exAt21, ↓exIx21, ↓exAt30, ↓exIx30, ↓exAt31, ↓exIx31, ↓exAt32, ↓exIx32, ↓exAt40, ↓exIx40, ↓exAt41, ↓exIx41, ↓exAt42, ↓exIx42, ↓exAt43, ↓exIx43, ↓exAt50, ↓exIx50, ↓exAt51, ↓exIx51, ↓exAt52, ↓exIx52, ↓exAt53, ↓exIx53, ↓exAt54, ↓exIx54, ↓exAt60, ↓exIx60, ↓exAt61, ↓exIx61, ↓exAt62, ↓exIx62, ↓exAt63, ↓exIx63, ↓exAt64, ↓exIx64, ↓exAt65, ↓exIx65, up_up, false_or, or_false, ↓exAtM, ↓dFlag_bl, ↓exBl, ↓exInt, ↓exRef, ↓dVar0, ↓dAug0, ↓dSet0, ↓dTgN0, ↓dTgW0, ↓dVar1, ↓dAug1, ↓dSet1, ↓dTgN1, ↓dTgW1, ↓dVar2, ↓dAug2, ↓dSet2, ↓dTgN2, ↓dTgW2, ↓dVar3, ↓dAug3, ↓dSet3, ↓dTgN3, ↓dTgW3, ↓dVar4, ↓dAug4, ↓dSet4, ↓dTgN4, ↓dTgW4, ↓dVar5, ↓dAug5, ↓dSet5, ↓dTgN5, ↓dTgW5, ↓dVar6, ↓dAug6, ↓dSet6, ↓dTgN6, ↓dTgW6, ↓dVar7, ↓dAug7, ↓dSet7, ↓dTgN7, ↓dTgW7, ↓dVar8, ↓dAug8, ↓dSet8, ↓dTgN8, ↓dTgW8, ↓dVar9, ↓dAug9, ↓dSet9, ↓dTgN9, ↓dTgW9, ↓dVar10, ↓dAug10, ↓dSet10, ↓dTgN10, ↓dTgW10, ↓dVar11, ↓dAug11, ↓dSet11, ↓dTgN11, ↓dTgW11, ↓dVar12, ↓dAug12, ↓dSet12, ↓dTgN12, ↓dTgW12, ↓dVar13, ↓dAug13, ↓dSet13, ↓dTgN13, ↓dTgW13, ↓dVar14, ↓dAug14, ↓dSet14, ↓dTgN14, ↓dTgW14, ↓dVar15, ↓dAug15, ↓dSet15, ↓dTgN15, ↓dTgW15, ↓dVar16, ↓dAug16, ↓dSet16, ↓dTgN16, ↓dTgW16, ↓dVar17, ↓dAug17, ↓dSet17, ↓dTgN17, ↓dTgW17, ↓dVar18, ↓dAug18, ↓dSet18, ↓dTgN18, ↓dTgW18, ↓dVar19, ↓dAug19, ↓dSet19, ↓dTgN19, ↓dTgW19, ↓dTg_t2, ↓dTg_t3, ↓exGetM, ↓exSumU, nD, plD, rwD, ↓dAdd_tup, ↓dAdd_ref, dIx_tup, dIx_str, dIx_ref, dIx_kl, dListOf_tup, dListOf_kl, dListOf_ref, dLen_tup, dLen_str, dLen_kl, dLen_ref, dTupOf_tup, dTupOf_ref, dSeqI_x, sqX_tup, sqX_ref, sqX_str, dEnumI_x, enX_tup, enX_ref, dSrtSet, dSortA, dIsi2, isT2, Bool.or_true, Bool.true_or, Bool.or_false, Bool.or_self, dReprR, dReprT, dDGet2, ↓exLS hf4, ↓exDKh hf4]
    exact ⟨2, rfl, hp4, by omega, by omega, fun v2 hv2 => ⟨fun _ => ⟨.tup (l.map evD), ⟨.inl rfl, hl60, pl, okl⟩, rfl⟩, fun _ => ⟨.ref r, hdr, rfl⟩⟩⟩
  rintro δ M4 ⟨rfl, da, hda, rfl⟩
  obtain ⟨d, pd, sh⟩ := hda.pd
  have irf : isRf da := by
    rcases hda.sq with rfl | ⟨g, rfl, _⟩ <;> trivial
  simp (config := {failIfUnchanged := false}) only [dC, dOp, dTest, dChain, dAnd, dOr, dNot, dAndV, dOrV, dNotV, dIf, dNil, dCons, dTup, dLst, dCB, d1, dNoPart, dPart, dSl, dCut, dNeg, dSorted, dSum, dAll, dAny, dInt, dAbs, dMax, dMin, dIsi, isT, dNext, dSeq, dBrk, dCont, dNever, dExpr, dRet, dRetN, dIfS, dAsg, dPutI, dI0, dI, dIsN, dNotN, dRng1, dRng2, dRngDn, dZipI, dYes, dCall, dLM, dAppend, dExtend, dReverse, dInsert, dAugI, dRg1, dRg2, dTupRg, dLstRg, dNewK, dNewT, ↓S0_, ↓S1_, ↓S2_, ↓S3_, ↓S4_, ↓S5_, ↓S6_, List.map_cons, List.map_nil, List.length_cons, List.length_nil, List.replicate, List.cons_append, List.nil_append, Nat.reduceAdd, Nat.reduceSub, Nat.zero_add, List.getElem?_cons_zero, List.getElem?_cons_succ, Option.some.injEq, exists_eq_left, exists_eq_left', List.set_cons_zero, List.set_cons_succ, wipeD, D.int.injEq, D.bl.injEq, D.str.injEq, D.ref.injEq, D.tup.injEq, D.ty.injEq, true_and, and_true, forall_const, forall_eq', forall_eq, mt_int, mt_bool, mt_str, mt_tuple, mt_list, mt_dict, st_int_int, st_int_bool, st_int_str, st_int_tuple, st_int_list, st_int_dict, st_bool_int, st_bool_bool, st_bool_str, st_bool_tuple, st_bool_list, st_bool_dict, st_str_int, st_str_bool, st_str_str, st_str_tuple, st_str_list, st_str_dict, st_tuple_int, st_tuple_bool, st_tuple_str, st_tuple_tuple, st_tuple_list, st_tuple_dict, st_list_int, st_list_bool, st_list_str, st_list_tuple, st_list_list, st_list_dict, st_dict_int, st_dict_bool, st_dict_str, st_dict_tuple, st_dict_list, st_dict_dict, eq_self, Bool.true_eq_false, Bool.false_eq_true, false_implies, true_implies, implies_true, decide_eq_true_eq, decide_eq_false_iff_not, Bool.not_true, Bool.not_false, Bool.not_eq_true, Bool.not_eq_false, Bool.not_eq_true', Bool.not_eq_false', not_true_eq_false, not_false_eq_true, false_and, and_false, or_false, false_or, reduceCtorEq, ↓exLSu, ↓exDKu, ↓exDKd, ↓exLSd, ↓exLu, ↓dIxRu, ↓dPutu, ↓dGetAu, ↓dEq_int, ↓dNe_int, ↓dEq_bl, ↓dNe_bl, ↓dEq_str, ↓dNe_str, ↓dAdd_int, ↓exAt10, ↓exIx10, ↓exAt20, ↓exIx20, ↓exAt21, ↓exIx21, ↓exAt30, ↓exIx30, ↓exAt31, ↓exIx31, ↓exAt32, ↓exIx32, ↓exAt40, ↓exIx40, ↓exAt41, ↓exIx41, ↓exAt42, ↓exIx42, ↓exAt43, ↓exIx43, ↓exAt50, ↓exIx50, ↓exAt51, ↓exIx51, ↓exAt52, ↓exIx52, ↓exAt53, ↓exIx53, ↓exAt54, ↓exIx54, ↓exAt60, ↓exIx60, ↓exAt61, ↓exIx61, ↓exAt62, ↓exIx62, ↓exAt63, ↓exIx63, ↓exAt64, ↓exIx64, ↓exAt65, ↓exIx65, up_up, false_or, or_false, ↓exAtM, ↓dFlag_bl, ↓exBl, ↓exInt, ↓exRef, ↓dVar0, ↓dAug0, ↓dSet0, ↓dTgN0, ↓dTgW0, ↓dVar1, ↓dAug1, ↓dSet1, ↓dTgN1, ↓dTgW1, ↓dVar2, ↓dAug2, ↓dSet2, ↓dTgN2, ↓dTgW2, ↓dVar3, ↓dAug3, ↓dSet3, ↓dTgN3, ↓dTgW3, ↓dVar4, ↓dAug4, ↓dSet4, ↓dTgN4, ↓dTgW4, ↓dVar5, ↓dAug5, ↓dSet5, ↓dTgN5, ↓dTgW5, ↓dVar6, ↓dAug6, ↓dSet6, ↓dTgN6, ↓dTgW6, ↓dVar7, ↓dAug7, ↓dSet7, ↓dTgN7, ↓dTgW7, ↓dVar8, ↓dAug8, ↓dSet8, ↓dTgN8, ↓dTgW8, ↓dVar9, ↓dAug9, ↓dSet9, ↓dTgN9, ↓dTgW9, ↓dVar10, ↓dAug10, ↓dSet10, ↓dTgN10, ↓dTgW10, ↓dVar11, ↓dAug11, ↓dSet11, ↓dTgN11, ↓dTgW11, ↓dVar12, ↓dAug12, ↓dSet12, ↓dTgN12, ↓dTgW12, ↓dVar13, ↓dAug13, ↓dSet13, ↓dTgN13, ↓dTgW13, ↓dVar14, ↓dAug14, ↓dSet14, ↓dTgN14, ↓dTgW14, ↓dVar15, ↓dAug15, ↓dSet15, ↓dTgN15, ↓dTgW15, ↓dVar16, ↓dAug16, ↓dSet16, ↓dTgN16, ↓dTgW16, ↓dVar17, ↓dAug17, ↓dSet17, ↓dTgN17, ↓dTgW17, ↓dVar18, ↓dAug18, ↓dSet18, ↓dTgN18, ↓dTgW18, ↓dVar19, ↓dAug19, ↓dSet19, ↓dTgN19, ↓dTgW19, ↓dTg_t2, ↓dTg_t3, ↓exGetM, ↓exSumU, nD, plD, rwD, ↓dAdd_tup, ↓dAdd_ref, dIx_tup, dIx_str, dIx_ref, dIx_kl, dListOf_tup, dListOf_kl, dListOf_ref, dLen_tup, dLen_str, dLen_kl, dLen_ref, dTupOf_tup, dTupOf_ref, dSeqI_x, sqX_tup, sqX_ref, sqX_str, dEnumI_x, enX_tup, enX_ref, dSrtSet, dSortA, dIsi2, isT2, Bool.or_true, Bool.true_or, Bool.or_false, Bool.or_self, dReprR, dReprT, dDGet2]
  refine ⟨irf, sh.repr (by decide) (by decide) pd ⟨l, m, hda, rfl, hm, by omega, irf, sh.repr (by decide) (by decide) pd ?_⟩⟩
  simp (config := {failIfUnchanged := false}) only [dC, dOp, dTest, dChain, dAnd, dOr, dNot, dAndV, dOrV, dNotV, dIf, dNil, dCons, dTup, dLst, dCB, d1, dNoPart, dPart, dSl, dCut, dNeg, dSorted, dSum, dAll, dAny, dInt, dAbs, dMax, dMin, dIsi, isT, dNext, dSeq, dBrk, dCont, dNever, dExpr, dRet, dRetN, dIfS, dAsg, dPutI, dI0, dI, dIsN, dNotN, dRng1, dRng2, dRngDn, dZipI, dYes, dCall, dLM, dAppend, dExtend, dReverse, dInsert, dAugI, dRg1, dRg2, dTupRg, dLstRg, dNewK, dNewT, ↓S0_, ↓S1_, ↓S2_, ↓S3_, ↓S4_, ↓S5_, ↓S6_, List.map_cons, List.map_nil, List.length_cons, List.length_nil, List.replicate, List.cons_append, List.nil_append, Nat.reduceAdd, Nat.reduceSub, Nat.zero_add, List.getElem?_cons_zero, List.getElem?_cons_succ, Option.some.injEq, exists_eq_left, exists_eq_left', List.set_cons_zero, List.set_cons_succ, wipeD, D.int.injEq, D.bl.injEq, D.str.injEq, D.ref.injEq, D.tup.injEq, D.ty.injEq, true_and, and_true, forall_const, forall_eq', forall_eq, mt_int, mt_bool, mt_str, mt_tuple, mt_list, mt_dict, st_int_int, st_int_bool, st_int_str, st_int_tuple, st_int_list, st_int_dict, st_bool_int, st_bool_bool, st_bool_str, st_bool_tuple, st_bool_list, st_bool_dict, st_str_int, st_str_bool, st_str_str, st_str_tuple, st_str_list, st_str_dict, st_tuple_int, st_tuple_bool, st_tuple_str, st_tuple_tuple, st_tuple_list, st_tuple_dict, st_list_int, st_list_bool, st_list_str, st_list_tuple, st_list_list, st_list_dict, st_dict_int, st_dict_bool, st_dict_str, st_dict_tuple, st_dict_list, st_dict_dict, eq_self, Bool.true_eq_false, Bool.false_eq_true, false_implies, true_implies, implies_true, decide_eq_true_eq, decide_eq_false_iff_not, Bool.not_true, Bool.not_false, Bool.not_eq_true, Bool.not_eq_false, Bool.not_eq_true', Bool.not_eq_false', not_true_eq_false, not_false_eq_true, false_and, and_false, or_false, false_or, reduceCtorEq, ↓exLSu, ↓exDKu, ↓exDKd, ↓exLSd, ↓exLu, ↓dIxRu, ↓dPutu, ↓dGetAu, ↓dEq_int, ↓dNe_int, ↓dEq_bl, ↓dNe_bl, ↓dEq_str, ↓dNe_str, ↓dAdd_int, ↓exAt10, ↓exIx10, ↓exAt20, ↓exIx20, ↓exAt21, ↓exIx21, ↓exAt30, ↓exIx30, ↓exAt31, ↓exIx31, ↓exAt32, ↓exIx32, ↓exAt40, ↓exIx40, ↓exAt41, ↓exIx41, ↓exAt42, ↓exIx42, ↓exAt43, ↓exIx43, ↓exAt50, ↓exIx50, ↓exAt51, ↓exIx51, ↓exAt52, ↓exIx52, ↓exAt53, ↓exIx53, ↓exAt54, ↓exIx54, ↓exAt60, ↓exIx60, ↓exAt61, ↓exIx61, ↓exAt62, ↓exIx62, ↓exAt63, ↓exIx63, ↓exAt64, ↓exIx64, ↓exAt65, ↓exIx65, up_up, false_or, or_false, ↓exAtM, ↓dFlag_bl, ↓exBl, ↓exInt, ↓exRef, ↓dVar0, ↓dAug0, ↓dSet0, ↓dTgN0, ↓dTgW0, ↓dVar1, ↓dAug1, ↓dSet1, ↓dTgN1, ↓dTgW1, ↓dVar2, ↓dAug2, ↓dSet2, ↓dTgN2, ↓dTgW2, ↓dVar3, ↓dAug3, ↓dSet3, ↓dTgN3, ↓dTgW3, ↓dVar4, ↓dAug4, ↓dSet4, ↓dTgN4, ↓dTgW4, ↓dVar5, ↓dAug5, ↓dSet5, ↓dTgN5, ↓dTgW5, ↓dVar6, ↓dAug6, ↓dSet6, ↓dTgN6, ↓dTgW6, ↓dVar7, ↓dAug7, ↓dSet7, ↓dTgN7, ↓dTgW7, ↓dVar8, ↓dAug8, ↓dSet8, ↓dTgN8, ↓dTgW8, ↓dVar9, ↓dAug9, ↓dSet9, ↓dTgN9, ↓dTgW9, ↓dVar10, ↓dAug10, ↓dSet10, ↓dTgN10, ↓dTgW10, ↓dVar11, ↓dAug11, ↓dSet11, ↓dTgN11, ↓dTgW11, ↓dVar12, ↓dAug12, ↓dSet12, ↓dTgN12, ↓dTgW12, ↓dVar13, ↓dAug13, ↓dSet13, ↓dTgN13, ↓dTgW13, ↓dVar14, ↓dAug14, ↓dSet14, ↓dTgN14, ↓dTgW14, ↓dVar15, ↓dAug15, ↓dSet15, ↓dTgN15, ↓dTgW15, ↓dVar16, ↓dAug16, ↓dSet16, ↓dTgN16, ↓dTgW16, ↓dVar17, ↓dAug17, ↓dSet17, ↓dTgN17, ↓dTgW17, ↓dVar18, ↓dAug18, ↓dSet18, ↓dTgN18, ↓dTgW18, ↓dVar19, ↓dAug19, ↓dSet19, ↓dTgN19, ↓dTgW19, ↓dTg_t2, ↓dTg_t3, ↓exGetM, ↓exSumU, nD, plD, rwD, ↓dAdd_tup, ↓dAdd_ref, dIx_tup, dIx_str, dIx_ref, dIx_kl, dListOf_tup, dListOf_kl, dListOf_ref, dLen_tup, dLen_str, dLen_kl, dLen_ref, dTupOf_tup, dTupOf_ref, dSeqI_x, sqX_tup, sqX_ref, sqX_str, dEnumI_x, enX_tup, enX_ref, dSrtSet, dSortA, dIsi2, isT2, Bool.or_true, Bool.true_or, Bool.or_false, Bool.or_self, dReprR, dReprT, dDGet2, dNe_str, ↓exLS hq4, ↓dIxRh hq4]
  have h0 : (dbl (mts l))[0]? = some [] := dbl_head _
  refine ⟨[], atI_nat h0, l, _, hda, rfl, by omega, by omega, [], by rw [wo_nil, Lo_all (Int.le_refl _)]; rfl, rfl, by simp, ?_⟩
  refine dLc_g fun F2 T2 U2 h2 t2 u2 => ?_; simp only [dLc, dC, dOp, dTest, dChain, dAnd, dOr, dNot, dAndV, dOrV, dNotV, dIf, dNil, dCons, dTup, dLst, dCB, d1, dNoPart, dPart, dSl, dCut, dNeg, dSorted, dSum, dAll, dAny, dInt, dAbs, dMax, dMin, dIsi, isT, dNext, dSeq, dBrk, dCont, dNever, dExpr, dRet, dRetN, dIfS, dAsg, dPutI, dI0, dI, dIsN, dNotN, dRng1, dRng2, dRngDn, dZipI, dYes, dCall, dLM, dAppend, dExtend, dReverse, dInsert, dAugI, dRg1, dRg2, dTupRg, dLstRg, dNewK, dNewT, ↓S0_, ↓S1_, ↓S2_, ↓S3_, ↓S4_, ↓S5_, ↓S6_, List.map_cons, List.map_nil, List.length_cons, List.length_nil, List.replicate, List.cons_append, List.nil_append, Nat.reduceAdd, Nat.reduceSub, Nat.zero_add, List.getElem?_cons_zero, List.getElem?_cons_succ, Option.some.injEq, exists_eq_left, exists_eq_left', List.set_cons_zero, List.set_cons_succ, wipeD, D.int.injEq, D.bl.injEq, D.str.injEq, D.ref.injEq, D.tup.injEq, D.ty.injEq, true_and, and_true, forall_const, forall_eq', forall_eq, mt_int, mt_bool, mt_str, mt_tuple, mt_list, mt_dict, st_int_int, st_int_bool, st_int_str, st_int_tuple, st_int_list, st_int_dict, st_bool_int, st_bool_bool, st_bool_str, st_bool_tuple, st_bool_list, st_bool_dict, st_str_int, st_str_bool, st_str_str, st_str_tuple, st_str_list, st_str_dict, st_tuple_int, st_tuple_bool, st_tuple_str, st_tuple_tuple, st_tuple_list, st_tuple_dict, st_list_int, st_list_bool, st_list_str, st_list_tuple, st_list_list, st_list_dict, st_dict_int, st_dict_bool, st_dict_str, st_dict_tuple, st_dict_list, st_dict_dict, eq_self, Bool.true_eq_false, Bool.false_eq_true, false_implies, true_implies, implies_true, decide_eq_true_eq, decide_eq_false_iff_not, Bool.not_true, Bool.not_false, Bool.not_eq_true, Bool.not_eq_false, Bool.not_eq_true', Bool.not_eq_false', not_true_eq_false, not_false_eq_true, false_and, and_false, or_false, false_or, reduceCtorEq, ↓exLSu, ↓exDKu, ↓exDKd, ↓exLSd, ↓exLu, ↓dIxRu, ↓dPutu, ↓dGetAu, ↓dEq_int, ↓dNe_int, ↓dEq_bl, ↓dNe_bl, ↓dEq_str, ↓dNe_str, ↓dAdd_int, ↓exAt10, ↓exIx10, ↓exAt20, ↓exIx20, ↓exAt21, ↓exIx21, ↓exAt30, ↓exIx30, ↓exAt31, ↓exIx31, ↓exAt32, ↓exIx32, ↓exAt40, ↓exIx40, ↓exAt41, ↓exIx41, ↓exAt42, ↓exIx42, ↓exAt43, ↓exIx43, ↓exAt50, ↓exIx50, ↓exAt51, ↓exIx51, ↓exAt52, ↓exIx52, ↓exAt53, ↓exIx53, ↓exAt54, ↓exIx54, ↓exAt60, ↓exIx60, ↓exAt61, ↓exIx61, ↓exAt62, ↓exIx62, ↓exAt63, ↓exIx63, ↓exAt64, ↓exIx64, ↓exAt65, ↓exIx65, up_up, false_or, or_false, ↓exAtM, ↓dFlag_bl, ↓exBl, ↓exInt, ↓exRef, ↓dVar0, ↓dAug0, ↓dSet0, ↓dTgN0, ↓dTgW0, ↓dVar1, ↓dAug1, ↓dSet1, ↓dTgN1, ↓dTgW1, ↓dVar2, ↓dAug2, ↓dSet2, ↓dTgN2, ↓dTgW2, ↓dVar3, ↓dAug3, ↓dSet3, ↓dTgN3, ↓dTgW3, ↓dVar4, ↓dAug4, ↓dSet4, ↓dTgN4, ↓dTgW4, ↓dVar5, ↓dAug5, ↓dSet5, ↓dTgN5, ↓dTgW5, ↓dVar6, ↓dAug6, ↓dSet6, ↓dTgN6, ↓dTgW6, ↓dVar7, ↓dAug7, ↓dSet7, ↓dTgN7, ↓dTgW7, ↓dVar8, ↓dAug8, ↓dSet8, ↓dTgN8, ↓dTgW8, ↓dVar9, ↓dAug9, ↓dSet9, ↓dTgN9, ↓dTgW9, ↓dVar10, ↓dAug10, ↓dSet10, ↓dTgN10, ↓dTgW10, ↓dVar11, ↓dAug11, ↓dSet11, ↓dTgN11, ↓dTgW11, ↓dVar12, ↓dAug12, ↓dSet12, ↓dTgN12, ↓dTgW12, ↓dVar13, ↓dAug13, ↓dSet13, ↓dTgN13, ↓dTgW13, ↓dVar14, ↓dAug14, ↓dSet14, ↓dTgN14, ↓dTgW14, ↓dVar15, ↓dAug15, ↓dSet15, ↓dTgN15, ↓dTgW15, ↓dVar16, ↓dAug16, ↓dSet16, ↓dTgN16, ↓dTgW16, ↓dVar17, ↓dAug17, ↓dSet17, ↓dTgN17, ↓dTgW17, ↓dVar18, ↓dAug18, ↓dSet18, ↓dTgN18, ↓dTgW18, ↓dVar19, ↓dAug19, ↓dSet19, ↓dTgN19, ↓dTgW19, ↓dTg_t2, ↓dTg_t3, ↓exGetM, ↓exSumU, nD, plD, rwD, ↓dAdd_tup, ↓dAdd_ref, dIx_tup, dIx_str, dIx_ref, dIx_kl, dListOf_tup, dListOf_kl, dListOf_ref, dLen_tup, dLen_str, dLen_kl, dLen_ref, dTupOf_tup, dTupOf_ref, dSeqI_x, sqX_tup, sqX_ref, sqX_str, dEnumI_x, enX_tup, enX_ref, dSrtSet, dSortA, dIsi2, isT2, Bool.or_true, Bool.true_or, Bool.or_false, Bool.or_self, dReprR, dReprT, dDGet2]
  simp (config := {failIfUnchanged := false}) only [dC, dOp, dTest, dChain, dAnd, dOr, dNot, dAndV, dOrV, dNotV, dIf, dNil, dCons, dTup, dLst, dCB, d1, dNoPart, dPart, dSl, dCut, dNeg, dSorted, dSum, dAll, dAny, dInt, dAbs, dMax, dMin, dIsi, isT, dNext, dSeq, dBrk, dCont, dNever, dExpr, dRet, dRetN, dIfS, dAsg, dPutI, dI0, dI, dIsN, dNotN, dRng1, dRng2, dRngDn, dZipI, dYes, dCall, dLM, dAppend, dExtend, dReverse, dInsert, dAugI, dRg1, dRg2, dTupRg, dLstRg, dNewK, dNewT, ↓S0_, ↓S1_, ↓S2_, ↓S3_, ↓S4_, ↓S5_, ↓S6_, List.map_cons, List.map_nil, List.length_cons, List.length_nil, List.replicate, List.cons_append, List.nil_append, Nat.reduceAdd, Nat.reduceSub, Nat.zero_add, List.getElem?_cons_zero, List.getElem?_cons_succ, Option.some.injEq, exists_eq_left, exists_eq_left', List.set_cons_zero, List.set_cons_succ, wipeD, D.int.injEq, D.bl.injEq, D.str.injEq, D.ref.injEq, D.tup.injEq, D.ty.injEq, true_and, and_true, forall_const, forall_eq', forall_eq, mt_int, mt_bool, mt_str, mt_tuple, mt_list, mt_dict, st_int_int, st_int_bool, st_int_str, st_int_tuple, st_int_list, st_int_dict, st_bool_int, st_bool_bool, st_bool_str, st_bool_tuple, st_bool_list, st_bool_dict, st_str_int, st_str_bool, st_str_str, st_str_tuple, st_str_list, st_str_dict, st_tuple_int, st_tuple_bool, st_tuple_str, st_tuple_tuple, st_tuple_list, st_tuple_dict, st_list_int, st_list_bool, st_list_str, st_list_tuple, st_list_list, st_list_dict, st_dict_int, st_dict_bool, st_dict_str, st_dict_tuple, st_dict_list, st_dict_dict, eq_self, Bool.true_eq_false, Bool.false_eq_true, false_implies, true_implies, implies_true, decide_eq_true_eq, decide_eq_false_iff_not, Bool.not_true, Bool.not_false, Bool.not_eq_true, Bool.not_eq_false, Bool.not_eq_true', Bool.not_eq_false', not_true_eq_false, not_false_eq_true, false_and, and_false, or_false, false_or, reduceCtorEq, ↓exLSu, ↓exDKu, ↓exDKd, ↓exLSd, ↓exLu, ↓dIxRu, ↓dPutu, ↓dGetAu, ↓dEq_int, ↓dNe_int, ↓dEq_bl, ↓dNe_bl, ↓dEq_str, ↓dNe_str, ↓dAdd_int, ↓exAt10, ↓exIx10, ↓exAt20, ↓exIx20, ↓exAt21, ↓exIx21, ↓exAt30, ↓exIx30, ↓exAt31, ↓exIx31, ↓exAt32, ↓exIx32, ↓exAt40, ↓exIx40, ↓exAt41, ↓exIx41, ↓exAt42, ↓exIx42, ↓exAt43, ↓exIx43, ↓exAt50, ↓exIx50, ↓exAt51, ↓exIx51, ↓exAt52, ↓exIx52, ↓exAt53, ↓exIx53, ↓exAt54, ↓exIx54, ↓exAt60, ↓exIx60, ↓exAt61, ↓exIx61, ↓exAt62, ↓exIx62, ↓exAt63, ↓exIx63, ↓exAt64, ↓exIx64, ↓exAt65, ↓exIx65, up_up, false_or, or_false, ↓exAtM, ↓dFlag_bl, ↓exBl, ↓exInt, ↓exRef, ↓dVar0, ↓dAug0, ↓dSet0, ↓dTgN0, ↓dTgW0, ↓dVar1, ↓dAug1, ↓dSet1, ↓dTgN1, ↓dTgW1, ↓dVar2, ↓dAug2, ↓dSet2, ↓dTgN2, ↓dTgW2, ↓dVar3, ↓dAug3, ↓dSet3, ↓dTgN3, ↓dTgW3, ↓dVar4, ↓dAug4, ↓dSet4, ↓dTgN4, ↓dTgW4, ↓dVar5, ↓dAug5, ↓dSet5, ↓dTgN5, ↓dTgW5, ↓dVar6, ↓dAug6, ↓dSet6, ↓dTgN6, ↓dTgW6, ↓dVar7, ↓dAug7, ↓dSet7, ↓dTgN7, ↓dTgW7, ↓dVar8, ↓dAug8, ↓dSet8, ↓dTgN8, ↓dTgW8, ↓dVar9, ↓dAug9, ↓dSet9, ↓dTgN9, ↓dTgW9, ↓dVar10, ↓dAug10, ↓dSet10, ↓dTgN10, ↓dTgW10, ↓dVar11, ↓dAug11, ↓dSet11, ↓dTgN11, ↓dTgW11, ↓dVar12, ↓dAug12, ↓dSet12, ↓dTgN12, ↓dTgW12, ↓dVar13, ↓dAug13, ↓dSet13, ↓dTgN13, ↓dTgW13, ↓dVar14, ↓dAug14, ↓dSet14, ↓dTgN14, ↓dTgW14, ↓dVar15, ↓dAug15, ↓dSet15, ↓dTgN15, ↓dTgW15, ↓dVar16, ↓dAug16, ↓dSet16, ↓dTgN16, ↓dTgW16, ↓dVar17, ↓dAug17, ↓dSet17, ↓dTgN17, ↓dTgW17, ↓dVar18, ↓dAug18, ↓dSet18, ↓dTgN18, ↓dTgW18, ↓dVar19, ↓dAug19, ↓dSet19, ↓dTgN19, ↓dTgW19, ↓dTg_t2, ↓dTg_t3, ↓exGetM, ↓exSumU, nD, plD, rwD, ↓dAdd_tup, ↓dAdd_ref, dIx_tup, dIx_str, dIx_ref, dIx_kl, dListOf_tup, dListOf_kl, dListOf_ref, dLen_tup, dLen_str, dLen_kl, dLen_ref, dTupOf_tup, dTupOf_ref, dSeqI_x, sqX_tup, sqX_ref, sqX_str, dEnumI_x, enX_tup, enX_ref, dSrtSet, dSortA, dIsi2, isT2, Bool.or_true, Bool.true_or, Bool.or_false, Bool.or_self, dReprR, dReprT, dDGet2, ↓exLS hg4, ↓exDKh hg4]
  have gW : ∀ {i : Nat}, i < (dbl (mts l)).length → (dbl (mts l))[i]? = some ((dbl (mts l)).getD i []) := fun {i} h => by
    rw [List.getD_eq_getElem?_getD, List.getElem?_eq_getElem h]; rfl
  rw [List.length_map, rng0]
  refine ⟨by omega, by rw [rg_len, sizeLine_eq]; omega, lcF nD (fun k => pR ((dbl (mts l)).getD k [])) (fun k => decide ((chO (wo l ((dbl (mts l)).getD k [])) : Int) ≤ m)) (List.range (dbl (mts l)).length) rfl (fun l1 k t pre acc P2 e1 y1 y2 => ?_) (fun w hw => ?_)⟩
  · have hk : k < (dbl (mts l)).length := List.mem_range.mp (by rw [e1]; simp)
    subst t2; subst u2
    simp (config := {failIfUnchanged := false}) only [dC, dOp, dTest, dChain, dAnd, dOr, dNot, dAndV, dOrV, dNotV, dIf, dNil, dCons, dTup, dLst, dCB, d1, dNoPart, dPart, dSl, dCut, dNeg, dSorted, dSum, dAll, dAny, dInt, dAbs, dMax, dMin, dIsi, isT, dNext, dSeq, dBrk, dCont, dNever, dExpr, dRet, dRetN, dIfS, dAsg, dPutI, dI0, dI, dIsN, dNotN, dRng1, dRng2, dRngDn, dZipI, dYes, dCall, dLM, dAppend, dExtend, dReverse, dInsert, dAugI, dRg1, dRg2, dTupRg, dLstRg, dNewK, dNewT, ↓S0_, ↓S1_, ↓S2_, ↓S3_, ↓S4_, ↓S5_, ↓S6_, List.map_cons, List.map_nil, List.length_cons, List.length_nil, List.replicate, List.cons_append, List.nil_append, Nat.reduceAdd, Nat.reduceSub, Nat.zero_add, List.getElem?_cons_zero, List.getElem?_cons_succ, Option.some.injEq, exists_eq_left, exists_eq_left', List.set_cons_zero, List.set_cons_succ, wipeD, D.int.injEq, D.bl.injEq, D.str.injEq, D.ref.injEq, D.tup.injEq, D.ty.injEq, true_and, and_true, forall_const, forall_eq', forall_eq, mt_int, mt_bool, mt_str, mt_tuple, mt_list, mt_dict, st_int_int, st_int_bool, st_int_str, st_int_tuple, st_int_list, st_int_dict, st_bool_int, st_bool_bool, st_bool_str, st_bool_tuple, st_bool_list, st_bool_dict, st_str_int, st_str_bool, st_str_str, st_str_tuple, st_str_list, st_str_dict, st_tuple_int, st_tuple_bool, st_tuple_str, st_tuple_tuple, st_tuple_list, st_tuple_dict, st_list_int, st_list_bool, st_list_str, st_list_tuple, st_list_list, st_list_dict, st_dict_int, st_dict_bool, st_dict_str, st_dict_tuple, st_dict_list, st_dict_dict, eq_self, Bool.true_eq_false, Bool.false_eq_true, false_implies, true_implies, implies_true, decide_eq_true_eq, decide_eq_false_iff_not, Bool.not_true, Bool.not_false, Bool.not_eq_true, Bool.not_eq_false, Bool.not_eq_true', Bool.not_eq_false', not_true_eq_false, not_false_eq_true, false_and, and_false, or_false, false_or, reduceCtorEq, ↓exLSu, ↓exDKu, ↓exDKd, ↓exLSd, ↓exLu, ↓dIxRu, ↓dPutu, ↓dGetAu, ↓dEq_int, ↓dNe_int, ↓dEq_bl, ↓dNe_bl, ↓dEq_str, ↓dNe_str, ↓dAdd_int, ↓exAt10, ↓exIx10, ↓exAt20, ↓exIx20, ↓exAt21, ↓exIx21, ↓exAt30, ↓exIx30, ↓exAt31, ↓exIx31, ↓exAt32, ↓exIx32, ↓exAt40, ↓exIx40, ↓exAt41, ↓exIx41, ↓exAt42, ↓exIx42, ↓exAt43, ↓exIx43, ↓exAt50, ↓exIx50, ↓exAt51, ↓exIx51, ↓exAt52, ↓exIx52, ↓exAt53, ↓exIx53, ↓exAt54, ↓exIx54, ↓exAt60, ↓exIx60, ↓exAt61, ↓exIx61, ↓exAt62, ↓exIx62, ↓exAt63, ↓exIx63, ↓exAt64, ↓exIx64, ↓exAt65, ↓exIx65, up_up, false_or, or_false, ↓exAtM, ↓dFlag_bl, ↓exBl, ↓exInt, ↓exRef, ↓dVar0, ↓dAug0, ↓dSet0, ↓dTgN0, ↓dTgW0, ↓dVar1, ↓dAug1, ↓dSet1, ↓dTgN1, ↓dTgW1, ↓dVar2, ↓dAug2, ↓dSet2, ↓dTgN2, ↓dTgW2, ↓dVar3, ↓dAug3, ↓dSet3, ↓dTgN3, ↓dTgW3, ↓dVar4, ↓dAug4, ↓dSet4, ↓dTgN4, ↓dTgW4, ↓dVar5, ↓dAug5, ↓dSet5, ↓dTgN5, ↓dTgW5, ↓dVar6, ↓dAug6, ↓dSet6, ↓dTgN6, ↓dTgW6, ↓dVar7, ↓dAug7, ↓dSet7, ↓dTgN7, ↓dTgW7, ↓dVar8, ↓dAug8, ↓dSet8, ↓dTgN8, ↓dTgW8, ↓dVar9, ↓dAug9, ↓dSet9, ↓dTgN9, ↓dTgW9, ↓dVar10, ↓dAug10, ↓dSet10, ↓dTgN10, ↓dTgW10, ↓dVar11, ↓dAug11, ↓dSet11, ↓dTgN11, ↓dTgW11, ↓dVar12, ↓dAug12, ↓dSet12, ↓dTgN12, ↓dTgW12, ↓dVar13, ↓dAug13, ↓dSet13, ↓dTgN13, ↓dTgW13, ↓dVar14, ↓dAug14, ↓dSet14, ↓dTgN14, ↓dTgW14, ↓dVar15, ↓dAug15, ↓dSet15, ↓dTgN15, ↓dTgW15, ↓dVar16, ↓dAug16, ↓dSet16, ↓dTgN16, ↓dTgW16, ↓dVar17, ↓dAug17, ↓dSet17, ↓dTgN17, ↓dTgW17, ↓dVar18, ↓dAug18, ↓dSet18, ↓dTgN18, ↓dTgW18, ↓dVar19, ↓dAug19, ↓dSet19, ↓dTgN19, ↓dTgW19, ↓dTg_t2, ↓dTg_t3, ↓exGetM, ↓exSumU, nD, plD, rwD, ↓dAdd_tup, ↓dAdd_ref, dIx_tup, dIx_str, dIx_ref, dIx_kl, dListOf_tup, dListOf_kl, dListOf_ref, dLen_tup, dLen_str, dLen_kl, dLen_ref, dTupOf_tup, dTupOf_ref, dSeqI_x, sqX_tup, sqX_ref, sqX_str, dEnumI_x, enX_tup, enX_ref, dSrtSet, dSortA, dIsi2, isT2, Bool.or_true, Bool.true_or, Bool.or_false, Bool.or_self, dReprR, dReprT, dDGet2, ↓dIxRh hq4, ↓dIxRh hg4]
    refine ⟨_, atI_nat (gW hk), fun z => ⟨_, atI_nat (gW hk), _, atI_nat (gW hk), sb0 ?_⟩, fun z => sb0 (y2 (decide_eq_false z))⟩
    rw [List.length_map]
    exact y1 (decide_eq_true z)
  rw [h2]; clear h2 t2 u2
  rw [rngW (dbl (mts l)) pR fun w => decide ((chO (wo l w) : Int) ≤ m)]
  have s5 : Sub (up M4 w (.lst (((dbl (mts l)).filter fun w => decide ((chO (wo l w) : Int) ≤ m)).map pR))) M4 := Sub.new hw (by intro _ z; cases z)
  have hw5 : up M4 w (.lst (((dbl (mts l)).filter fun w => decide ((chO (wo l w) : Int) ≤ m)).map pR)) w = some (.lst (((dbl (mts l)).filter fun w => decide ((chO (wo l w) : Int) ≤ m)).map pR)) := up_same
  have hf5 := s5.1 _ _ hf4
  replace s5 := s5.trans s4
  generalize up M4 w (.lst (((dbl (mts l)).filter fun w => decide ((chO (wo l w) : Int) ≤ m)).map pR)) = M5 at *
  simp (config := {failIfUnchanged := false}) only [dC, dOp, dTest, dChain, dAnd, dOr, dNot, dAndV, dOrV, dNotV, dIf, dNil, dCons, dTup, dLst, dCB, d1, dNoPart, dPart, dSl, dCut, dNeg, dSorted, dSum, dAll, dAny, dInt, dAbs, dMax, dMin, dIsi, isT, dNext, dSeq, dBrk, dCont, dNever, dExpr, dRet, dRetN, dIfS, dAsg, dPutI, dI0, dI, dIsN, dNotN, dRng1, dRng2, dRngDn, dZipI, dYes, dCall, dLM, dAppend, dExtend, dReverse, dInsert, dAugI, dRg1, dRg2, dTupRg, dLstRg, dNewK, dNewT, ↓S0_, ↓S1_, ↓S2_, ↓S3_, ↓S4_, ↓S5_, ↓S6_, List.map_cons, List.map_nil, List.length_cons, List.length_nil, List.replicate, List.cons_append, List.nil_append, Nat.reduceAdd, Nat.reduceSub, Nat.zero_add, List.getElem?_cons_zero, List.getElem?_cons_succ, Option.some.injEq, exists_eq_left, exists_eq_left', List.set_cons_zero, List.set_cons_succ, wipeD, D.int.injEq, D.bl.injEq, D.str.injEq, D.ref.injEq, D.tup.injEq, D.ty.injEq, true_and, and_true, forall_const, forall_eq', forall_eq, mt_int, mt_bool, mt_str, mt_tuple, mt_list, mt_dict, st_int_int, st_int_bool, st_int_str, st_int_tuple, st_int_list, st_int_dict, st_bool_int, st_bool_bool, st_bool_str, st_bool_tuple, st_bool_list, st_bool_dict, st_str_int, st_str_bool, st_str_str, st_str_tuple, st_str_list, st_str_dict, st_tuple_int, st_tuple_bool, st_tuple_str, st_tuple_tuple, st_tuple_list, st_tuple_dict, st_list_int, st_list_bool, st_list_str, st_list_tuple, st_list_list, st_list_dict, st_dict_int, st_dict_bool, st_dict_str, st_dict_tuple, st_dict_list, st_dict_dict, eq_self, Bool.true_eq_false, Bool.false_eq_true, false_implies, true_implies, implies_true, decide_eq_true_eq, decide_eq_false_iff_not, Bool.not_true, Bool.not_false, Bool.not_eq_true, Bool.not_eq_false, Bool.not_eq_true', Bool.not_eq_false', not_true_eq_false, not_false_eq_true, false_and, and_false, or_false, false_or, reduceCtorEq, ↓exLSu, ↓exDKu, ↓exDKd, ↓exLSd, ↓exLu, ↓dIxRu, ↓dPutu, ↓dGetAu, ↓dEq_int, ↓dNe_int, ↓dEq_bl, ↓dNe_bl, ↓dEq_str, ↓dNe_str, ↓dAdd_int, ↓exAt10, ↓exIx10, ↓exAt20, ↓exIx20, ↓exAt21, ↓exIx21, ↓exAt30, ↓exIx30, ↓exAt31, ↓exIx31, ↓exAt32, ↓exIx32, ↓exAt40, ↓exIx40, ↓exAt41, ↓exIx41, ↓exAt42, ↓exIx42, ↓exAt43, ↓exIx43, ↓exAt50, ↓exIx50, ↓exAt51, ↓exIx51, ↓exAt52, ↓exIx52, ↓exAt53, ↓exIx53, ↓exAt54, ↓exIx54, ↓exAt60, ↓exIx60, ↓exAt61, ↓exIx61, ↓exAt62, ↓exIx62, ↓exAt63, ↓exIx63, ↓exAt64, ↓exIx64, ↓exAt65, ↓exIx65, up_up, false_or, or_false, ↓exAtM, ↓dFlag_bl, ↓exBl, ↓exInt, ↓exRef, ↓dVar0, ↓dAug0, ↓dSet0, ↓dTgN0, ↓dTgW0, ↓dVar1, ↓dAug1, ↓dSet1, ↓dTgN1, ↓dTgW1, ↓dVar2, ↓dAug2, ↓dSet2, ↓dTgN2, ↓dTgW2, ↓dVar3, ↓dAug3, ↓dSet3, ↓dTgN3, ↓dTgW3, ↓dVar4, ↓dAug4, ↓dSet4, ↓dTgN4, ↓dTgW4, ↓dVar5, ↓dAug5, ↓dSet5, ↓dTgN5, ↓dTgW5, ↓dVar6, ↓dAug6, ↓dSet6, ↓dTgN6, ↓dTgW6, ↓dVar7, ↓dAug7, ↓dSet7, ↓dTgN7, ↓dTgW7, ↓dVar8, ↓dAug8, ↓dSet8, ↓dTgN8, ↓dTgW8, ↓dVar9, ↓dAug9, ↓dSet9, ↓dTgN9, ↓dTgW9, ↓dVar10, ↓dAug10, ↓dSet10, ↓dTgN10, ↓dTgW10, ↓dVar11, ↓dAug11, ↓dSet11, ↓dTgN11, ↓dTgW11, ↓dVar12, ↓dAug12, ↓dSet12, ↓dTgN12, ↓dTgW12, ↓dVar13, ↓dAug13, ↓dSet13, ↓dTgN13, ↓dTgW13, ↓dVar14, ↓dAug14, ↓dSet14, ↓dTgN14, ↓dTgW14, ↓dVar15, ↓dAug15, ↓dSet15, ↓dTgN15, ↓dTgW15, ↓dVar16, ↓dAug16, ↓dSet16, ↓dTgN16, ↓dTgW16, ↓dVar17, ↓dAug17, ↓dSet17, ↓dTgN17, ↓dTgW17, ↓dVar18, ↓dAug18, ↓dSet18, ↓dTgN18, ↓dTgW18, ↓dVar19, ↓dAug19, ↓dSet19, ↓dTgN19, ↓dTgW19, ↓dTg_t2, ↓dTg_t3, ↓exGetM, ↓exSumU, nD, plD, rwD, ↓dAdd_tup, ↓dAdd_ref, dIx_tup, dIx_str, dIx_ref, dIx_kl, dListOf_tup, dListOf_kl, dListOf_ref, dLen_tup, dLen_str, dLen_kl, dLen_ref, dTupOf_tup, dTupOf_ref, dSeqI_x, sqX_tup, sqX_ref, sqX_str, dEnumI_x, enX_tup, enX_ref, dSrtSet, dSortA, dIsi2, isT2, Bool.or_true, Bool.true_or, Bool.or_false, Bool.or_self, dReprR, dReprT, dDGet2]
  refine ⟨List Nat, inferInstance, pR, pG, 2, ltR, _, ltl_pair, by decide, .inl hw5, .inl fun d hd => ?_, fun Gd pGd sG r2 hr2 => ?_⟩
  · obtain ⟨w, _, rfl⟩ := List.mem_map.mp hd
    exact ⟨_, _, rfl⟩
  have s6 : Sub (up M5 r2 (.lst (Gd.map pR))) M5 := Sub.new hr2 (by intro _ z; cases z)
  have hf6 := s6.1 _ _ hf5
  replace s6 := s6.trans s5
  generalize up M5 r2 (.lst (Gd.map pR)) = M6 at *
  rcases Lo_case pGd sG with ⟨rfl, e⟩ | ⟨w0, Gs, rfl, e, hc, hm0⟩
  · rw [e]
    refine ⟨fun _ => s6.dn (h _), fun z => absurd rfl z⟩
  · rw [e]
    have w6 := wl w0 hm0
    refine ⟨fun z => absurd z (by simp; omega), fun _ => ⟨w0, atI_nat (xs := w0 :: Gs) (j := 0) rfl, ?_⟩⟩
    simp (config := {failIfUnchanged := false}) only [dC, dOp, dTest, dChain, dAnd, dOr, dNot, dAndV, dOrV, dNotV, dIf, dNil, dCons, dTup, dLst, dCB, d1, dNoPart, dPart, dSl, dCut, dNeg, dSorted, dSum, dAll, dAny, dInt, dAbs, dMax, dMin, dIsi, isT, dNext, dSeq, dBrk, dCont, dNever, dExpr, dRet, dRetN, dIfS, dAsg, dPutI, dI0, dI, dIsN, dNotN, dRng1, dRng2, dRngDn, dZipI, dYes, dCall, dLM, dAppend, dExtend, dReverse, dInsert, dAugI, dRg1, dRg2, dTupRg, dLstRg, dNewK, dNewT, ↓S0_, ↓S1_, ↓S2_, ↓S3_, ↓S4_, ↓S5_, ↓S6_, List.map_cons, List.map_nil, List.length_cons, List.length_nil, List.replicate, List.cons_append, List.nil_append, Nat.reduceAdd, Nat.reduceSub, Nat.zero_add, List.getElem?_cons_zero, List.getElem?_cons_succ, Option.some.injEq, exists_eq_left, exists_eq_left', List.set_cons_zero, List.set_cons_succ, wipeD, D.int.injEq, D.bl.injEq, D.str.injEq, D.ref.injEq, D.tup.injEq, D.ty.injEq, true_and, and_true, forall_const, forall_eq', forall_eq, mt_int, mt_bool, mt_str, mt_tuple, mt_list, mt_dict, st_int_int, st_int_bool, st_int_str, st_int_tuple, st_int_list, st_int_dict, st_bool_int, st_bool_bool, st_bool_str, st_bool_tuple, st_bool_list, st_bool_dict, st_str_int, st_str_bool, st_str_str, st_str_tuple, st_str_list, st_str_dict, st_tuple_int, st_tuple_bool, st_tuple_str, st_tuple_tuple, st_tuple_list, st_tuple_dict, st_list_int, st_list_bool, st_list_str, st_list_tuple, st_list_list, st_list_dict, st_dict_int, st_dict_bool, st_dict_str, st_dict_tuple, st_dict_list, st_dict_dict, eq_self, Bool.true_eq_false, Bool.false_eq_true, false_implies, true_implies, implies_true, decide_eq_true_eq, decide_eq_false_iff_not, Bool.not_true, Bool.not_false, Bool.not_eq_true, Bool.not_eq_false, Bool.not_eq_true', Bool.not_eq_false', not_true_eq_false, not_false_eq_true, false_and, and_false, or_false, false_or, reduceCtorEq, ↓exLSu, ↓exDKu, ↓exDKd, ↓exLSd, ↓exLu, ↓dIxRu, ↓dPutu, ↓dGetAu, ↓dEq_int, ↓dNe_int, ↓dEq_bl, ↓dNe_bl, ↓dEq_str, ↓dNe_str, ↓dAdd_int, ↓exAt10, ↓exIx10, ↓exAt20, ↓exIx20, ↓exAt21, ↓exIx21, ↓exAt30, ↓exIx30, ↓exAt31, ↓exIx31, ↓exAt32, ↓exIx32, ↓exAt40, ↓exIx40, ↓exAt41, ↓exIx41, ↓exAt42, ↓exIx42, ↓exAt43, ↓exIx43, ↓exAt50, ↓exIx50, ↓exAt51, ↓exIx51, ↓exAt52, ↓exIx52, ↓exAt53, ↓exIx53, ↓exAt54, ↓exIx54, ↓exAt60, ↓exIx60, ↓exAt61, ↓exIx61, ↓exAt62, ↓exIx62, ↓exAt63, ↓exIx63, ↓exAt64, ↓exIx64, ↓exAt65, ↓exIx65, up_up, false_or, or_false, ↓exAtM, ↓dFlag_bl, ↓exBl, ↓exInt, ↓exRef, ↓dVar0, ↓dAug0, ↓dSet0, ↓dTgN0, ↓dTgW0, ↓dVar1, ↓dAug1, ↓dSet1, ↓dTgN1, ↓dTgW1, ↓dVar2, ↓dAug2, ↓dSet2, ↓dTgN2, ↓dTgW2, ↓dVar3, ↓dAug3, ↓dSet3, ↓dTgN3, ↓dTgW3, ↓dVar4, ↓dAug4, ↓dSet4, ↓dTgN4, ↓dTgW4, ↓dVar5, ↓dAug5, ↓dSet5, ↓dTgN5, ↓dTgW5, ↓dVar6, ↓dAug6, ↓dSet6, ↓dTgN6, ↓dTgW6, ↓dVar7, ↓dAug7, ↓dSet7, ↓dTgN7, ↓dTgW7, ↓dVar8, ↓dAug8, ↓dSet8, ↓dTgN8, ↓dTgW8, ↓dVar9, ↓dAug9, ↓dSet9, ↓dTgN9, ↓dTgW9, ↓dVar10, ↓dAug10, ↓dSet10, ↓dTgN10, ↓dTgW10, ↓dVar11, ↓dAug11, ↓dSet11, ↓dTgN11, ↓dTgW11, ↓dVar12, ↓dAug12, ↓dSet12, ↓dTgN12, ↓dTgW12, ↓dVar13, ↓dAug13, ↓dSet13, ↓dTgN13, ↓dTgW13, ↓dVar14, ↓dAug14, ↓dSet14, ↓dTgN14, ↓dTgW14, ↓dVar15, ↓dAug15, ↓dSet15, ↓dTgN15, ↓dTgW15, ↓dVar16, ↓dAug16, ↓dSet16, ↓dTgN16, ↓dTgW16, ↓dVar17, ↓dAug17, ↓dSet17, ↓dTgN17, ↓dTgW17, ↓dVar18, ↓dAug18, ↓dSet18, ↓dTgN18, ↓dTgW18, ↓dVar19, ↓dAug19, ↓dSet19, ↓dTgN19, ↓dTgW19, ↓dTg_t2, ↓dTg_t3, ↓exGetM, ↓exSumU, nD, plD, rwD, ↓dAdd_tup, ↓dAdd_ref, dIx_tup, dIx_str, dIx_ref, dIx_kl, dListOf_tup, dListOf_kl, dListOf_ref, dLen_tup, dLen_str, dLen_kl, dLen_ref, dTupOf_tup, dTupOf_ref, dSeqI_x, sqX_tup, sqX_ref, sqX_str, dEnumI_x, enX_tup, enX_ref, dSrtSet, dSortA, dIsi2, isT2, Bool.or_true, Bool.true_or, Bool.or_false, Bool.or_self, dReprR, dReprT, dDGet2, pR, loD]
    obtain ⟨k1, k2, k3⟩ := okw w0
    have mw := mts_wo l w0
    refine ⟨w0, rfl, rfl, by omega, f, l, w0, rfl, hf6, hl60, rfl, by omega, fun f2 M7 s7 _ hf7 => ⟨wo l w0, m, ⟨sqL hf7, k1, k2, k3⟩, rfl, hm, by omega, [], ?_, rfl, by simp, (s7.trans s6).dn (h _)⟩⟩
    rw [Lo_all hc]
end
theorem gv_mk {K : PySem.W.Frag} {h : Heap} {mg : Str → Option Value} {f0 : Addr} {oc0 kV0 dc0 pm0 cd0 ct0 : Value} {od0 an0 : Option Addr} {sl0 : Array (Option Value)}
    {f1 : Addr} {oc1 kV1 dc1 pm1 cd1 ct1 : Value} {od1 an1 : Option Addr} {sl1 : Array (Option Value)}
    {f2 : Addr} {oc2 kV2 dc2 pm2 cd2 ct2 : Value} {od2 an2 : Option Addr} {sl2 : Array (Option Value)}
    {f3 : Addr} {oc3 kV3 dc3 pm3 cd3 ct3 : Value} {od3 an3 : Option Addr} {sl3 : Array (Option Value)}
    {f4 : Addr} {oc4 kV4 dc4 pm4 cd4 ct4 : Value} {od4 an4 : Option Addr} {sl4 : Array (Option Value)}
    {f5 : Addr} {oc5 kV5 dc5 pm5 cd5 ct5 : Value} {od5 an5 : Option Addr} {sl5 : Array (Option Value)}
    {f6 : Addr} {oc6 kV6 dc6 pm6 cd6 ct6 : Value} {od6 an6 : Option Addr} {sl6 : Array (Option Value)}
    {f7 : Addr} {oc7 kV7 dc7 pm7 cd7 ct7 : Value} {od7 an7 : Option Addr} {sl7 : Array (Option Value)}
    {f8 : Addr} {oc8 kV8 dc8 pm8 cd8 ct8 : Value} {od8 an8 : Option Addr} {sl8 : Array (Option Value)}
    {f9 : Addr} {oc9 kV9 dc9 pm9 cd9 ct9 : Value} {od9 an9 : Option Addr} {sl9 : Array (Option Value)}
    {f10 : Addr} {oc10 kV10 dc10 pm10 cd10 ct10 : Value} {od10 an10 : Option Addr} {sl10 : Array (Option Value)}
    {f11 : Addr} {oc11 kV11 dc11 pm11 cd11 ct11 : Value} {od11 an11 : Option Addr} {sl11 : Array (Option Value)}
    {f12 : Addr} {oc12 kV12 dc12 pm12 cd12 ct12 : Value} {od12 an12 : Option Addr} {sl12 : Array (Option Value)}
    {f13 : Addr} {oc13 kV13 dc13 pm13 cd13 ct13 : Value} {od13 an13 : Option Addr} {sl13 : Array (Option Value)}
    {f14 : Addr} {oc14 kV14 dc14 pm14 cd14 ct14 : Value} {od14 an14 : Option Addr} {sl14 : Array (Option Value)}
    {f15 : Addr} {oc15 kV15 dc15 pm15 cd15 ct15 : Value} {od15 an15 : Option Addr} {sl15 : Array (Option Value)}
    {f16 : Addr} {oc16 kV16 dc16 pm16 cd16 ct16 : Value} {od16 an16 : Option Addr} {sl16 : Array (Option Value)}
    {f17 : Addr} {oc17 kV17 dc17 pm17 cd17 ct17 : Value} {od17 an17 : Option Addr} {sl17 : Array (Option Value)}
    {f18 : Addr} {oc18 kV18 dc18 pm18 cd18 ct18 : Value} {od18 an18 : Option Addr} {sl18 : Array (Option Value)}
    {f19 : Addr} {oc19 kV19 dc19 pm19 cd19 ct19 : Value} {od19 an19 : Option Addr} {sl19 : Array (Option Value)}
    {f20 : Addr} {oc20 kV20 dc20 pm20 cd20 ct20 : Value} {od20 an20 : Option Addr} {sl20 : Array (Option Value)}
    {f21 : Addr} {oc21 kV21 dc21 pm21 cd21 ct21 : Value} {od21 an21 : Option Addr} {sl21 : Array (Option Value)}
    {t0 : Tok}
    {t1 : Tok}
    {t2 : Tok}
    {t3 : Tok} (X : K.In h) (G : h.Ns mainGlobals mg)
    (a0 : PySem.W.nsIn K mainGlobals "is_integer" = some (some (.ref f0))) (l0 : K.lookup f0 = some ⟨oc0, od0, .func (PySem.W.fnOf "is_integer" "is_integer" (defArgs st_is_integer) (defBody st_is_integer) (defScope st_is_integer) .none kV0 dc0 pm0 an0 cd0 ct0), sl0⟩) (e0 : PySem.W.codeIn K cd0 "is_integer" = true) (k0 : PySem.W.keepIn K (.ref f0) = true)
    (a1 : PySem.W.nsIn K mainGlobals "is_within" = some (some (.ref f1))) (l1 : K.lookup f1 = some ⟨oc1, od1, .func (PySem.W.fnOf "is_within" "is_within" (defArgs st_is_within) (defBody st_is_within) (defScope st_is_within) .none kV1 dc1 pm1 an1 cd1 ct1), sl1⟩) (e1 : PySem.W.codeIn K cd1 "is_within" = true) (k1 : PySem.W.keepIn K (.ref f1) = true)
    (a2 : PySem.W.nsIn K mainGlobals "is_listed" = some (some (.ref f2))) (l2 : K.lookup f2 = some ⟨oc2, od2, .func (PySem.W.fnOf "is_listed" "is_listed" (defArgs st_is_listed) (defBody st_is_listed) (defScope st_is_listed) .none kV2 dc2 pm2 an2 cd2 ct2), sl2⟩) (e2 : PySem.W.codeIn K cd2 "is_listed" = true) (k2 : PySem.W.keepIn K (.ref f2) = true)
    (a3 : PySem.W.nsIn K mainGlobals "check_most" = some (some (.ref f3))) (l3 : K.lookup f3 = some ⟨oc3, od3, .func (PySem.W.fnOf "check_most" "check_most" (defArgs st_check_most) (defBody st_check_most) (defScope st_check_most) .none kV3 dc3 pm3 an3 cd3 ct3), sl3⟩) (e3 : PySem.W.codeIn K cd3 "check_most" = true) (k3 : PySem.W.keepIn K (.ref f3) = true)
    (a4 : PySem.W.nsIn K mainGlobals "ending_of" = some (some (.ref f4))) (l4 : K.lookup f4 = some ⟨oc4, od4, .func (PySem.W.fnOf "ending_of" "ending_of" (defArgs st_ending_of) (defBody st_ending_of) (defScope st_ending_of) .none kV4 dc4 pm4 an4 cd4 ct4), sl4⟩) (e4 : PySem.W.codeIn K cd4 "ending_of" = true) (k4 : PySem.W.keepIn K (.ref f4) = true)
    (a5 : PySem.W.nsIn K mainGlobals "many_chains" = some (some (.ref f5))) (l5 : K.lookup f5 = some ⟨oc5, od5, .func (PySem.W.fnOf "many_chains" "many_chains" (defArgs st_many_chains) (defBody st_many_chains) (defScope st_many_chains) .none kV5 dc5 pm5 an5 cd5 ct5), sl5⟩) (e5 : PySem.W.codeIn K cd5 "many_chains" = true) (k5 : PySem.W.keepIn K (.ref f5) = true)
    (a6 : PySem.W.nsIn K mainGlobals "is_hand" = some (some (.ref f6))) (l6 : K.lookup f6 = some ⟨oc6, od6, .func (PySem.W.fnOf "is_hand" "is_hand" (defArgs st_is_hand) (defBody st_is_hand) (defScope st_is_hand) .none kV6 dc6 pm6 an6 cd6 ct6), sl6⟩) (e6 : PySem.W.codeIn K cd6 "is_hand" = true) (k6 : PySem.W.keepIn K (.ref f6) = true)
    (a7 : PySem.W.nsIn K mainGlobals "is_event" = some (some (.ref f7))) (l7 : K.lookup f7 = some ⟨oc7, od7, .func (PySem.W.fnOf "is_event" "is_event" (defArgs st_is_event) (defBody st_is_event) (defScope st_is_event) .none kV7 dc7 pm7 an7 cd7 ct7), sl7⟩) (e7 : PySem.W.codeIn K cd7 "is_event" = true) (k7 : PySem.W.keepIn K (.ref f7) = true)
    (a8 : PySem.W.nsIn K mainGlobals "check_day" = some (some (.ref f8))) (l8 : K.lookup f8 = some ⟨oc8, od8, .func (PySem.W.fnOf "check_day" "check_day" (defArgs st_check_day) (defBody st_check_day) (defScope st_check_day) .none kV8 dc8 pm8 an8 cd8 ct8), sl8⟩) (e8 : PySem.W.codeIn K cd8 "check_day" = true) (k8 : PySem.W.keepIn K (.ref f8) = true)
    (a9 : PySem.W.nsIn K mainGlobals "is_put" = some (some (.ref f9))) (l9 : K.lookup f9 = some ⟨oc9, od9, .func (PySem.W.fnOf "is_put" "is_put" (defArgs st_is_put) (defBody st_is_put) (defScope st_is_put) .none kV9 dc9 pm9 an9 cd9 ct9), sl9⟩) (e9 : PySem.W.codeIn K cd9 "is_put" = true) (k9 : PySem.W.keepIn K (.ref f9) = true)
    (a10 : PySem.W.nsIn K mainGlobals "plan_of_day" = some (some (.ref f10))) (l10 : K.lookup f10 = some ⟨oc10, od10, .func (PySem.W.fnOf "plan_of_day" "plan_of_day" (defArgs st_plan_of_day) (defBody st_plan_of_day) (defScope st_plan_of_day) .none kV10 dc10 pm10 an10 cd10 ct10), sl10⟩) (e10 : PySem.W.codeIn K cd10 "plan_of_day" = true) (k10 : PySem.W.keepIn K (.ref f10) = true)
    (a11 : PySem.W.nsIn K mainGlobals "choices" = some (some (.ref f11))) (l11 : K.lookup f11 = some ⟨oc11, od11, .func (PySem.W.fnOf "choices" "choices" (defArgs st_choices) (defBody st_choices) (defScope st_choices) .none kV11 dc11 pm11 an11 cd11 ct11), sl11⟩) (e11 : PySem.W.codeIn K cd11 "choices" = true) (k11 : PySem.W.keepIn K (.ref f11) = true)
    (a12 : PySem.W.nsIn K mainGlobals "without" = some (some (.ref f12))) (l12 : K.lookup f12 = some ⟨oc12, od12, .func (PySem.W.fnOf "without" "without" (defArgs st_without) (defBody st_without) (defScope st_without) .none kV12 dc12 pm12 an12 cd12 ct12), sl12⟩) (e12 : PySem.W.codeIn K cd12 "without" = true) (k12 : PySem.W.keepIn K (.ref f12) = true)
    (a13 : PySem.W.nsIn K mainGlobals "left_out" = some (some (.ref f13))) (l13 : K.lookup f13 = some ⟨oc13, od13, .func (PySem.W.fnOf "left_out" "left_out" (defArgs st_left_out) (defBody st_left_out) (defScope st_left_out) .none kV13 dc13 pm13 an13 cd13 ct13), sl13⟩) (e13 : PySem.W.codeIn K cd13 "left_out" = true) (k13 : PySem.W.keepIn K (.ref f13) = true)
    (a14 : PySem.W.nsIn K mainGlobals "_law_pool" = some (some (.ref f14))) (l14 : K.lookup f14 = some ⟨oc14, od14, .func (PySem.W.fnOf "_law_pool" "_law_pool" (defArgs st__law_pool) (defBody st__law_pool) (defScope st__law_pool) .none kV14 dc14 pm14 an14 cd14 ct14), sl14⟩) (e14 : PySem.W.codeIn K cd14 "_law_pool" = true) (k14 : PySem.W.keepIn K (.ref f14) = true)
    (a15 : PySem.W.nsIn K mainGlobals "_law_draw" = some (some (.ref f15))) (l15 : K.lookup f15 = some ⟨oc15, od15, .func (PySem.W.fnOf "_law_draw" "_law_draw" (defArgs st__law_draw) (defBody st__law_draw) (defScope st__law_draw) .none kV15 dc15 pm15 an15 cd15 ct15), sl15⟩) (e15 : PySem.W.codeIn K cd15 "_law_draw" = true) (k15 : PySem.W.keepIn K (.ref f15) = true)
    (a16 : PySem.W.nsIn K mainGlobals "_law_day" = some (some (.ref f16))) (l16 : K.lookup f16 = some ⟨oc16, od16, .func (PySem.W.fnOf "_law_day" "_law_day" (defArgs st__law_day) (defBody st__law_day) (defScope st__law_day) .none kV16 dc16 pm16 an16 cd16 ct16), sl16⟩) (e16 : PySem.W.codeIn K cd16 "_law_day" = true) (k16 : PySem.W.keepIn K (.ref f16) = true)
    (a17 : PySem.W.nsIn K mainGlobals "_law_chains" = some (some (.ref f17))) (l17 : K.lookup f17 = some ⟨oc17, od17, .func (PySem.W.fnOf "_law_chains" "_law_chains" (defArgs st__law_chains) (defBody st__law_chains) (defScope st__law_chains) .none kV17 dc17 pm17 an17 cd17 ct17), sl17⟩) (e17 : PySem.W.codeIn K cd17 "_law_chains" = true) (k17 : PySem.W.keepIn K (.ref f17) = true)
    (a18 : PySem.W.nsIn K mainGlobals "_law_without" = some (some (.ref f18))) (l18 : K.lookup f18 = some ⟨oc18, od18, .func (PySem.W.fnOf "_law_without" "_law_without" (defArgs st__law_without) (defBody st__law_without) (defScope st__law_without) .none kV18 dc18 pm18 an18 cd18 ct18), sl18⟩) (e18 : PySem.W.codeIn K cd18 "_law_without" = true) (k18 : PySem.W.keepIn K (.ref f18) = true)
    (a19 : PySem.W.nsIn K mainGlobals "_law_choices" = some (some (.ref f19))) (l19 : K.lookup f19 = some ⟨oc19, od19, .func (PySem.W.fnOf "_law_choices" "_law_choices" (defArgs st__law_choices) (defBody st__law_choices) (defScope st__law_choices) .none kV19 dc19 pm19 an19 cd19 ct19), sl19⟩) (e19 : PySem.W.codeIn K cd19 "_law_choices" = true) (k19 : PySem.W.keepIn K (.ref f19) = true)
    (a20 : PySem.W.nsIn K mainGlobals "_law_is_row" = some (some (.ref f20))) (l20 : K.lookup f20 = some ⟨oc20, od20, .func (PySem.W.fnOf "_law_is_row" "_law_is_row" (defArgs st__law_is_row) (defBody st__law_is_row) (defScope st__law_is_row) .none kV20 dc20 pm20 an20 cd20 ct20), sl20⟩) (e20 : PySem.W.codeIn K cd20 "_law_is_row" = true) (k20 : PySem.W.keepIn K (.ref f20) = true)
    (a21 : PySem.W.nsIn K mainGlobals "law" = some (some (.ref f21))) (l21 : K.lookup f21 = some ⟨oc21, od21, .func (PySem.W.fnOf "law" "law" (defArgs st_law) (defBody st_law) (defScope st_law) .none kV21 dc21 pm21 an21 cd21 ct21), sl21⟩) (e21 : PySem.W.codeIn K cd21 "law" = true) (k21 : PySem.W.keepIn K (.ref f21) = true)
    (z0 : PySem.W.nsIn K mainGlobals "bool" = some none)
    (z1 : PySem.W.nsIn K mainGlobals "enumerate" = some none)
    (z2 : PySem.W.nsIn K mainGlobals "int" = some none)
    (z3 : PySem.W.nsIn K mainGlobals "isinstance" = some none)
    (z4 : PySem.W.nsIn K mainGlobals "len" = some none)
    (z5 : PySem.W.nsIn K mainGlobals "list" = some none)
    (z6 : PySem.W.nsIn K mainGlobals "range" = some none)
    (z7 : PySem.W.nsIn K mainGlobals "repr" = some none)
    (z8 : PySem.W.nsIn K mainGlobals "set" = some none)
    (z9 : PySem.W.nsIn K mainGlobals "sorted" = some none)
    (z10 : PySem.W.nsIn K mainGlobals "str" = some none)
    (z11 : PySem.W.nsIn K mainGlobals "sum" = some none)
    (z12 : PySem.W.nsIn K mainGlobals "tuple" = some none)
    (y0 : PySem.W.nsIn K mainGlobals "MOST_EVENTS" = some (some (.int 60 t0)))
    (y1 : PySem.W.nsIn K mainGlobals "MOST_HAND" = some (some (.int 15 t1)))
    (y2 : PySem.W.nsIn K mainGlobals "MOST_ITEMS" = some (some (.int 40 t2)))
    (y3 : PySem.W.nsIn K mainGlobals "MOST_MEETS" = some (some (.int 10 t3))) : Gv K mg :=
  ⟨df_mk X G a0 l0 e0 k0, df_mk X G a1 l1 e1 k1, df_mk X G a2 l2 e2 k2, df_mk X G a3 l3 e3 k3, df_mk X G a4 l4 e4 k4, df_mk X G a5 l5 e5 k5, df_mk X G a6 l6 e6 k6, df_mk X G a7 l7 e7 k7, df_mk X G a8 l8 e8 k8, df_mk X G a9 l9 e9 k9, df_mk X G a10 l10 e10 k10, df_mk X G a11 l11 e11 k11, df_mk X G a12 l12 e12 k12, df_mk X G a13 l13 e13 k13, df_mk X G a14 l14 e14 k14, df_mk X G a15 l15 e15 k15, df_mk X G a16 l16 e16 k16, df_mk X G a17 l17 e17 k17, df_mk X G a18 l18 e18 k18, df_mk X G a19 l19 e19 k19, df_mk X G a20 l20 e20 k20, df_mk X G a21 l21 e21 k21, gn_mk X G z0, gn_mk X G z1, gn_mk X G z2, gn_mk X G z3, gn_mk X G z4, gn_mk X G z5, gn_mk X G z6, gn_mk X G z7, gn_mk X G z8, gn_mk X G z9, gn_mk X G z10, gn_mk X G z11, gn_mk X G z12, gi_mk X G y0 ⟨_, rfl⟩, gi_mk X G y1 ⟨_, rfl⟩, gi_mk X G y2 ⟨_, rfl⟩, gi_mk X G y3 ⟨_, rfl⟩⟩
end Lw

open PySem PySem.W PyProof.Rows in
set_option maxRecDepth 100000 in
set_option maxHeartbeats 0 in
theorem PySem.Challenge.cw_putbetween_k15_whole_meets_left_out_holds : PySem.Challenge.rw_putbetween_k15_whole_meets_left_out.Holds := by
  w_on; o_law; k_head; (case hw => w_witness2)
  k_fill
  refine T3.walk3G (l := PySem.Challenge.rw_putbetween_k15_whole_meets_left_out) (k := 8) (x := "_law_script") rfl rfl ⟨rfl, by decide, by decide⟩ (fun w h Y => PySem.W.kIn_of Y) ?F
  case F =>
    intro w mg h KX G base
    refine Lw.pr_law ?_
    refine' Lw.gv_mk KX G ?a0 ?l0 ?e0 ?k0 ?a1 ?l1 ?e1 ?k1 ?a2 ?l2 ?e2 ?k2 ?a3 ?l3 ?e3 ?k3 ?a4 ?l4 ?e4 ?k4 ?a5 ?l5 ?e5 ?k5 ?a6 ?l6 ?e6 ?k6 ?a7 ?l7 ?e7 ?k7 ?a8 ?l8 ?e8 ?k8 ?a9 ?l9 ?e9 ?k9 ?a10 ?l10 ?e10 ?k10 ?a11 ?l11 ?e11 ?k11 ?a12 ?l12 ?e12 ?k12 ?a13 ?l13 ?e13 ?k13 ?a14 ?l14 ?e14 ?k14 ?a15 ?l15 ?e15 ?k15 ?a16 ?l16 ?e16 ?k16 ?a17 ?l17 ?e17 ?k17 ?a18 ?l18 ?e18 ?k18 ?a19 ?l19 ?e19 ?k19 ?a20 ?l20 ?e20 ?k20 ?a21 ?l21 ?e21 ?k21 ?z0 ?z1 ?z2 ?z3 ?z4 ?z5 ?z6 ?z7 ?z8 ?z9 ?z10 ?z11 ?z12 ?y0 ?y1 ?y2 ?y3
    (case a0 => k_is)
    (case l0 => k_is)
    (case e0 => k_is)
    (case k0 => k_is)
    (case a1 => k_is)
    (case l1 => k_is)
    (case e1 => k_is)
    (case k1 => k_is)
    (case a2 => k_is)
    (case l2 => k_is)
    (case e2 => k_is)
    (case k2 => k_is)
    (case a3 => k_is)
    (case l3 => k_is)
    (case e3 => k_is)
    (case k3 => k_is)
    (case a4 => k_is)
    (case l4 => k_is)
    (case e4 => k_is)
    (case k4 => k_is)
    (case a5 => k_is)
    (case l5 => k_is)
    (case e5 => k_is)
    (case k5 => k_is)
    (case a6 => k_is)
    (case l6 => k_is)
    (case e6 => k_is)
    (case k6 => k_is)
    (case a7 => k_is)
    (case l7 => k_is)
    (case e7 => k_is)
    (case k7 => k_is)
    (case a8 => k_is)
    (case l8 => k_is)
    (case e8 => k_is)
    (case k8 => k_is)
    (case a9 => k_is)
    (case l9 => k_is)
    (case e9 => k_is)
    (case k9 => k_is)
    (case a10 => k_is)
    (case l10 => k_is)
    (case e10 => k_is)
    (case k10 => k_is)
    (case a11 => k_is)
    (case l11 => k_is)
    (case e11 => k_is)
    (case k11 => k_is)
    (case a12 => k_is)
    (case l12 => k_is)
    (case e12 => k_is)
    (case k12 => k_is)
    (case a13 => k_is)
    (case l13 => k_is)
    (case e13 => k_is)
    (case k13 => k_is)
    (case a14 => k_is)
    (case l14 => k_is)
    (case e14 => k_is)
    (case k14 => k_is)
    (case a15 => k_is)
    (case l15 => k_is)
    (case e15 => k_is)
    (case k15 => k_is)
    (case a16 => k_is)
    (case l16 => k_is)
    (case e16 => k_is)
    (case k16 => k_is)
    (case a17 => k_is)
    (case l17 => k_is)
    (case e17 => k_is)
    (case k17 => k_is)
    (case a18 => k_is)
    (case l18 => k_is)
    (case e18 => k_is)
    (case k18 => k_is)
    (case a19 => k_is)
    (case l19 => k_is)
    (case e19 => k_is)
    (case k19 => k_is)
    (case a20 => k_is)
    (case l20 => k_is)
    (case e20 => k_is)
    (case k20 => k_is)
    (case a21 => k_is)
    (case l21 => k_is)
    (case e21 => k_is)
    (case k21 => k_is)
    (case z0 => k_is)
    (case z1 => k_is)
    (case z2 => k_is)
    (case z3 => k_is)
    (case z4 => k_is)
    (case z5 => k_is)
    (case z6 => k_is)
    (case z7 => k_is)
    (case z8 => k_is)
    (case z9 => k_is)
    (case z10 => k_is)
    (case z11 => k_is)
    (case z12 => k_is)
    (case y0 => k_is)
    (case y1 => k_is)
    (case y2 => k_is)
    (case y3 => k_is)

