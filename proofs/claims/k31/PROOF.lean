import PyProof.Rows.All
import Wide.All
import OpenK.AllK
import Wide.FinOn
import HandS.ForMost
import HandS.ForExc
import HandS.Conv
import HandS.IsInst
import HandS.TupAny
import HandS.SortInts
import HandS.DictComp
import HandS.Zip
import HandS.Style
import KE.KTupSum
import KE.GoesEnum
import HandS.WordsExc
import HandS.TryOnly
import HandS.ExcIs
import HandS.ExcInit
import HandS.ExcField
import KE.KExcSuper
import PyProof.ReprRoads
import PyProof.ReprLen
import HandS.SetFor
import HandS.Strs
import HandS.Text
import HandS.TupSets
import PyProof.DictKinds
import PyProof.Rows.SortKeyStr
import KE.SortCalls
import HandS.Dict
import PyProof.ListStr
import HandS.Comp
import HandS.List
import PySem.Challenge.RW_putbetween_k31_whole_lacking_beginnings
set_option Elab.async false
set_option linter.all false
set_option maxRecDepth 100000
set_option maxHeartbeats 4000000
/-! The layer over the layer: tuples by value, what is not named stands. -/
namespace T3
open PySem PySem.Spec PyProof.Rows L2
/-! ### data -/
inductive D where
  | non | bl (b : Bool) | int (i : Int) | str (x : Str) | ref (a : Addr) | ty (n : String) | tup (xs : List D) | kl (a : Addr) (ns : List Int)
mutual
def R (K : PySem.W.Frag) (H : Hp) : D → V → Prop
  | .non, v => v = .non
  | .bl b, v => v = .bl b
  | .int i, v => v = .int i
  | .str x, v => v = .str x
  | .ref a, v => v = .ref a
  | .ty n, v => v = .ty n
  | .kl a ns, v => v = .ref a ∧ ∀ H2, SqL K H2 a (ns.map V.int)
  | .tup ds, v => ∃ a vs, v = .ref a ∧ H a = some (.tup vs) ∧ Rs K H ds vs
def Rs (K : PySem.W.Frag) (H : Hp) : List D → List V → Prop
  | [], vs => vs = []
  | d :: ds, vs => ∃ v us, vs = v :: us ∧ R K H d v ∧ Rs K H ds us
end
/-- every tuple stands -/
def Tx (K : PySem.W.Frag) (H H' : Hp) : Prop := ∀ a xs, H a = some (.tup xs) → H' a = some (.tup xs)
section
variable {K : PySem.W.Frag} {H H' H2 : Hp}
theorem Tx.refl : Tx K H H := fun _ _ h => h
theorem Tx.trans (a : Tx K H H') (b : Tx K H' H2) : Tx K H H2 := fun x xs h => b x xs (a x xs h)
mutual
theorem R.mono (t : Tx K H H') : ∀ {d : D} {v : V}, R K H d v → R K H' d v
  | .non, _, h => by unfold R at h ⊢; exact h
  | .bl _, _, h => by unfold R at h ⊢; exact h
  | .int _, _, h => by unfold R at h ⊢; exact h
  | .str _, _, h => by unfold R at h ⊢; exact h
  | .ref _, _, h => by unfold R at h ⊢; exact h
  | .ty _, _, h => by unfold R at h ⊢; exact h
  | .kl _ _, _, h => by unfold R at h ⊢; exact h
  | .tup ds, v, h => by
    unfold R at h ⊢
    obtain ⟨a, vs, e, s, r⟩ := h
    exact ⟨a, vs, e, t _ _ s, Rs.mono t r⟩
theorem Rs.mono (t : Tx K H H') : ∀ {ds : List D} {vs : List V}, Rs K H ds vs → Rs K H' ds vs
  | [], _, h => h
  | d :: ds, vs, h => by
    unfold Rs at h ⊢
    obtain ⟨v, us, e, r, rs⟩ := h
    exact ⟨v, us, e, R.mono t r, Rs.mono t rs⟩
end
theorem R.tup {ds : List D} {a : Addr} {vs : List V} (h : H a = some (.tup vs)) (r : Rs K H ds vs) : R K H (.tup ds) (.ref a) := by
  unfold R
  exact ⟨a, vs, rfl, h, r⟩
theorem R.untup {ds : List D} {v : V} (h : R K H (.tup ds) v) : ∃ a vs, v = .ref a ∧ H a = some (.tup vs) ∧ Rs K H ds vs := by
  unfold R at h
  exact h
theorem Rs.nil : Rs K H [] [] := by
  unfold Rs
  rfl
theorem Rs.cons {d : D} {v : V} {ds : List D} {vs : List V} (h : R K H d v) (t : Rs K H ds vs) : Rs K H (d :: ds) (v :: vs) := by
  unfold Rs
  exact ⟨v, vs, rfl, h, t⟩
theorem Rs.unil {vs : List V} (h : Rs K H [] vs) : vs = [] := by
  unfold Rs at h
  exact h
theorem Rs.ucons {d : D} {ds : List D} {vs : List V} (h : Rs K H (d :: ds) vs) : ∃ v us, vs = v :: us ∧ R K H d v ∧ Rs K H ds us := by
  unfold Rs at h
  exact h
theorem Rs.len : ∀ {ds : List D} {vs : List V}, Rs K H ds vs → vs.length = ds.length
  | [], _, h => by rw [h.unil]; rfl
  | d :: ds, vs, h => by
    obtain ⟨v, us, rfl, r, rs⟩ := h.ucons
    simp [Rs.len rs]
theorem Rs.get : ∀ {ds : List D} {vs : List V} {i : Nat} {d : D}, Rs K H ds vs → ds[i]? = some d → ∃ v, vs[i]? = some v ∧ R K H d v
  | [], _, _, _, _, e => by simp at e
  | d :: ds, vs, 0, x, h, e => by
    obtain ⟨v, us, rfl, r, rs⟩ := h.ucons
    simp at e; subst e
    exact ⟨v, rfl, r⟩
  | d :: ds, vs, i + 1, x, h, e => by
    obtain ⟨v, us, rfl, r, rs⟩ := h.ucons
    obtain ⟨w, e1, e2⟩ := Rs.get (i := i) rs (by simpa using e)
    exact ⟨w, by simpa using e1, e2⟩
theorem Rs.app : ∀ {ds es : List D} {vs us : List V}, Rs K H ds vs → Rs K H es us → Rs K H (ds ++ es) (vs ++ us)
  | [], _, _, _, h, k => by rw [h.unil]; exact k
  | d :: ds, es, vs, us, h, k => by
    obtain ⟨v, ws, rfl, r, rs⟩ := h.ucons
    exact .cons r (Rs.app rs k)
theorem Rs.one {d : D} {v : V} (h : R K H d v) : Rs K H [d] [v] := .cons h .nil
theorem Rs.set {d : D} {v : V} (r : R K H d v) : ∀ {ds : List D} {vs : List V} (i : Nat), Rs K H ds vs → Rs K H (ds.set i d) (vs.set i v)
  | [], _, i, h => by rw [h.unil]; exact .nil
  | e :: ds, vs, 0, h => by
    obtain ⟨w, us, rfl, _, rs⟩ := h.ucons
    exact .cons r rs
  | e :: ds, vs, i + 1, h => by
    obtain ⟨w, us, rfl, q, rs⟩ := h.ucons
    exact .cons q (Rs.set r i rs)
theorem Rs.take : ∀ {ds : List D} {vs : List V} (n : Nat), Rs K H ds vs → Rs K H (ds.take n) (vs.take n)
  | _, _, 0, _ => .nil
  | [], _, n + 1, h => by rw [h.unil]; exact .nil
  | d :: ds, vs, n + 1, h => by
    obtain ⟨v, us, rfl, r, rs⟩ := h.ucons
    exact .cons r (Rs.take n rs)
theorem Rs.drop : ∀ {ds : List D} {vs : List V} (n : Nat), Rs K H ds vs → Rs K H (ds.drop n) (vs.drop n)
  | _, _, 0, h => h
  | [], _, n + 1, h => by rw [h.unil]; exact .nil
  | d :: ds, vs, n + 1, h => by
    obtain ⟨v, us, rfl, r, rs⟩ := h.ucons
    exact Rs.drop n rs
theorem Rs.erase : ∀ {ds : List D} {vs : List V} (i : Nat), Rs K H ds vs → Rs K H (ds.eraseIdx i) (vs.eraseIdx i)
  | [], _, i, h => by rw [h.unil]; exact .nil
  | d :: ds, vs, 0, h => by
    obtain ⟨v, us, rfl, r, rs⟩ := h.ucons
    exact rs
  | d :: ds, vs, i + 1, h => by
    obtain ⟨v, us, rfl, r, rs⟩ := h.ucons
    exact .cons r (Rs.erase i rs)
theorem Rs.rev {ds : List D} {vs : List V} (h : Rs K H ds vs) : Rs K H ds.reverse vs.reverse := by
  induction ds generalizing vs with
  | nil => rw [h.unil]; exact .nil
  | cons d ds ih =>
    obtain ⟨v, us, rfl, r, rs⟩ := h.ucons
    rw [List.reverse_cons, List.reverse_cons]
    exact (ih rs).app (.one r)
theorem Rs.ints : ∀ {ns : List Int} {vs : List V}, Rs K H (ns.map D.int) vs → vs = ns.map V.int
  | [], _, h => h.unil
  | n :: ns, vs, h => by
    obtain ⟨v, us, rfl, r, rs⟩ := h.ucons
    unfold R at r
    rw [r, Rs.ints rs]
    rfl
theorem Rs.of_ints : ∀ ns : List Int, Rs K H (ns.map D.int) (ns.map V.int)
  | [] => .nil
  | n :: ns => .cons (by unfold R; rfl) (Rs.of_ints ns)
theorem Rs.bls : ∀ {ns : List Bool} {vs : List V}, Rs K H (ns.map D.bl) vs → vs = ns.map V.bl
  | [], _, h => h.unil
  | n :: ns, vs, h => by
    obtain ⟨v, us, rfl, r, rs⟩ := h.ucons
    unfold R at r
    rw [r, Rs.bls rs]
    rfl
theorem Rs.strs : ∀ {ns : List Str} {vs : List V}, Rs K H (ns.map D.str) vs → vs = ns.map V.str
  | [], _, h => h.unil
  | n :: ns, vs, h => by
    obtain ⟨v, us, rfl, r, rs⟩ := h.ucons
    unfold R at r
    rw [r, Rs.strs rs]
    rfl
theorem Rs.of_strs : ∀ ns : List Str, Rs K H (ns.map D.str) (ns.map V.str)
  | [] => .nil
  | n :: ns => .cons (by unfold R; rfl) (Rs.of_strs ns)
theorem R.int' {i : Int} : R K H (.int i) (.int i) := by unfold R; rfl
theorem R.bl' {b : Bool} : R K H (.bl b) (.bl b) := by unfold R; rfl
theorem R.str' {x : Str} : R K H (.str x) (.str x) := by unfold R; rfl
theorem R.non' : R K H .non .non := by unfold R; rfl
theorem R.ref' {a : Addr} : R K H (.ref a) (.ref a) := by unfold R; rfl
theorem R.ty' {n : String} : R K H (.ty n) (.ty n) := by unfold R; rfl
theorem R.int_ {i : Int} {v : V} (h : R K H (.int i) v) : v = .int i := by unfold R at h; exact h
theorem R.bl_ {i : Bool} {v : V} (h : R K H (.bl i) v) : v = .bl i := by unfold R at h; exact h
theorem R.str_ {i : Str} {v : V} (h : R K H (.str i) v) : v = .str i := by unfold R at h; exact h
theorem R.non_ {v : V} (h : R K H .non v) : v = .non := by unfold R at h; exact h
theorem R.ref_ {a : Addr} {v : V} (h : R K H (.ref a) v) : v = .ref a := by unfold R at h; exact h
theorem R.kl_ {a : Addr} {ns : List Int} {v : V} (h : R K H (.kl a ns) v) : v = .ref a ∧ ∀ H2, SqL K H2 a (ns.map V.int) := by unfold R at h; exact h
theorem R.kl' {a : Addr} {ns : List Int} (h : ∀ H2, SqL K H2 a (ns.map V.int)) : R K H (.kl a ns) (.ref a) := by unfold R; exact ⟨rfl, h⟩
theorem R.ty_ {n : String} {v : V} (h : R K H (.ty n) v) : v = .ty n := by unfold R at h; exact h
end
/-! ### the heap of what may change -/
inductive O where
  | lst (xs : List D) | fz (xs : List D)
  | dK (kvs : List (Key × D)) | dKz (kvs : List (Key × D))
  | dT (kvs : List (List Key × D))
  | ext (I : Hp → Prop) (own : List Addr) | own (a : Addr)
abbrev Hd := Addr → Option O
def up (M : Hd) (a : Addr) (o : O) : Hd := fun b => if b = a then some o else M b
theorem up_same {M : Hd} {a : Addr} {o : O} : up M a o a = some o := by unfold up; rw [if_pos rfl]
theorem up_ne {M : Hd} {a b : Addr} {o : O} (h : b ≠ a) : up M a o b = M b := by unfold up; rw [if_neg h]
theorem up_up {M : Hd} {a : Addr} {o u : O} : up (up M a o) a u = up M a u := by funext b; unfold up; split <;> rfl
theorem up_self {M : Hd} {a : Addr} {o : O} (h : M a = some o) : up M a o = M := by
  funext b; unfold up; split
  · rename_i e; rw [e, h]
  · rfl
theorem neM {M : Hd} {a b : Addr} {o : O} (h : M a = some o) (h' : M b = none) : a ≠ b := by
  intro e; subst e; rw [h] at h'; cases h'
/-- not a tuple -/
def NotTup : HO → Prop
  | .tup _ => False
  | .frz _ (.tup _) => False
  | .xd _ => False
  | _ => True
abbrev RK {κ : Type} (K : PySem.W.Frag) (H : Hp) : List (κ × D) → List (κ × V) → Prop := Paired fun p q => p.1 = q.1 ∧ R K H p.2 q.2
theorem RK.mono {κ : Type} {K : PySem.W.Frag} {H H' : Hp} (t : Tx K H H') {kvs : List (κ × D)} {ws : List (κ × V)} (h : RK K H kvs ws) : RK K H' kvs ws :=
  Paired.mapP h fun _ _ q => ⟨q.1, q.2.mono t⟩
def OR (K : PySem.W.Frag) (H : Hp) (M : Hd) (a : Addr) : O → Prop
  | .lst xs => ∃ vs, H a = some (.lst vs) ∧ Rs K H xs vs
  | .fz xs => ∃ ob vs, H a = some (.frz ob (.lst vs)) ∧ Rs K H xs vs
  | .dK kvs => ∃ ws, H a = some (.dK ws) ∧ RK K H kvs ws
  | .dKz kvs => ∃ ob ws, H a = some (.frz ob (.dK ws)) ∧ RK K H kvs ws
  | .dT kvs => ∃ ws, H a = some (.dT ws) ∧ RK K H kvs ws
  | .ext I own => I H ∧ (∃ u, H a = some u ∧ NotTup u) ∧ (∀ b ∈ own, M b = some (.own a)) ∧ ∀ H2, Tx K H H2 → (∀ b u, (b = a ∨ b ∈ own) → H b = some u → H2 b = some u) → I H2
  | .own _ => ∃ u, H a = some u ∧ NotTup u
def Rep (K : PySem.W.Frag) (H : Hp) (M : Hd) : Prop := ∀ a o, M a = some o → OR K H M a o
/-- what is not named stands, and stays unnamed -/
def Go (H : Hp) (M : Hd) (H' : Hp) (M' : Hd) : Prop := ∀ a u, H a = some u → M a = none → H' a = some u ∧ M' a = none
section
variable {K : PySem.W.Frag} {H H' H2 : Hp} {M M' M2 : Hd}
theorem OR.there {a : Addr} {o : O} (h : OR K H M a o) : ∃ u, H a = some u ∧ NotTup u := by
  cases o with
  | lst xs => obtain ⟨vs, e, _⟩ := h; exact ⟨_, e, trivial⟩
  | fz xs => obtain ⟨ob, vs, e, _⟩ := h; exact ⟨_, e, trivial⟩
  | dK xs => obtain ⟨vs, e, _⟩ := h; exact ⟨_, e, trivial⟩
  | dKz xs => obtain ⟨ob, vs, e, _⟩ := h; exact ⟨_, e, trivial⟩
  | dT xs => obtain ⟨vs, e, _⟩ := h; exact ⟨_, e, trivial⟩
  | ext I own => exact h.2.1
  | own => exact h
theorem Rep.free (rep : Rep K H M) {p : Addr} (h : H p = none) : M p = none := by
  cases e : M p with
  | none => rfl
  | some o =>
    obtain ⟨u, q, _⟩ := (rep p o e).there
    rw [h] at q; cases q
theorem Rep.xd (rep : Rep K H M) {p : Addr} {fs : List (Str × V)} (h : H p = some (.xd fs)) : M p = none := by
  cases e : M p with
  | none => rfl
  | some o =>
    obtain ⟨u, q, t⟩ := (rep p o e).there
    rw [h] at q; cases q; exact t.elim
theorem Go.refl : Go H M H M := fun _ _ h n => ⟨h, n⟩
theorem Go.trans (a : Go H M H' M') (b : Go H' M' H2 M2) : Go H M H2 M2 := fun x u h n => let ⟨h1, n1⟩ := a x u h n; b x u h1 n1
theorem Rep.tx (rep : Rep K H M) (g : Go H M H' M') : Tx K H H' := by
  intro a xs h
  have n : M a = none := by
    cases e : M a with
    | none => rfl
    | some o =>
      obtain ⟨u, q, t⟩ := (rep a o e).there
      rw [h] at q; cases q; exact t.elim
  exact (g a _ h n).1
/-- an object's description leans on its own cell, and on tuples -/
theorem OR.stay {a : Addr} {o : O} (h : OR K H M a o) (t : Tx K H H') (k : ∀ b u, (b = a ∨ M b = some (.own a)) → H b = some u → H' b = some u) (m : ∀ b c, M b = some (.own c) → M' b = some (.own c)) : OR K H' M' a o := by
  cases o with
  | lst xs => obtain ⟨vs, e, r⟩ := h; exact ⟨vs, k _ _ (.inl rfl) e, r.mono t⟩
  | fz xs => obtain ⟨ob, vs, e, r⟩ := h; exact ⟨ob, vs, k _ _ (.inl rfl) e, r.mono t⟩
  | dK xs => obtain ⟨vs, e, r⟩ := h; exact ⟨vs, k _ _ (.inl rfl) e, r.mono t⟩
  | dKz xs => obtain ⟨ob, vs, e, r⟩ := h; exact ⟨ob, vs, k _ _ (.inl rfl) e, r.mono t⟩
  | dT xs => obtain ⟨vs, e, r⟩ := h; exact ⟨vs, k _ _ (.inl rfl) e, r.mono t⟩
  | ext I own =>
    obtain ⟨i, ⟨u, e, nt⟩, o, st⟩ := h
    have kk : ∀ b u, (b = a ∨ b ∈ own) → H b = some u → H' b = some u := fun b u hb q => by
      rcases hb with hb | hb
      · exact k b u (.inl hb) q
      · exact k b u (.inr (o b hb)) q
    exact ⟨st _ t kk, ⟨u, k _ _ (.inl rfl) e, nt⟩, fun b hb => m b _ (o b hb), fun H2 t2 hk => st _ (t.trans t2) fun b u hb q => hk b u hb (kk b u hb q)⟩
  | own => obtain ⟨u, e, nt⟩ := h; exact ⟨u, k _ _ (.inl rfl) e, nt⟩
/-- a cell is written, or laid: p -/
theorem Rep.put (rep : Rep K H M) {p : Addr} {u : HO} {o : O} (t : Tx K H (upd H p u)) (ho : ∀ c, M p ≠ some (.own c)) (hn : H p = none ∨ M p ≠ none) (new : OR K (upd H p u) (up M p o) p o) : Rep K (upd H p u) (up M p o) := by
  intro a q e
  by_cases ha : a = p
  · subst ha; rw [up_same] at e; cases e; exact new
  · rw [up_ne ha] at e
    refine (rep a q e).stay t (fun b v hb hv => ?_) fun b c hb => ?_
    · have nb : b ≠ p := by
        rintro rfl
        rcases hb with hb | hb
        · exact ha hb.symm
        · exact ho _ hb
      rw [upd_ne nb]; exact hv
    · have nb : b ≠ p := by
        rintro rfl
        exact ho _ hb
      rw [up_ne nb]; exact hb
theorem tx_new {p : Addr} {u : HO} (h : H p = none) : Tx K H (upd H p u) := fun a xs q => by
  rw [upd_ne (ne_of_none q h)]; exact q
theorem tx_put {p : Addr} {u v : HO} (h : H p = some v) (nt : NotTup v) : Tx K H (upd H p u) := fun a xs q => by
  have : a ≠ p := by rintro rfl; rw [h] at q; cases q; exact nt.elim
  rw [upd_ne this]; exact q
theorem go_new {p : Addr} {u : HO} {o : O} (h : H p = none) : Go H M (upd H p u) (up M p o) := fun a v e n => by
  have na : a ≠ p := ne_of_none e h
  rw [upd_ne na, up_ne na]
  exact ⟨e, n⟩
theorem go_put {p : Addr} {u : HO} {o : O} (h : M p ≠ none) : Go H M (upd H p u) (up M p o) := fun a v e n => by
  have na : a ≠ p := by rintro rfl; exact h n
  rw [upd_ne na, up_ne na]
  exact ⟨e, n⟩
/-- a tuple is laid -/
theorem Rep.tup (rep : Rep K H M) {p : Addr} {u : HO} (h : H p = none) : Rep K (upd H p u) M := by
  intro a q e
  refine (rep a q e).stay (tx_new h) (fun b v _ hv => ?_) fun _ _ hb => hb
  rw [upd_ne (ne_of_none hv h)]; exact hv
theorem go_tup {p : Addr} {u : HO} (h : H p = none) : Go H M (upd H p u) M := fun a v e n => ⟨by rw [upd_ne (ne_of_none e h)]; exact e, n⟩
/-- forgetting -/
theorem Rep.sub (rep : Rep K H M) (h : ∀ a o, M' a = some o → M a = some o) (ho : ∀ a c, M a = some (.own c) → M' a = some (.own c)) : Rep K H M' := fun a o e =>
  (rep a o (h a o e)).stay Tx.refl (fun _ _ _ q => q) ho
end
/-! ### slots -/
abbrev DS := List (Option D)
structure Sl (K : PySem.W.Frag) (H : Hp) (σ : L2.St) (δ : DS) : Prop where
  len : σ.length = δ.length
  at_ : ∀ (i : Nat) (d : D), δ[i]? = some (some d) → ∃ v : V, σ[i]? = some (some v) ∧ R K H d v
section
variable {K : PySem.W.Frag} {H H' : Hp} {σ : L2.St} {δ : DS}
theorem Sl.mono (s : Sl K H σ δ) (t : Tx K H H') : Sl K H' σ δ := ⟨s.len, fun i d e => let ⟨v, q, r⟩ := s.at_ i d e; ⟨v, q, r.mono t⟩⟩
theorem Sl.set (s : Sl K H σ δ) {v : V} {d : D} (i : Nat) (r : R K H d v) : Sl K H (σ.set i (some v)) (δ.set i (some d)) := by
  refine ⟨by rw [List.length_set, List.length_set]; exact s.len, fun j e q => ?_⟩
  by_cases h : i = j
  · subst h
    have hl : i < δ.length := by
      have := (List.getElem?_eq_some_iff.mp q).1
      rwa [List.length_set] at this
    rw [List.getElem?_set_self hl] at q
    cases q
    rw [List.getElem?_set_self (by rw [s.len]; exact hl)]
    exact ⟨v, rfl, r⟩
  · rw [List.getElem?_set_ne h] at q ⊢
    exact s.at_ j e q
theorem Sl.unset (s : Sl K H σ δ) (i : Nat) : Sl K H (σ.set i none) (δ.set i none) := by
  refine ⟨by rw [List.length_set, List.length_set]; exact s.len, fun j e q => ?_⟩
  by_cases h : i = j
  · subst h
    have hl : i < δ.length := by
      have := (List.getElem?_eq_some_iff.mp q).1
      rwa [List.length_set] at this
    rw [List.getElem?_set_self hl] at q
    cases q
  · rw [List.getElem?_set_ne h] at q ⊢
    exact s.at_ j e q
def wipeD (δ : DS) : List Nat → DS
  | [] => δ
  | v :: vs => (wipeD δ vs).set v none
theorem Sl.wipe (s : Sl K H σ δ) : ∀ vs : List Nat, Sl K H (L2.wipe σ vs) (wipeD δ vs)
  | [] => s
  | v :: vs => (Sl.wipe s vs).unset v
/-- the start -/
def startD (N : Nat) (ds : List D) : DS := ds.map some ++ List.replicate (N - ds.length) none
theorem Sl.start {N : List Str} {ds : List D} {vs : List V} (r : Rs K H ds vs) : Sl K H (L2.start N vs) (startD N.length ds) := by
  have hl := r.len
  refine ⟨by unfold L2.start startD; simp [hl], fun i d e => ?_⟩
  unfold startD at e
  unfold L2.start
  by_cases h : i < ds.length
  · rw [List.getElem?_append_left (by simpa using h)] at e
    rw [List.getElem?_append_left (by simpa [hl] using h)]
    rw [List.getElem?_map] at e ⊢
    cases q : ds[i]? with
    | none => rw [q] at e; cases e
    | some x =>
      rw [q] at e
      cases e
      obtain ⟨v, e1, e2⟩ := r.get q
      exact ⟨v, by rw [e1]; rfl, e2⟩
  · rw [List.getElem?_append_right (by simpa using h)] at e
    have := List.getElem?_eq_some_iff.mp e
    obtain ⟨h1, h2⟩ := this
    rw [List.getElem_replicate] at h2
    cases h2
end
end T3
namespace T3
open PySem PySem.Spec PyProof.Rows L2
/-! ### readings over data -/
abbrev DK := D → Hd → Prop
abbrev DE := DS → Hd → DK → Prop
abbrev DT := DS → Hd → (Bool → Hd → Prop) → Prop
abbrev DA := DS → Hd → (List D → Hd → Prop) → Prop
structure DEnds where
  nx : DS → Hd → Prop
  rt : DK
  bk : DS → Hd → Prop := fun _ _ => False
  ct : DS → Hd → Prop := fun _ _ => False
abbrev DSt := DEnds → DS → Hd → Prop
/-- what is known all along -/
structure Am where
  B : Hp → Hd → Prop
  pres : ∀ H M H' M', Go H M H' M' → B H M → B H' M'
def Am.no : Am := ⟨fun _ _ => True, fun _ _ _ _ _ h => h⟩
def Am.since (H0 : Hp) (M0 : Hd) : Am := ⟨fun H M => Go H0 M0 H M, fun _ _ _ _ g h => h.trans g⟩
def SndE (K : PySem.W.Frag) (B : Am) (t : TE) (d : DE) : Prop := ∀ (σ : L2.St) (H : Hp) (δ : DS) (M : Hd) (Q : VK) (Qd : DK), Sl K H σ δ → Rep K H M → B.B H M → d δ M Qd →
  (∀ v H' x M', Go H M H' M' → Rep K H' M' → R K H' x v → Qd x M' → Q v H') → t σ H Q
def SndT (K : PySem.W.Frag) (B : Am) (t : TT) (d : DT) : Prop := ∀ (σ : L2.St) (H : Hp) (δ : DS) (M : Hd) (Q : Bool → Hp → Prop) (Qd : Bool → Hd → Prop), Sl K H σ δ → Rep K H M → B.B H M → d δ M Qd →
  (∀ b H' M', Go H M H' M' → Rep K H' M' → Qd b M' → Q b H') → t σ H Q
def SndA (K : PySem.W.Frag) (B : Am) (n : Nat) (t : TA) (d : DA) : Prop := ∀ (σ : L2.St) (H : Hp) (δ : DS) (M : Hd) (Q : List V → Hp → Prop) (Qd : List D → Hd → Prop), Sl K H σ δ → Rep K H M → B.B H M → d δ M Qd →
  (∀ vs H' xs M', Go H M H' M' → Rep K H' M' → Rs K H' xs vs → xs.length = n → Qd xs M' → Q vs H') → t σ H Q
structure EndOk (K : PySem.W.Frag) (H : Hp) (M : Hd) (D : Ends) (Dd : DEnds) : Prop where
  nx : ∀ σ' H' δ' M', Go H M H' M' → Sl K H' σ' δ' → Rep K H' M' → Dd.nx δ' M' → D.nx σ' H'
  rt : ∀ v H' x M', Go H M H' M' → Rep K H' M' → R K H' x v → Dd.rt x M' → D.rt v H'
  bk : ∀ σ' H' δ' M', Go H M H' M' → Sl K H' σ' δ' → Rep K H' M' → Dd.bk δ' M' → D.bk σ' H'
  ct : ∀ σ' H' δ' M', Go H M H' M' → Sl K H' σ' δ' → Rep K H' M' → Dd.ct δ' M' → D.ct σ' H'
theorem EndOk.mono {K : PySem.W.Frag} {H H1 : Hp} {M M1 : Hd} {D : Ends} {Dd : DEnds} (g : Go H M H1 M1) (e : EndOk K H M D Dd) : EndOk K H1 M1 D Dd :=
  ⟨fun a b c d h => e.nx a b c d (g.trans h), fun a b c d h => e.rt a b c d (g.trans h), fun a b c d h => e.bk a b c d (g.trans h), fun a b c d h => e.ct a b c d (g.trans h)⟩
def SndS (K : PySem.W.Frag) (B : Am) (t : TS) (d : DSt) : Prop := ∀ (σ : L2.St) (H : Hp) (δ : DS) (M : Hd) (D : Ends) (Dd : DEnds), Sl K H σ δ → Rep K H M → B.B H M → d Dd δ M → EndOk K H M D Dd → t D σ H
structure PE3 (X : Cx) (B : Am) (e : Expr) (d : DE) : Prop where
  ex : ∃ t, PE X e t ∧ SndE X.K B t d
structure PT3 (X : Cx) (B : Am) (e : Expr) (d : DT) : Prop where
  ex : ∃ t, PT X e t ∧ SndT X.K B t d
structure PW3 (X : Cx) (B : Am) (e : Expr) (d : DT) : Prop where
  ex : ∃ t, PW X e t ∧ SndT X.K B t d
structure PA3 (X : Cx) (B : Am) (es : List Expr) (d : DA) : Prop where
  ex : ∃ t, PA X es t ∧ SndA X.K B es.length t d
structure PS3 (X : Cx) (B : Am) (s : Stmt) (d : DSt) : Prop where
  ex : ∃ t, PS X s t ∧ SndS X.K B t d
structure PB3 (X : Cx) (B : Am) (s : List Stmt) (d : DSt) : Prop where
  ex : ∃ t, PSs X s t ∧ SndS X.K B t d
/-! ### forgetting -/
def Fgt (K : PySem.W.Frag) (M M' : Hd) : Prop := (∀ H, Rep K H M → Rep K H M') ∧ ∀ a, M a = none → M' a = none
theorem Fgt.refl {K : PySem.W.Frag} {M : Hd} : Fgt K M M := ⟨fun _ h => h, fun _ h => h⟩
theorem Fgt.trans {K : PySem.W.Frag} {M M' M2 : Hd} (a : Fgt K M M') (b : Fgt K M' M2) : Fgt K M M2 := ⟨fun H h => b.1 H (a.1 H h), fun x h => b.2 x (a.2 x h)⟩
theorem Fgt.go {K : PySem.W.Frag} {H : Hp} {M M' : Hd} (a : Fgt K M M') : Go H M H M' := fun x u h n => ⟨h, a.2 x n⟩
/-- only new lists, dicts are forgotten -/
def Sub (M M' : Hd) : Prop := (∀ a o, M' a = some o → M a = some o) ∧ ∀ a c, M a = some (.own c) → M' a = some (.own c)
theorem Sub.refl {M : Hd} : Sub M M := ⟨fun _ _ h => h, fun _ _ h => h⟩
theorem Sub.trans {M M' M2 : Hd} (a : Sub M M') (b : Sub M' M2) : Sub M M2 := ⟨fun x o h => a.1 x o (b.1 x o h), fun x c h => b.2 x c (a.2 x c h)⟩
theorem Sub.fgt {K : PySem.W.Frag} {M M' : Hd} (a : Sub M M') : Fgt K M M' := ⟨fun H h => h.sub a.1 a.2, fun x h => by
  cases e : M' x with
  | none => rfl
  | some o => rw [a.1 x o e] at h; cases h⟩
theorem Sub.new {M : Hd} {p : Addr} {o : O} (h : M p = none) (ho : ∀ c, o ≠ .own c) : Sub (up M p o) M := ⟨fun a u e => by rw [up_ne (neM e h)]; exact e, fun a c e => by
  by_cases z : a = p
  · subst z; rw [up_same] at e; cases e; exact absurd rfl (ho _)
  · rw [up_ne z] at e; exact e⟩
theorem Sub.put {M M0 : Hd} {p : Addr} {o : O} (s : Sub M M0) (h : M0 p = none) (ho : ∀ c, o ≠ .own c) : Sub (up M p o) M0 := ⟨fun a u e => by rw [up_ne (neM e h)]; exact s.1 a u e, fun a c e => by
  by_cases z : a = p
  · subst z; rw [up_same] at e; cases e; exact absurd rfl (ho _)
  · rw [up_ne z] at e; exact s.2 a _ e⟩
theorem Sub.at {M M' : Hd} (s : Sub M M') {a : Addr} {o : O} (h : M' a = some o) : M a = some o := s.1 a o h
theorem Sub.free {M M' : Hd} (s : Sub M M') {a : Addr} (h : M a = none) : M' a = none := by
  cases e : M' a with
  | none => rfl
  | some o => rw [s.1 a o e] at h; cases h
/-! ### expressions -/
section
variable {X : Cx} {B : Am}
def dVar (i : Nat) : DE := fun δ M Q => ∃ x, δ[i]? = some (some x) ∧ Q x M
theorem e_var (i : Nat) {x : Str} {pos : Pos} (hN : X.N[i]? = some x := by rfl) (hv : Vis X.env.scope x := by first | exact Or.inl rfl | exact Or.inr (Or.inl rfl) | exact Or.inr (Or.inr rfl)) (hd : (x == ("__debug__" : Str)) = false := by decide)
    (hcd : (x == ("__classdict__" : Str)) = false := by decide) : PE3 X B (.Name x pos) (dVar i) := ⟨_, pv i hN hv hd hcd, fun σ H δ M Q Qd sl rep _ ⟨x, e, h⟩ q => by
  obtain ⟨v, e1, r⟩ := sl.at_ i x e
  exact ⟨v, e1, q v H x M Go.refl rep r h⟩⟩
def dC (d : D) : DE := fun _ M Q => Q d M
theorem sndC {K : PySem.W.Frag} {v : V} {d : D} (h : ∀ H, R K H d v) : SndE K B (tC v) (dC d) := fun σ H δ M Q Qd sl rep _ h' q => q v H d M Go.refl rep (h H) h'
theorem e_int {i j pos} : PE3 X B (.Constant (.int i) j pos) (dC (.int i)) := ⟨_, pe_int, sndC fun _ => R.int'⟩
theorem e_bl {b j pos} : PE3 X B (.Constant (.bool b) j pos) (dC (.bl b)) := ⟨_, pe_bl, sndC fun _ => R.bl'⟩
theorem e_non {j pos} : PE3 X B (.Constant .none j pos) (dC .non) := ⟨_, pe_non, sndC fun _ => R.non'⟩
theorem e_str {x j pos} : PE3 X B (.Constant (.str x) j pos) (dC (.str x)) := ⟨_, pe_str, sndC fun _ => R.str'⟩
/-- a module's int, text -/
theorem e_gint {x : Str} {i : Int} {u : Value} {pos : Pos} (hg : Gl X x) (hm : X.mg x = some u) (r : RelV (.int i) u) (hd : (x == ("__debug__" : Str)) = false := by decide) : PE3 X B (.Name x pos) (dC (.int i)) :=
  ⟨_, pe_glob hg hm r hd, sndC fun _ => R.int'⟩
theorem e_gstr {x : Str} {i : Str} {u : Value} {pos : Pos} (hg : Gl X x) (hm : X.mg x = some u) (r : RelV (.str i) u) (hd : (x == ("__debug__" : Str)) = false := by decide) : PE3 X B (.Name x pos) (dC (.str i)) :=
  ⟨_, pe_glob hg hm r hd, sndC fun _ => R.str'⟩
theorem e_gref {x : Str} {a : Addr} {pos : Pos} (hg : Gl X x) (hm : X.mg x = some (.ref a)) (hd : (x == ("__debug__" : Str)) = false := by decide) : PE3 X B (.Name x pos) (dC (.ref a)) :=
  ⟨_, pe_glob (v := .ref a) hg hm (show RelV (.ref a) (.ref a) from rfl) hd, sndC fun _ => R.ref'⟩
/-- a built-in class as a value -/
theorem e_ty {x : Str} {T : String} {pos : Pos} (hg : Gl X x) (hm : X.mg x = none) (hv : bootBuiltins x = some (.type T)) (hn : x ≠ "__name__" := by decide) (hd : (x == ("__debug__" : Str)) = false := by decide) : PE3 X B (.Name x pos) (dC (.ty T)) :=
  ⟨_, pe_bltn (v := .ty T) hg hm hv rfl hn hd, sndC fun _ => R.ty'⟩
abbrev DR2 := D → D → Hd → DK → Prop
def SndR2 (K : PySem.W.Frag) (r : R2) (rd : DR2) : Prop := ∀ (H : Hp) (M : Hd) (x y : D) (v u : V) (Q : VK) (Qd : DK), Rep K H M → R K H x v → R K H y u → rd x y M Qd →
  (∀ v' H' x' M', Go H M H' M' → Rep K H' M' → R K H' x' v' → Qd x' M' → Q v' H') → r v u H Q
structure OpD (X : Cx) (f : Value → Value → Sem Value) (rd : DR2) : Prop where
  ex : ∃ r, OpR X f r ∧ SndR2 X.K r rd
def dOp (rd : DR2) (da db : DE) : DE := fun δ M Q => da δ M fun x M1 => db δ M1 fun y M2 => rd x y M2 Q
theorem SndE.op {K : PySem.W.Frag} {ta tb : TE} {da db : DE} {r : R2} {rd : DR2} (ha : SndE K B ta da) (hb : SndE K B tb db) (hr : SndR2 K r rd) : SndE K B (tOp r ta tb) (dOp rd da db) := by
  intro σ H δ M Q Qd sl rep b h q
  refine ha σ H δ M _ _ sl rep b h fun x1 H1 d1 M1 g1 rep1 r1 h1 => ?_
  refine hb σ H1 δ M1 _ _ (sl.mono (rep.tx g1)) rep1 (B.pres _ _ _ _ g1 b) h1 fun x2 H2 d2 M2 g2 rep2 r2 h2 => ?_
  exact hr H2 M2 d1 d2 x1 x2 Q Qd rep2 (r1.mono (rep1.tx g2)) r2 h2 fun v' H' x' M' g rep' r' q' => q v' H' x' M' ((g1.trans g2).trans g) rep' r' q'
variable {a b c e : Expr} {da db dc de : DE} {pos : Pos}
theorem e_op {op : Operator} {rd : DR2} (ho : OpD X (binaryOp op) rd) (ha : PE3 X B a da) (hb : PE3 X B b db) : PE3 X B (.BinOp a op b pos) (dOp rd da db) := by
  obtain ⟨r, h1, h2⟩ := ho.ex
  obtain ⟨ta, a1, a2⟩ := ha.ex
  obtain ⟨tb, b1, b2⟩ := hb.ex
  exact ⟨_, pe_op h1 a1 b1, a2.op b2 h2⟩
theorem e_cmp {op : CmpOp} {rd : DR2} (ho : OpD X (compareOp op) rd) (ha : PE3 X B a da) (hb : PE3 X B b db) (hm : behindInMarks op b = false := by first | exact nomark _ | rfl) : PE3 X B (.Compare a [op] [b] pos) (dOp rd da db) := by
  obtain ⟨r, h1, h2⟩ := ho.ex
  obtain ⟨ta, a1, a2⟩ := ha.ex
  obtain ⟨tb, b1, b2⟩ := hb.ex
  exact ⟨_, pe_cmpR h1 a1 b1 hm, a2.op b2 h2⟩
/-- of a value, its truth (a flag) -/
def dFlag (x : D) (M : Hd) (Q : Bool → Hd → Prop) : Prop := ∃ k, x = .bl k ∧ Q k M
def dTest (d : DE) : DT := fun δ M Q => d δ M fun x M1 => dFlag x M1 Q
theorem SndE.test {K : PySem.W.Frag} {t : TE} {d : DE} (h : SndE K B t d) : SndT K B (tTest t) (dTest d) := fun σ H δ M Q Qd sl rep bb h' q =>
  h σ H δ M _ _ sl rep bb h' fun v H' x M' g rep' r ⟨k, e, h''⟩ => by
    subst e
    exact ⟨k, r.bl_, q k H' M' g rep' h''⟩
theorem t_cmp {op : CmpOp} {rd : DR2} (ho : OpD X (compareOp op) rd) (ha : PE3 X B a da) (hb : PE3 X B b db) (hm : behindInMarks op b = false := by first | exact nomark _ | rfl) : PT3 X B (.Compare a [op] [b] pos) (dTest (dOp rd da db)) := by
  obtain ⟨r, h1, h2⟩ := ho.ex
  obtain ⟨ta, a1, a2⟩ := ha.ex
  obtain ⟨tb, b1, b2⟩ := hb.ex
  exact ⟨_, pt_cmpR h1 a1 b1 hm, (a2.op b2 h2).test⟩
/-- a < b < c -/
def dChain (r r' : DR2) (da db dc : DE) : DE := fun δ M Q => da δ M fun x M1 => db δ M1 fun y M2 => r x y M2 fun z M3 => ∃ k, z = .bl k ∧ (k = true → dc δ M3 fun w M4 => r' y w M4 Q) ∧ (k = false → Q (.bl false) M3)
theorem SndE.chain {K : PySem.W.Frag} {ta tb tc : TE} {r r' : R2} {rd rd' : DR2} (ha : SndE K B ta da) (hb : SndE K B tb db) (hc : SndE K B tc dc) (hr : SndR2 K r rd) (hr' : SndR2 K r' rd') : SndE K B (tChain r r' ta tb tc) (dChain rd rd' da db dc) := by
  intro σ H δ M Q Qd sl rep bb h q
  refine ha σ H δ M _ _ sl rep bb h fun x1 H1 d1 M1 g1 rep1 r1 h1 => ?_
  have bb1 := B.pres _ _ _ _ g1 bb
  have sl1 := sl.mono (rep.tx g1)
  refine hb σ H1 δ M1 _ _ sl1 rep1 bb1 h1 fun x2 H2 d2 M2 g2 rep2 r2 h2 => ?_
  have bb2 := B.pres _ _ _ _ g2 bb1
  have sl2 := sl1.mono (rep1.tx g2)
  refine hr H2 M2 d1 d2 x1 x2 _ _ rep2 (r1.mono (rep1.tx g2)) r2 h2 fun v3 H3 x3 M3 g3 rep3 r3 ⟨k, ek, h3, h4⟩ => ?_
  subst ek
  refine ⟨k, r3.bl_, ?_⟩
  have bb3 := B.pres _ _ _ _ g3 bb2
  have sl3 := sl2.mono (rep2.tx g3)
  cases k with
  | true =>
    refine iteT (hc σ H3 δ M3 _ _ sl3 rep3 bb3 (h3 rfl) fun x4 H4 d4 M4 g4 rep4 r4 h5 => ?_)
    exact hr' H4 M4 d2 d4 x2 x4 Q Qd rep4 ((r2.mono (rep2.tx g3)).mono (rep3.tx g4)) r4 h5 fun v' H' x' M' g rep' r' q' => q v' H' x' M' ((((g1.trans g2).trans g3).trans g4).trans g) rep' r' q'
  | false => exact iteF (q _ H3 _ M3 ((g1.trans g2).trans g3) rep3 R.bl' (h4 rfl))
theorem e_chain {op op' : CmpOp} {rd rd' : DR2} (ho : OpD X (compareOp op) rd) (ho' : OpD X (compareOp op') rd') (ha : PE3 X B a da) (hb : PE3 X B b db) (hc : PE3 X B c dc) (hm : lastMarks [op, op'] [b, c] = false := by rfl) :
    PE3 X B (.Compare a [op, op'] [b, c] pos) (dChain rd rd' da db dc) := by
  obtain ⟨r, h1, h2⟩ := ho.ex
  obtain ⟨r', h1', h2'⟩ := ho'.ex
  obtain ⟨ta, a1, a2⟩ := ha.ex
  obtain ⟨tb, b1, b2⟩ := hb.ex
  obtain ⟨tc, c1, c2⟩ := hc.ex
  exact ⟨_, pe_chain h1 h1' a1 b1 c1 hm, a2.chain b2 c2 h2 h2'⟩
theorem t_chain {op op' : CmpOp} {rd rd' : DR2} (ho : OpD X (compareOp op) rd) (ho' : OpD X (compareOp op') rd') (ha : PE3 X B a da) (hb : PE3 X B b db) (hc : PE3 X B c dc) (hm : lastMarks [op, op'] [b, c] = false := by rfl) :
    PT3 X B (.Compare a [op, op'] [b, c] pos) (dTest (dChain rd rd' da db dc)) := by
  obtain ⟨r, h1, h2⟩ := ho.ex
  obtain ⟨r', h1', h2'⟩ := ho'.ex
  obtain ⟨ta, a1, a2⟩ := ha.ex
  obtain ⟨tb, b1, b2⟩ := hb.ex
  obtain ⟨tc, c1, c2⟩ := hc.ex
  exact ⟨_, pt_chain h1 h1' a1 b1 c1 hm, (a2.chain b2 c2 h2 h2').test⟩
/-! ### tests -/
theorem SndE.tb {K : PySem.W.Frag} {t : TE} {d : DE} (h : SndE K B t d) : SndT K B (tB t) (dTest d) := fun σ H δ M Q Qd sl rep bb h' q =>
  h σ H δ M _ _ sl rep bb h' fun v H' x M' g rep' r ⟨k, e, h''⟩ => by
    subst e
    exact ⟨k, r.bl_, q k H' M' g rep' h''⟩
theorem t_val (h : PE3 X B e de) (he : ∀ whole, isTrue e X.env whole = (do let v ← whole; standAt e.pos; holding [v] (truthy v)) := by intro _; rfl) : PT3 X B e (dTest de) := by
  obtain ⟨t, h1, h2⟩ := h.ex
  exact ⟨_, pt_val h1 he, h2.tb⟩
variable {tA tB' : DT} {rest : List Expr}
def dAnd (t u : DT) : DT := fun δ M Q => t δ M fun k M1 => (k = true → u δ M1 Q) ∧ (k = false → Q false M1)
def dOr (t u : DT) : DT := fun δ M Q => t δ M fun k M1 => (k = true → Q true M1) ∧ (k = false → u δ M1 Q)
def dNot (t : DT) : DT := fun δ M Q => t δ M fun k M1 => Q (!k) M1
theorem PW3.pt (h : PW3 X B e tA) : PT3 X B e tA := by
  obtain ⟨t, h1, h2⟩ := h.ex
  exact ⟨_, h1.pt, h2⟩
theorem w_and1 (h : PT3 X B a tA) : PW3 X B (.BoolOp .And [a] pos) tA := by
  obtain ⟨t, h1, h2⟩ := h.ex
  exact ⟨_, pw_and1 h1, h2⟩
theorem w_or1 (h : PT3 X B a tA) : PW3 X B (.BoolOp .Or [a] pos) tA := by
  obtain ⟨t, h1, h2⟩ := h.ex
  exact ⟨_, pw_or1 h1, h2⟩
theorem SndT.and {K : PySem.W.Frag} {t u : TT} (h : SndT K B t tA) (k : SndT K B u tB') : SndT K B (tAnd t u) (dAnd tA tB') := fun σ H δ M Q Qd sl rep bb h' q =>
  h σ H δ M _ _ sl rep bb h' fun b H1 M1 g rep1 ⟨q1, q2⟩ => by
    cases b with
    | true => exact iteT (k σ H1 δ M1 _ _ (sl.mono (rep.tx g)) rep1 (B.pres _ _ _ _ g bb) (q1 rfl) fun b' H' M' g' => q b' H' M' (g.trans g'))
    | false => exact iteF (q _ _ _ g rep1 (q2 rfl))
theorem SndT.or {K : PySem.W.Frag} {t u : TT} (h : SndT K B t tA) (k : SndT K B u tB') : SndT K B (tOr t u) (dOr tA tB') := fun σ H δ M Q Qd sl rep bb h' q =>
  h σ H δ M _ _ sl rep bb h' fun b H1 M1 g rep1 ⟨q1, q2⟩ => by
    cases b with
    | false => exact iteF (k σ H1 δ M1 _ _ (sl.mono (rep.tx g)) rep1 (B.pres _ _ _ _ g bb) (q2 rfl) fun b' H' M' g' => q b' H' M' (g.trans g'))
    | true => exact iteT (q _ _ _ g rep1 (q1 rfl))
theorem w_and (ha : PT3 X B a tA) (hb : PW3 X B (.BoolOp .And (b :: rest) pos) tB') : PW3 X B (.BoolOp .And (a :: b :: rest) pos) (dAnd tA tB') := by
  obtain ⟨t, h1, h2⟩ := ha.ex
  obtain ⟨u, k1, k2⟩ := hb.ex
  exact ⟨_, pw_and h1 k1, h2.and k2⟩
theorem w_or (ha : PT3 X B a tA) (hb : PW3 X B (.BoolOp .Or (b :: rest) pos) tB') : PW3 X B (.BoolOp .Or (a :: b :: rest) pos) (dOr tA tB') := by
  obtain ⟨t, h1, h2⟩ := ha.ex
  obtain ⟨u, k1, k2⟩ := hb.ex
  exact ⟨_, pw_or h1 k1, h2.or k2⟩
theorem t_not (h : PT3 X B a tA) : PT3 X B (.UnaryOp .Not a pos) (dNot tA) := by
  obtain ⟨t, h1, h2⟩ := h.ex
  exact ⟨_, pt_not h1, fun σ H δ M Q Qd sl rep bb h' q => h2 σ H δ M _ _ sl rep bb h' fun b H' M' g rep' q' => q _ _ _ g rep' q'⟩
/-- as values (flags) -/
def dAndV (da db : DE) : DE := fun δ M Q => da δ M fun x M1 => ∃ k, x = .bl k ∧ (k = true → db δ M1 Q) ∧ (k = false → Q (.bl false) M1)
def dOrV (da db : DE) : DE := fun δ M Q => da δ M fun x M1 => ∃ k, x = .bl k ∧ (k = true → Q (.bl true) M1) ∧ (k = false → db δ M1 Q)
def dNotV (da : DE) : DE := fun δ M Q => da δ M fun x M1 => ∃ k, x = .bl k ∧ Q (.bl (!k)) M1
theorem e_one {op} (h : PE3 X B a da) : PE3 X B (.BoolOp op [a] pos) da := by
  obtain ⟨t, h1, h2⟩ := h.ex
  exact ⟨_, pe_one h1, h2⟩
theorem e_and (ha : PE3 X B a da) (hb : PE3 X B (.BoolOp .And (b :: rest) pos) db) : PE3 X B (.BoolOp .And (a :: b :: rest) pos) (dAndV da db) := by
  obtain ⟨t, h1, h2⟩ := ha.ex
  obtain ⟨u, k1, k2⟩ := hb.ex
  refine ⟨_, pe_and h1 k1, fun σ H δ M Q Qd sl rep bb h' q => h2 σ H δ M _ _ sl rep bb h' fun v H1 x M1 g rep1 r ⟨k, ek, q1, q2⟩ => ?_⟩
  subst ek
  refine ⟨k, r.bl_, ?_⟩
  cases k with
  | true => exact iteT (k2 σ H1 δ M1 _ _ (sl.mono (rep.tx g)) rep1 (B.pres _ _ _ _ g bb) (q1 rfl) fun v' H' x' M' g' => q v' H' x' M' (g.trans g'))
  | false => exact iteF (q _ _ _ _ g rep1 R.bl' (q2 rfl))
theorem e_or (ha : PE3 X B a da) (hb : PE3 X B (.BoolOp .Or (b :: rest) pos) db) : PE3 X B (.BoolOp .Or (a :: b :: rest) pos) (dOrV da db) := by
  obtain ⟨t, h1, h2⟩ := ha.ex
  obtain ⟨u, k1, k2⟩ := hb.ex
  refine ⟨_, pe_or h1 k1, fun σ H δ M Q Qd sl rep bb h' q => h2 σ H δ M _ _ sl rep bb h' fun v H1 x M1 g rep1 r ⟨k, ek, q1, q2⟩ => ?_⟩
  subst ek
  refine ⟨k, r.bl_, ?_⟩
  cases k with
  | false => exact iteF (k2 σ H1 δ M1 _ _ (sl.mono (rep.tx g)) rep1 (B.pres _ _ _ _ g bb) (q2 rfl) fun v' H' x' M' g' => q v' H' x' M' (g.trans g'))
  | true => exact iteT (q _ _ _ _ g rep1 R.bl' (q1 rfl))
theorem e_not (ha : PE3 X B a da) : PE3 X B (.UnaryOp .Not a pos) (dNotV da) := by
  obtain ⟨t, h1, h2⟩ := ha.ex
  exact ⟨_, pe_not h1, fun σ H δ M Q Qd sl rep bb h' q => h2 σ H δ M _ _ sl rep bb h' fun v H1 x M1 g rep1 r ⟨k, ek, q1⟩ => by
    subst ek
    exact ⟨k, r.bl_, q _ _ _ _ g rep1 R.bl' q1⟩⟩
def dIf (t : DT) (da db : DE) : DE := fun δ M Q => t δ M fun k M1 => (k = true → da δ M1 Q) ∧ (k = false → db δ M1 Q)
theorem e_if (hc : PT3 X B c tA) (ha : PE3 X B a da) (hb : PE3 X B b db) : PE3 X B (.IfExp c a b pos) (dIf tA da db) := by
  obtain ⟨t, h1, h2⟩ := hc.ex
  obtain ⟨ta, a1, a2⟩ := ha.ex
  obtain ⟨tb, b1, b2⟩ := hb.ex
  refine ⟨_, pe_ifExp h1 a1 b1, fun σ H δ M Q Qd sl rep bb h' q => h2 σ H δ M _ _ sl rep bb h' fun k H1 M1 g rep1 ⟨q1, q2⟩ => ?_⟩
  cases k with
  | true => exact iteT (a2 σ H1 δ M1 _ _ (sl.mono (rep.tx g)) rep1 (B.pres _ _ _ _ g bb) (q1 rfl) fun v' H' x' M' g' => q v' H' x' M' (g.trans g'))
  | false => exact iteF (b2 σ H1 δ M1 _ _ (sl.mono (rep.tx g)) rep1 (B.pres _ _ _ _ g bb) (q2 rfl) fun v' H' x' M' g' => q v' H' x' M' (g.trans g'))
/-! ### lists of expressions, displays, calls -/
def dNil : DA := fun _ M Q => Q [] M
def dCons (da : DE) (dr : DA) : DA := fun δ M Q => da δ M fun x M1 => dr δ M1 fun xs M2 => Q (x :: xs) M2
variable {es : List Expr} {dr : DA}
theorem a_nil : PA3 X B [] dNil := ⟨_, pa_nil, fun σ H δ M Q Qd sl rep bb h q => q [] H [] M Go.refl rep .nil rfl h⟩
theorem a_cons (ha : PE3 X B e de) (hr : PA3 X B es dr) (hs : starEach (e :: es) X.env = (false, eval e X.env) :: starEach es X.env := by rfl) : PA3 X B (e :: es) (dCons de dr) := by
  obtain ⟨t, h1, h2⟩ := ha.ex
  obtain ⟨u, k1, k2⟩ := hr.ex
  refine ⟨_, pa_cons h1 k1 hs, fun σ H δ M Q Qd sl rep bb h q => h2 σ H δ M _ _ sl rep bb h fun v H1 x M1 g rep1 r h1 => ?_⟩
  exact k2 σ H1 δ M1 _ _ (sl.mono (rep.tx g)) rep1 (B.pres _ _ _ _ g bb) h1 fun vs H2 xs M2 g2 rep2 rs hl h2 => q _ _ _ _ (g.trans g2) rep2 (.cons (r.mono (rep1.tx g2)) rs) (by simp [hl]) h2
def dTup (dr : DA) : DE := fun δ M Q => dr δ M fun xs M1 => Q (.tup xs) M1
def dLst (dr : DA) : DE := fun δ M Q => dr δ M fun xs M1 => ∀ p, M1 p = none → Q (.ref p) (up M1 p (.lst xs))
theorem small_es {n : Nat} (h : n ≤ 1000) : n ≤ sizeLine := Nat.le_of_lt (small1000 h)
theorem e_tup {x1} (h : PA3 X B es dr) (hn : es.length ≤ 1000 := by decide) : PE3 X B (.Tuple es x1 pos) (dTup dr) := by
  obtain ⟨t, h1, h2⟩ := h.ex
  refine ⟨_, pe_tup h1, fun σ H δ M Q Qd sl rep bb h q => h2 σ H δ M _ _ sl rep bb h fun vs H1 xs M1 g rep1 rs hl h1 => ?_⟩
  refine ⟨by rw [rs.len, hl]; exact small_es hn, fun p hp => ?_⟩
  exact q _ _ _ M1 (g.trans (go_tup hp)) (rep1.tup hp) (.tup upd_same (rs.mono (tx_new hp))) h1
theorem e_lst (h : PA3 X B es dr) (hn : es.length ≤ 1000 := by decide) : PE3 X B (.List es pos) (dLst dr) := by
  obtain ⟨t, h1, h2⟩ := h.ex
  refine ⟨_, pe_lst h1, fun σ H δ M Q Qd sl rep bb h q => h2 σ H δ M _ _ sl rep bb h fun vs H1 xs M1 g rep1 rs hl h1 => ?_⟩
  refine ⟨by rw [rs.len, hl]; exact small_es hn, fun p hp => ?_⟩
  exact q _ _ _ (up M1 p (.lst xs)) (g.trans (go_new hp)) (rep1.put (tx_new hp) (by rw [rep1.free hp]; exact fun _ z => nomatch z) (.inl hp) ⟨vs, upd_same, rs.mono (tx_new hp)⟩) R.ref' (h1 p (rep1.free hp))
/-- a built-in of values -/
abbrev DRL := List D → Hd → DK → Prop
def SndC (K : PySem.W.Frag) (r : List V → Hp → VK → Prop) (rd : DRL) : Prop := ∀ (H : Hp) (M : Hd) (xs : List D) (vs : List V) (Q : VK) (Qd : DK), Rep K H M → Rs K H xs vs → rd xs M Qd →
  (∀ v' H' x' M', Go H M H' M' → Rep K H' M' → R K H' x' v' → Qd x' M' → Q v' H') → r vs H Q
structure CallD (X : Cx) (f : Value) (rd : DRL) : Prop where
  ex : ∃ r, CallR X f r ∧ SndC X.K r rd
def dCB (rd : DRL) (dr : DA) : DE := fun δ M Q => dr δ M fun xs M1 => rd xs M1 Q
theorem SndA.cb {K : PySem.W.Frag} {n : Nat} {t : TA} {r : List V → Hp → VK → Prop} {rd : DRL} (h : SndA K B n t dr) (k : SndC K r rd) : SndE K B (fun σ H Q => t σ H fun vs H1 => r vs H1 Q) (dCB rd dr) := fun σ H δ M Q Qd sl rep bb h' q =>
  h σ H δ M _ _ sl rep bb h' fun vs H1 xs M1 g rep1 rs _ h1 => k H1 M1 xs vs Q Qd rep1 rs h1 fun v' H' x' M' g' => q v' H' x' M' (g.trans g')
theorem e_callB {x : Str} {id : String} {rd : DRL} {p : Pos} (hc : CallD X (.builtin id) rd) (hg : Gl X x) (hm : X.mg x = none) (hv : bootBuiltins x = some (.builtin id)) (ha : PA3 X B (e :: es) dr) (hn : x ≠ "__name__" := by decide) (hdb : (x == ("__debug__" : Str)) = false := by decide)
    (he : starEach (e :: es) X.env = (false, eval e X.env) :: starEach es X.env := by rfl) (hpl : (backTo pos (starEach es X.env)).any (·.1) = false := by rfl) : PE3 X B (.Call (.Name x p) (e :: es) [] pos) (dCB rd dr) := by
  obtain ⟨r, c1, c2⟩ := hc.ex
  obtain ⟨t, a1, a2⟩ := ha.ex
  exact ⟨_, pe_callB c1 hg hm hv a1 hn hdb he hpl, a2.cb c2⟩
theorem e_callTy {x : Str} {T : String} {rd : DRL} {p : Pos} (hc : CallD X (.type T) rd) (hg : Gl X x) (hm : X.mg x = none) (hv : bootBuiltins x = some (.type T)) (ha : PA3 X B (e :: es) dr) (hn : x ≠ "__name__" := by decide) (hdb : (x == ("__debug__" : Str)) = false := by decide)
    (he : starEach (e :: es) X.env = (false, eval e X.env) :: starEach es X.env := by rfl) (hpl : (backTo pos (starEach es X.env)).any (·.1) = false := by rfl) : PE3 X B (.Call (.Name x p) (e :: es) [] pos) (dCB rd dr) := by
  obtain ⟨r, c1, c2⟩ := hc.ex
  obtain ⟨t, a1, a2⟩ := ha.ex
  exact ⟨_, pe_callTy c1 hg hm hv a1 hn hdb he hpl, a2.cb c2⟩
end
end T3
namespace T3
open PySem PySem.Spec PyProof.Rows L2
/-! ### reading a list -/
def LS (M : Hd) (p : Addr) (xs : List D) : Prop := M p = some (.lst xs) ∨ M p = some (.fz xs)
theorem LS.of {M : Hd} {p : Addr} {xs : List D} (h : M p = some (.lst xs)) : LS M p xs := .inl h
def Sq (M : Hd) (y : D) (xs : List D) : Prop := y = .tup xs ∨ ∃ p, y = .ref p ∧ LS M p xs
theorem Sq.t {M : Hd} {xs : List D} : Sq M (.tup xs) xs := .inl rfl
theorem Sq.l {M : Hd} {p : Addr} {xs : List D} (h : M p = some (.lst xs)) : Sq M (.ref p) xs := .inr ⟨p, rfl, .inl h⟩
section
variable {K : PySem.W.Frag} {H H' : Hp} {M M' : Hd}
theorem Rep.ls (rep : Rep K H M) {p : Addr} {xs : List D} (h : LS M p xs) : ∃ vs, SqL K H p vs ∧ Rs K H xs vs := by
  rcases h with h | h
  · obtain ⟨vs, e, r⟩ := rep p _ h
    exact ⟨vs, .inl (.inl e), r⟩
  · obtain ⟨ob, vs, e, r⟩ := rep p _ h
    exact ⟨vs, .inl (.inr ⟨ob, e⟩), r⟩
theorem Rep.sq (rep : Rep K H M) {y : D} {v : V} {xs : List D} (h : Sq M y xs) (r : R K H y v) : ∃ p vs, v = .ref p ∧ (SqL K H p vs ∨ SqT K H p vs) ∧ Rs K H xs vs := by
  rcases h with rfl | ⟨p, rfl, h⟩
  · obtain ⟨a, vs, e, s, rs⟩ := r.untup
    exact ⟨a, vs, e, .inr (SqT.of s), rs⟩
  · obtain ⟨vs, s, rs⟩ := rep.ls h
    exact ⟨p, vs, r.ref_, .inl s, rs⟩
theorem Rep.lst (rep : Rep K H M) {p : Addr} {xs : List D} (h : M p = some (.lst xs)) : ∃ vs, H p = some (.lst vs) ∧ Rs K H xs vs := rep p _ h
/-- a new list -/
theorem Rep.newL (rep : Rep K H M) {p : Addr} {vs : List V} {xs : List D} (hp : H p = none) (r : Rs K H xs vs) : Go H M (upd H p (.lst vs)) (up M p (.lst xs)) ∧ Rep K (upd H p (.lst vs)) (up M p (.lst xs)) :=
  ⟨go_new hp, rep.put (tx_new hp) (by rw [rep.free hp]; exact fun _ z => nomatch z) (.inl hp) ⟨vs, upd_same, r.mono (tx_new hp)⟩⟩
/-- a list is changed -/
theorem Rep.putL (rep : Rep K H M) {p : Addr} {vs : List V} {xs ys : List D} (h : M p = some (.lst ys)) (r : Rs K H xs vs) : Go H M (upd H p (.lst vs)) (up M p (.lst xs)) ∧ Rep K (upd H p (.lst vs)) (up M p (.lst xs)) := by
  obtain ⟨us, e, _⟩ := rep.lst h
  have t : Tx K H (upd H p (.lst vs)) := tx_put e trivial
  exact ⟨go_put (by rw [h]; exact fun z => nomatch z), rep.put t (by rw [h]; exact fun _ z => nomatch z) (.inr (by rw [h]; exact fun z => nomatch z)) ⟨vs, upd_same, r.mono t⟩⟩
theorem Rep.newT (rep : Rep K H M) {p : Addr} {vs : List V} {xs : List D} (hp : H p = none) (r : Rs K H xs vs) : Go H M (upd H p (.tup vs)) M ∧ Rep K (upd H p (.tup vs)) M ∧ R K (upd H p (.tup vs)) (.tup xs) (.ref p) :=
  ⟨go_tup hp, rep.tup hp, .tup upd_same (r.mono (tx_new hp))⟩
end
/-! ### operators -/
section
variable {X : Cx}
def dI0 (g : Int → Int → D) : DR2 := fun x y M Q => match x, y with
  | .int i, .int j => Q (g i j) M
  | _, _ => False
def dI (C : Int → Int → Prop) (g : Int → Int → D) : DR2 := fun x y M Q => match x, y with
  | .int i, .int j => C i j ∧ Q (g i j) M
  | _, _ => False
theorem dI0_inv {g : Int → Int → D} {x y : D} {M : Hd} {Q : DK} (h : dI0 g x y M Q) : ∃ i j, x = .int i ∧ y = .int j ∧ Q (g i j) M := by
  cases x with
  | int i =>
    cases y with
    | int j => exact ⟨i, j, rfl, rfl, h⟩
    | _ => exact h.elim
  | _ => exact h.elim
theorem dI_inv {C : Int → Int → Prop} {g : Int → Int → D} {x y : D} {M : Hd} {Q : DK} (h : dI C g x y M Q) : ∃ i j, x = .int i ∧ y = .int j ∧ C i j ∧ Q (g i j) M := by
  cases x with
  | int i =>
    cases y with
    | int j => exact ⟨i, j, rfl, rfl, h⟩
    | _ => exact h.elim
  | _ => exact h.elim
theorem snd_I0 {K : PySem.W.Frag} {g : Int → Int → V} {gd : Int → Int → D} (hg : ∀ H i j, R K H (gd i j) (g i j)) : SndR2 K (rI0 g) (dI0 gd) := fun H M x y v u Q Qd rep r1 r2 h q => by
  obtain ⟨i, j, rfl, rfl, h⟩ := dI0_inv h
  exact ⟨i, j, r1.int_, r2.int_, q _ _ _ M Go.refl rep (hg H i j) h⟩
theorem snd_I {K : PySem.W.Frag} {C : Int → Int → Prop} {g : Int → Int → V} {gd : Int → Int → D} (hg : ∀ H i j, R K H (gd i j) (g i j)) : SndR2 K (rI C g) (dI C gd) := fun H M x y v u Q Qd rep r1 r2 h q => by
  obtain ⟨i, j, rfl, rfl, c, h⟩ := dI_inv h
  exact ⟨i, j, r1.int_, r2.int_, c, q _ _ _ M Go.refl rep (hg H i j) h⟩
theorem OpD.or {f : Value → Value → Sem Value} {r r' : DR2} (h : OpD X f r) (h' : OpD X f r') : OpD X f (fun x y M Q => r x y M Q ∨ r' x y M Q) := by
  obtain ⟨a, a1, a2⟩ := h.ex
  obtain ⟨b, b1, b2⟩ := h'.ex
  refine ⟨_, a1.or b1, fun H M x y v u Q Qd rep r1 r2 h q => ?_⟩
  rcases h with h | h
  · exact .inl (a2 H M x y v u Q Qd rep r1 r2 h q)
  · exact .inr (b2 H M x y v u Q Qd rep r1 r2 h q)
theorem OpD.imp {f : Value → Value → Sem Value} {r r' : DR2} (h : OpD X f r) (k : ∀ x y M Q, r' x y M Q → r x y M Q) : OpD X f r' := by
  obtain ⟨a, a1, a2⟩ := h.ex
  exact ⟨a, a1, fun H M x y v u Q Qd rep r1 r2 h q => a2 H M x y v u Q Qd rep r1 r2 (k _ _ _ _ h) q⟩
theorem od_sub : OpD X (binaryOp .Sub) (dI0 fun i j => .int (i - j)) := ⟨_, op_sub, snd_I0 fun _ _ _ => R.int'⟩
theorem od_addI : OpD X (binaryOp .Add) (dI0 fun i j => .int (i + j)) := ⟨_, op_add, snd_I0 fun _ _ _ => R.int'⟩
theorem od_mul : OpD X (binaryOp .Mult) (dI CMul fun i j => .int (i * j)) := ⟨_, op_mul, snd_I fun _ _ _ => R.int'⟩
theorem od_fdiv : OpD X (binaryOp .FloorDiv) (dI CDiv fun i j => .int (i / j)) := ⟨_, op_fdiv, snd_I fun _ _ _ => R.int'⟩
theorem od_mod : OpD X (binaryOp .Mod) (dI (fun _ j => 0 < j) fun i j => .int (i % j)) := ⟨_, op_mod, snd_I fun _ _ _ => R.int'⟩
theorem od_pow : OpD X (binaryOp .Pow) (dI CPow fun i j => .int (i ^ j.toNat)) := ⟨_, op_pow, snd_I fun _ _ _ => R.int'⟩
theorem od_lt : OpD X (compareOp .Lt) (dI0 fun i j => .bl (decide (i < j))) := ⟨_, op_lt, snd_I0 fun _ _ _ => R.bl'⟩
theorem od_le : OpD X (compareOp .LtE) (dI0 fun i j => .bl (decide (i ≤ j))) := ⟨_, op_le, snd_I0 fun _ _ _ => R.bl'⟩
theorem od_gt : OpD X (compareOp .Gt) (dI0 fun i j => .bl (decide (j < i))) := ⟨_, op_gt, snd_I0 fun _ _ _ => R.bl'⟩
theorem od_ge : OpD X (compareOp .GtE) (dI0 fun i j => .bl (decide (j ≤ i))) := ⟨_, op_ge, snd_I0 fun _ _ _ => R.bl'⟩
/-- + of ints, texts, tuples, lists -/
def dAdd : DR2 := fun x y M Q => match x, y with
  | .int i, .int j => Q (.int (i + j)) M
  | .str a, .str b => a.length + b.length ≤ sizeLine ∧ Q (.str (a ++ b)) M
  | .tup xs, .tup ys => xs.length + ys.length ≤ sizeLine ∧ Q (.tup (xs ++ ys)) M
  | .ref p, .ref q => ∃ xs ys, M p = some (.lst xs) ∧ M q = some (.lst ys) ∧ xs.length + ys.length ≤ sizeLine ∧ ∀ l, M l = none → Q (.ref l) (up M l (.lst (xs ++ ys)))
  | _, _ => False
theorem od_add : OpD X (binaryOp .Add) dAdd := by
  refine ⟨_, ((op_add.or op_add_str).or op_catA).or op_cat, fun H M x y v u Q Qd rep r1 r2 h q => ?_⟩
  cases x with
  | int i =>
    cases y with
    | int j => exact .inl (.inl (.inl ⟨i, j, r1.int_, r2.int_, q _ _ _ M Go.refl rep R.int' h⟩))
    | _ => exact h.elim
  | str i =>
    cases y with
    | str j => exact .inl (.inl (.inr ⟨i, j, r1.str_, r2.str_, h.1, q _ _ _ M Go.refl rep R.str' h.2⟩))
    | _ => exact h.elim
  | tup xs =>
    cases y with
    | tup ys =>
      obtain ⟨hz, h⟩ := h
      obtain ⟨a, vs, rfl, s1, rs1⟩ := r1.untup
      obtain ⟨b, us, rfl, s2, rs2⟩ := r2.untup
      refine .inl (.inr ⟨a, b, vs, us, rfl, rfl, SqT.of s1, SqT.of s2, by rw [rs1.len, rs2.len]; exact hz, fun e => ?_, fun _ e => ?_, fun _ _ p hp => ?_⟩)
      · subst e
        have e2 : xs = [] := List.eq_nil_of_length_eq_zero (by rw [← rs1.len]; rfl)
        subst e2
        exact q _ _ _ M Go.refl rep r2 h
      · subst e
        have e2 : ys = [] := List.eq_nil_of_length_eq_zero (by rw [← rs2.len]; rfl)
        subst e2
        rw [List.append_nil] at h
        exact q _ _ _ M Go.refl rep r1 h
      · obtain ⟨g, rep', r'⟩ := rep.newT hp (rs1.app rs2)
        exact q _ _ _ M g rep' r' h
    | _ => exact h.elim
  | ref p =>
    cases y with
    | ref b =>
      obtain ⟨xs, ys, e1, e2, hz, h⟩ := h
      obtain ⟨vs, h1, rs1⟩ := rep.lst e1
      obtain ⟨us, h2, rs2⟩ := rep.lst e2
      refine .inr ⟨p, b, vs, us, r1.ref_, r2.ref_, h1, h2, by rw [rs1.len, rs2.len]; exact hz, fun l hl => ?_⟩
      obtain ⟨g, rep'⟩ := rep.newL hl (rs1.app rs2)
      exact q _ _ _ _ g rep' R.ref' (h l (rep.free hl))
    | _ => exact h.elim
  | _ => exact h.elim
/-- is None -/
def dIsN : DR2 := fun x y M Q => match y with
  | .non => (match x with
    | .non => Q (.bl true) M
    | _ => Q (.bl false) M)
  | _ => False
def dNotN : DR2 := fun x y M Q => match y with
  | .non => (match x with
    | .non => Q (.bl false) M
    | _ => Q (.bl true) M)
  | _ => False
def isNon : D → Bool
  | .non => true
  | _ => false
theorem R.nonB {K : PySem.W.Frag} {H : Hp} {x : D} {v : V} (r : R K H x v) : decide (v = V.non) = isNon x := by
  cases x with
  | non => rw [r.non_]; exact decide_eq_true rfl
  | bl b => rw [r.bl_]; exact decide_eq_false fun z => nomatch z
  | int b => rw [r.int_]; exact decide_eq_false fun z => nomatch z
  | str b => rw [r.str_]; exact decide_eq_false fun z => nomatch z
  | ref b => rw [r.ref_]; exact decide_eq_false fun z => nomatch z
  | ty b => rw [r.ty_]; exact decide_eq_false fun z => nomatch z
  | kl b ns => rw [r.kl_.1]; exact decide_eq_false fun z => nomatch z
  | tup b => obtain ⟨a, vs, e, _⟩ := r.untup; rw [e]; exact decide_eq_false fun z => nomatch z
theorem od_is : OpD X (compareOp .Is) dIsN := by
  refine ⟨_, op_isN, fun H M x y v u Q Qd rep r1 r2 h q => ?_⟩
  cases y with
  | non =>
    refine ⟨r2.non_, ?_⟩
    rw [r1.nonB]
    cases x <;> exact q _ _ _ M Go.refl rep R.bl' h
  | _ => exact h.elim
theorem od_isnot : OpD X (compareOp .IsNot) dNotN := by
  refine ⟨_, op_notN, fun H M x y v u Q Qd rep r1 r2 h q => ?_⟩
  cases y with
  | non =>
    refine ⟨r2.non_, ?_⟩
    rw [r1.nonB]
    cases x <;> exact q _ _ _ M Go.refl rep R.bl' h
  | _ => exact h.elim
/-! ### == -/
mutual
inductive Pd (M : Hd) : D → PyData → Prop
  | non : Pd M .non .none
  | bl (b : Bool) : Pd M (.bl b) (.bool b)
  | int (i : Int) : Pd M (.int i) (.int i)
  | str (x : Str) : Pd M (.str x) (.str x)
  | lst {a : Addr} {xs : List D} {ds : List PyData} : LS M a xs → PdAll M xs ds → Pd M (.ref a) (.list ds)
  | tup {xs : List D} {ds : List PyData} : PdAll M xs ds → Pd M (.tup xs) (.tuple ds)
inductive PdAll (M : Hd) : List D → List PyData → Prop
  | nil : PdAll M [] []
  | cons {x : D} {xs : List D} {d : PyData} {ds : List PyData} : Pd M x d → PdAll M xs ds → PdAll M (x :: xs) (d :: ds)
end
mutual
theorem Pd.dp {K : PySem.W.Frag} {H : Hp} {M : Hd} (rep : Rep K H M) : ∀ (d : PyData) (x : D) (v : V), Pd M x d → R K H x v → Dp K H v d
  | .none, _, _, h, r => by
    cases h
    rw [r.non_]
    exact .non
  | .bool b, _, _, h, r => by
    cases h
    rw [r.bl_]
    exact .bl _
  | .int b, _, _, h, r => by
    cases h
    rw [r.int_]
    exact .int _
  | .str b, _, _, h, r => by
    cases h
    rw [r.str_]
    exact .str _
  | .list ds, _, _, h, r => by
    cases h with
    | lst l ha =>
      rw [r.ref_]
      obtain ⟨vs, s, rs⟩ := rep.ls l
      exact .lst s (PdAll.dp rep ds _ _ ha rs)
  | .tuple ds, _, _, h, r => by
    cases h with
    | tup ha =>
      obtain ⟨a, vs, rfl, s, rs⟩ := r.untup
      exact .tup (SqT.of s) (PdAll.dp rep ds _ _ ha rs)
  | .dict _, _, _, h, _ => by cases h
theorem PdAll.dp {K : PySem.W.Frag} {H : Hp} {M : Hd} (rep : Rep K H M) : ∀ (ds : List PyData) (xs : List D) (vs : List V), PdAll M xs ds → Rs K H xs vs → DpAll K H vs ds
  | [], _, _, h, r => by
    cases h
    rw [r.unil]
    exact .nil
  | d :: ds, _, _, h, r => by
    cases h with
    | cons h1 h2 =>
      obtain ⟨v, us, rfl, r1, rs⟩ := r.ucons
      exact .cons (Pd.dp rep d _ _ h1 r1) (PdAll.dp rep ds _ _ h2 rs)
end
def dEqD (x y : D) (M : Hd) (Q : Bool → Prop) : Prop := ∃ a b, Pd M x a ∧ Pd M y b ∧ SeqAt.shaped a = true ∧ SeqAt.shaped b = true ∧ Q (PyData.eqv a b)
def dEq : DR2 := fun x y M Q => match x, y with
  | .int i, .int j => Q (.bl (decide (i = j))) M
  | .str i, .str j => Q (.bl (decide (i = j))) M
  | .bl i, .bl j => Q (.bl (decide (i = j))) M
  | x, y => dEqD x y M fun b => Q (.bl b) M
def dNe : DR2 := fun x y M Q => match x, y with
  | .int i, .int j => Q (.bl (!decide (i = j))) M
  | .str i, .str j => Q (.bl (!decide (i = j))) M
  | .bl i, .bl j => Q (.bl (!decide (i = j))) M
  | x, y => dEqD x y M fun b => Q (.bl (!b)) M
theorem decV {i j : Int} : decide (V.int i = V.int j) = decide (i = j) := decide_eq_decide.mpr ⟨V.int.inj, congrArg _⟩
theorem decVs {i j : Str} : decide (V.str i = V.str j) = decide (i = j) := decide_eq_decide.mpr ⟨V.str.inj, congrArg _⟩
theorem decVb {i j : Bool} : decide (V.bl i = V.bl j) = decide (i = j) := decide_eq_decide.mpr ⟨V.bl.inj, congrArg _⟩
theorem od_eq (hu : X.A.units + 64 < cLine) : OpD X (compareOp .Eq) dEq := by
  refine ⟨_, op_eq.or (op_eqD hu), fun H M x y v u Q Qd rep r1 r2 h q => ?_⟩
  have gen : (dEqD x y M fun b => Qd (.bl b) M) → (rEq v u H Q ∨ rEqD X.K v u H Q) := fun ⟨a, b, h1, h2, s1, s2, h⟩ => .inr ⟨a, b, h1.dp rep _ _ _ r1, h2.dp rep _ _ _ r2, s1, s2, q _ _ _ M Go.refl rep R.bl' h⟩
  cases x with
  | int i =>
    cases y with
    | int j => rw [r1.int_, r2.int_]; exact .inl ⟨rfl, by rw [decV]; exact q _ _ _ M Go.refl rep R.bl' h⟩
    | _ => exact gen h
  | str i =>
    cases y with
    | str j => rw [r1.str_, r2.str_]; exact .inl ⟨rfl, by rw [decVs]; exact q _ _ _ M Go.refl rep R.bl' h⟩
    | _ => exact gen h
  | bl i =>
    cases y with
    | bl j => rw [r1.bl_, r2.bl_]; exact .inl ⟨rfl, by rw [decVb]; exact q _ _ _ M Go.refl rep R.bl' h⟩
    | _ => exact gen h
  | _ => exact gen h
theorem od_ne (hu : X.A.units + 64 < cLine) : OpD X (compareOp .NotEq) dNe := by
  refine ⟨_, op_ne.or (op_neD hu), fun H M x y v u Q Qd rep r1 r2 h q => ?_⟩
  have gen : (dEqD x y M fun b => Qd (.bl (!b)) M) → (rNe v u H Q ∨ rNeD X.K v u H Q) := fun ⟨a, b, h1, h2, s1, s2, h⟩ => .inr ⟨a, b, h1.dp rep _ _ _ r1, h2.dp rep _ _ _ r2, s1, s2, q _ _ _ M Go.refl rep R.bl' h⟩
  cases x with
  | int i =>
    cases y with
    | int j => rw [r1.int_, r2.int_]; exact .inl ⟨rfl, by rw [decV]; exact q _ _ _ M Go.refl rep R.bl' h⟩
    | _ => exact gen h
  | str i =>
    cases y with
    | str j => rw [r1.str_, r2.str_]; exact .inl ⟨rfl, by rw [decVs]; exact q _ _ _ M Go.refl rep R.bl' h⟩
    | _ => exact gen h
  | bl i =>
    cases y with
    | bl j => rw [r1.bl_, r2.bl_]; exact .inl ⟨rfl, by rw [decVb]; exact q _ _ _ M Go.refl rep R.bl' h⟩
    | _ => exact gen h
  | _ => exact gen h
/-! ### in -/
abbrev valD {κ : Type} [DecidableEq κ] (kvs : List (κ × D)) (k : κ) : Option D := (kvs.find? fun kv => decide (kv.1 = k)).map (·.2)
def kD : Key → D
  | .inl i => .int i
  | .inr x => .str x
theorem R.kD {K : PySem.W.Frag} {H : Hp} {k : Key} {v : V} (h : R K H (kD k) v) : v = kV k := by
  cases k with
  | inl i => exact h.int_
  | inr x => exact h.str_
theorem R.of_kD {K : PySem.W.Frag} {H : Hp} (k : Key) : R K H (T3.kD k) (kV k) := by
  cases k with
  | inl i => exact R.int'
  | inr x => exact R.str'
theorem RK.val {κ : Type} [DecidableEq κ] {K : PySem.W.Frag} {H : Hp} (k : κ) : ∀ {kvs : List (κ × D)} {ws : List (κ × V)}, RK K H kvs ws → (∀ d, valD kvs k = some d → ∃ v, valV ws k = some v ∧ R K H d v) ∧ (valD kvs k = none → valV ws k = none)
  | _, _, .nil => ⟨fun _ e => (nomatch e), fun _ => rfl⟩
  | p :: kvs, q :: ws, .cons ⟨e, r⟩ t => by
    obtain ⟨h1, h2⟩ := RK.val k t
    by_cases hk : p.1 = k
    · have a1 : valD (p :: kvs) k = some p.2 := by simp [valD, List.find?_cons, hk]
      have a2 : valV (q :: ws) k = some q.2 := valV_pos (by rw [← e]; exact hk)
      rw [a1, a2]
      exact ⟨fun d ed => by cases ed; exact ⟨_, rfl, r⟩, fun z => nomatch z⟩
    · have a1 : valD (p :: kvs) k = valD kvs k := by simp [valD, List.find?_cons, hk]
      have a2 : valV (q :: ws) k = valV ws k := valV_neg (by rw [← e]; exact hk)
      rw [a1, a2]
      exact ⟨h1, h2⟩
/-- a dict that may be read -/
def DK_ (M : Hd) (p : Addr) (kvs : List (Key × D)) : Prop := M p = some (.dK kvs) ∨ M p = some (.dKz kvs)
theorem Rep.dk {K : PySem.W.Frag} {H : Hp} {M : Hd} (rep : Rep K H M) {p : Addr} {kvs : List (Key × D)} (h : DK_ M p kvs) : ∃ ws, Rd H p (.dK ws) ∧ RK K H kvs ws := by
  rcases h with h | h
  · obtain ⟨ws, e, r⟩ := rep p _ h
    exact ⟨ws, .inl e, r⟩
  · obtain ⟨ob, ws, e, r⟩ := rep p _ h
    exact ⟨ws, .inr ⟨ob, e⟩, r⟩
theorem inV_int {i : Int} : ∀ ns : List Int, inV (.int i) (ns.map V.int) = decide (i ∈ ns)
  | [] => by simp [inV]
  | n :: ns => by
    have ih := inV_int (i := i) ns
    unfold inV at ih ⊢
    rw [List.map_cons, List.any_cons, ih]
    show ((n == i) || decide (i ∈ ns)) = decide (i ∈ n :: ns)
    by_cases e : n = i
    · subst e; simp
    · have e' : ¬ i = n := fun z => e z.symm
      simp [e, e']
theorem inV_str {i : Str} : ∀ ns : List Str, inV (.str i) (ns.map V.str) = decide (i ∈ ns)
  | [] => by simp [inV]
  | n :: ns => by
    have ih := inV_str (i := i) ns
    unfold inV at ih ⊢
    rw [List.map_cons, List.any_cons, ih]
    show ((n == i) || decide (i ∈ ns)) = decide (i ∈ n :: ns)
    by_cases e : n = i
    · subst e; simp
    · have e' : ¬ i = n := fun z => e z.symm
      simp [e, e']
theorem all_flat_int (ns : List Int) : (ns.map V.int).all flatV = true := by simp [flatV]
theorem all_flat_str (ns : List Str) : (ns.map V.str).all flatV = true := by simp [flatV]
/-- membership, told by the flag -/
def dInB (x y : D) (M : Hd) (Q : Bool → Prop) : Prop :=
  (∃ (i : Int) (ns : List Int), x = .int i ∧ Sq M y (ns.map D.int) ∧ Q (decide (i ∈ ns))) ∨
  (∃ (i : Str) (ns : List Str), x = .str i ∧ Sq M y (ns.map D.str) ∧ Q (decide (i ∈ ns))) ∨
  (∃ (p : Addr) (kvs : List (Key × D)) (k : Key), x = kD k ∧ y = .ref p ∧ DK_ M p kvs ∧ Q (valD kvs k).isSome) ∨
  (∃ (p : Addr) (kvs : List (List Key × D)) (ks : List Key), x = .tup (ks.map kD) ∧ y = .ref p ∧ M p = some (.dT kvs) ∧ Q (valD kvs ks).isSome)
theorem R.tupK {K : PySem.W.Frag} {H : Hp} {ks : List Key} {vs : List V} (h : Rs K H (ks.map T3.kD) vs) : vs = ks.map kV := by
  induction ks generalizing vs with
  | nil => exact h.unil
  | cons k ks ih =>
    obtain ⟨v, us, rfl, r, rs⟩ := h.ucons
    rw [r.kD, ih rs]
    rfl
theorem or_dict (hu : X.A.units + 1 < cLine) : OpR X (compareOp .In) (fun x y H Q => ∃ a o, y = .ref a ∧ DGet H a x o ∧ Q (.bl o.isSome) H) := by
  intro pins s σ H x y v u Q I rx ry h
  obtain ⟨a, o, rfl, g, q⟩ := h
  cases ry
  exact d_in hu I g rx fun s' I' => ⟨.bl _, H, I', rfl, q⟩
theorem or_ndict (hu : X.A.units + 1 < cLine) : OpR X (compareOp .NotIn) (fun x y H Q => ∃ a o, y = .ref a ∧ DGet H a x o ∧ Q (.bl (!o.isSome)) H) := by
  intro pins s σ H x y v u Q I rx ry h
  obtain ⟨a, o, rfl, g, q⟩ := h
  cases ry
  exact d_notIn hu I g rx fun s' I' => ⟨.bl _, H, I', rfl, q⟩
theorem isSome_of {κ : Type} [DecidableEq κ] {K : PySem.W.Frag} {H : Hp} {k : κ} {kvs : List (κ × D)} {ws : List (κ × V)} (r : RK K H kvs ws) : (valV ws k).isSome = (valD kvs k).isSome := by
  obtain ⟨h1, h2⟩ := RK.val k r
  cases e : valD kvs k with
  | none => rw [h2 e]; rfl
  | some d => obtain ⟨v, ev, _⟩ := h1 d e; rw [ev]; rfl
theorem od_in (hu : X.A.units + 1 < cLine) : OpD X (compareOp .In) (fun x y M Q => dInB x y M fun b => Q (.bl b) M) := by
  refine ⟨_, op_in_seq.or (or_dict hu), fun H M x y v u Q Qd rep r1 r2 h q => ?_⟩
  rcases h with ⟨i, ns, rfl, sq, h⟩ | ⟨i, ns, rfl, sq, h⟩ | ⟨p, kvs, k, rfl, rfl, d, h⟩ | ⟨p, kvs, ks, rfl, rfl, d, h⟩
  · obtain ⟨p, vs, rfl, s, rs⟩ := rep.sq sq r2
    have ev := rs.ints
    subst ev
    rw [r1.int_]
    exact .inl ⟨p, _, rfl, s, rfl, all_flat_int ns, q _ _ _ M Go.refl rep R.bl' (by rw [if_neg Bool.false_ne_true, inV_int]; exact h)⟩
  · obtain ⟨p, vs, rfl, s, rs⟩ := rep.sq sq r2
    have ev := rs.strs
    subst ev
    rw [r1.str_]
    exact .inl ⟨p, _, rfl, s, rfl, all_flat_str ns, q _ _ _ M Go.refl rep R.bl' (by rw [if_neg Bool.false_ne_true, inV_str]; exact h)⟩
  · obtain ⟨ws, e, r⟩ := rep.dk d
    rw [r1.kD, r2.ref_]
    exact .inr ⟨p, _, rfl, .inl ⟨ws, k, e, rfl, rfl⟩, q _ _ _ M Go.refl rep R.bl' (by rw [isSome_of r]; exact h)⟩
  · obtain ⟨ws, e, r⟩ := rep p _ d
    obtain ⟨a, vs, rfl, s, rs⟩ := r1.untup
    have ev := R.tupK rs
    subst ev
    rw [r2.ref_]
    exact .inr ⟨p, _, rfl, .inr ⟨ws, ks, a, .inl e, rfl, s, rfl⟩, q _ _ _ M Go.refl rep R.bl' (by rw [isSome_of r]; exact h)⟩
theorem od_notin (hu : X.A.units + 1 < cLine) : OpD X (compareOp .NotIn) (fun x y M Q => dInB x y M fun b => Q (.bl (!b)) M) := by
  refine ⟨_, op_notIn_seq.or (or_ndict hu), fun H M x y v u Q Qd rep r1 r2 h q => ?_⟩
  rcases h with ⟨i, ns, rfl, sq, h⟩ | ⟨i, ns, rfl, sq, h⟩ | ⟨p, kvs, k, rfl, rfl, d, h⟩ | ⟨p, kvs, ks, rfl, rfl, d, h⟩
  · obtain ⟨p, vs, rfl, s, rs⟩ := rep.sq sq r2
    have ev := rs.ints
    subst ev
    rw [r1.int_]
    exact .inl ⟨p, _, rfl, s, rfl, all_flat_int ns, q _ _ _ M Go.refl rep R.bl' (by rw [if_pos rfl, inV_int]; exact h)⟩
  · obtain ⟨p, vs, rfl, s, rs⟩ := rep.sq sq r2
    have ev := rs.strs
    subst ev
    rw [r1.str_]
    exact .inl ⟨p, _, rfl, s, rfl, all_flat_str ns, q _ _ _ M Go.refl rep R.bl' (by rw [if_pos rfl, inV_str]; exact h)⟩
  · obtain ⟨ws, e, r⟩ := rep.dk d
    rw [r1.kD, r2.ref_]
    exact .inr ⟨p, _, rfl, .inl ⟨ws, k, e, rfl, rfl⟩, q _ _ _ M Go.refl rep R.bl' (by rw [isSome_of r]; exact h)⟩
  · obtain ⟨ws, e, r⟩ := rep p _ d
    obtain ⟨a, vs, rfl, s, rs⟩ := r1.untup
    have ev := R.tupK rs
    subst ev
    rw [r2.ref_]
    exact .inr ⟨p, _, rfl, .inr ⟨ws, ks, a, .inl e, rfl, s, rfl⟩, q _ _ _ M Go.refl rep R.bl' (by rw [isSome_of r]; exact h)⟩
end
end T3
namespace T3
open PySem PySem.Spec PyProof.Rows L2
/-! ### subscripts -/
section
variable {X : Cx} {B : Am}
structure IxD (X : Cx) (rd : DR2) : Prop where
  ex : ∃ r, IxR X r ∧ SndR2 X.K r rd
variable {a b e o : Expr} {da db de dd : DE} {pos : Pos}
theorem e_ix {rd : DR2} (hr : IxD X rd) (ha : PE3 X B a da) (hb : PE3 X B b db) (hs : PlainIx b := by intro _ _; rfl) : PE3 X B (.Subscript a b pos) (dOp rd da db) := by
  obtain ⟨r, h1, h2⟩ := hr.ex
  obtain ⟨ta, a1, a2⟩ := ha.ex
  obtain ⟨tb, b1, b2⟩ := hb.ex
  exact ⟨_, pe_ix h1 a1 b1 hs, a2.op b2 h2⟩
/-- of a list's, a tuple's, a text's place; of a dict's key -/
def dIxR (p : Addr) (y : D) (M : Hd) (Q : D → Prop) : Prop :=
  (∃ (xs : List D) (i : Int) (v : D), y = .int i ∧ LS M p xs ∧ atI xs i = some v ∧ Q v) ∨
  (∃ (kvs : List (Key × D)) (k : Key) (v : D), y = kD k ∧ DK_ M p kvs ∧ valD kvs k = some v ∧ Q v) ∨
  (∃ (kvs : List (List Key × D)) (ks : List Key) (v : D), y = .tup (ks.map kD) ∧ M p = some (.dT kvs) ∧ valD kvs ks = some v ∧ Q v)
def dIx : DR2 := fun x y M Q => match x, y with
  | .tup xs, .int i => ∃ v, atI xs i = some v ∧ Q v M
  | .str z, .int i => ∃ c, z.length ≤ sizeLine ∧ atI z.cps.toList i = some c ∧ Q (.str ⟨#[c]⟩) M
  | .ref p, y => dIxR p y M fun v => Q v M
  | .kl _ ns, .int i => ∃ v, atI (ns.map D.int) i = some v ∧ Q v M
  | _, _ => False
theorem Rs.atI {K : PySem.W.Frag} {H : Hp} {ds : List D} {vs : List V} (h : Rs K H ds vs) {i : Int} {d : D} (e : L2.atI ds i = some d) : ∃ v, L2.atI vs i = some v ∧ R K H d v := by
  unfold L2.atI at e ⊢
  rw [h.len]
  cases q : ixN ds.length i with
  | none => rw [q] at e; cases e
  | some j =>
    rw [q] at e
    exact h.get e
theorem ix_dictR (hu : X.A.units + 1 < cLine) : IxR X (fun x y H Q => ∃ a v, x = .ref a ∧ DGet H a y (some v) ∧ Q v H) := by
  intro value slice pins s σ H x y v u Q I rx ry h hs
  obtain ⟨a, z, rfl, g, q⟩ := h
  cases rx
  exact tail_any (dict_typeIs I g) PySem.F.slot_dict_getitem.lookup (d_getItem hu I g ry fun w' s' I' r' => ⟨z, H, I', r', q⟩) hs
theorem ixd (hu : X.A.units + 1 < cLine) : IxD X dIx := by
  refine ⟨_, ((ix_list.or ix_tup).or ix_str).or (ix_dictR hu), fun H M x y v u Q Qd rep r1 r2 h q => ?_⟩
  cases x with
  | tup xs =>
    cases y with
    | int i =>
      obtain ⟨z, e, h⟩ := h
      obtain ⟨a, vs, rfl, s, rs⟩ := r1.untup
      obtain ⟨w, ew, rw'⟩ := rs.atI e
      exact .inl (.inl (.inr ⟨a, vs, i, w, rfl, r2.int_, SqT.of s, ew, q _ _ _ M Go.refl rep rw' h⟩))
    | _ => exact h.elim
  | kl p ns =>
    cases y with
    | int i =>
      obtain ⟨z, e, h⟩ := h
      obtain ⟨rfl, s⟩ := r1.kl_
      obtain ⟨w, ew, rw'⟩ := (Rs.of_ints (K := X.K) (H := H) ns).atI e
      exact .inl (.inl (.inl ⟨p, _, i, w, rfl, r2.int_, s H, ew, q _ _ _ M Go.refl rep rw' h⟩))
    | _ => exact h.elim
  | str z =>
    cases y with
    | int i =>
      obtain ⟨c, hz, e, h⟩ := h
      exact .inl (.inr ⟨z, i, c, r1.str_, r2.int_, hz, e, q _ _ _ M Go.refl rep R.str' h⟩)
    | _ => exact h.elim
  | ref p =>
    have h : dIxR p y M fun v => Qd v M := h
    rcases h with ⟨xs, i, z, rfl, l, e, h⟩ | ⟨kvs, k, z, rfl, d, e, h⟩ | ⟨kvs, ks, z, rfl, d, e, h⟩
    · obtain ⟨vs, s, rs⟩ := rep.ls l
      obtain ⟨w, ew, rw'⟩ := rs.atI e
      exact .inl (.inl (.inl ⟨p, vs, i, w, r1.ref_, r2.int_, s, ew, q _ _ _ M Go.refl rep rw' h⟩))
    · obtain ⟨ws, hd, rk⟩ := rep.dk d
      obtain ⟨w, ew, rw'⟩ := (RK.val k rk).1 _ e
      exact .inr ⟨p, w, r1.ref_, .inl ⟨ws, k, hd, r2.kD, ew.symm⟩, q _ _ _ M Go.refl rep rw' h⟩
    · obtain ⟨ws, hd, rk⟩ := rep p _ d
      obtain ⟨a, vs, rfl, s, rs⟩ := r2.untup
      have ev := R.tupK rs
      subst ev
      obtain ⟨w, ew, rw'⟩ := (RK.val ks rk).1 _ e
      exact .inr ⟨p, w, r1.ref_, .inr ⟨ws, ks, a, .inl hd, rfl, s, ew.symm⟩, q _ _ _ M Go.refl rep rw' h⟩
  | _ => exact h.elim
/-! ### slices -/
abbrev DO := DS → Hd → (Option Int → Hd → Prop) → Prop
def SndO (K : PySem.W.Frag) (B : Am) (t : TO) (d : DO) : Prop := ∀ (σ : L2.St) (H : Hp) (δ : DS) (M : Hd) (Q : Option Int → Hp → Prop) (Qd : Option Int → Hd → Prop), Sl K H σ δ → Rep K H M → B.B H M → d δ M Qd →
  (∀ o H' M', Go H M H' M' → Rep K H' M' → Qd o M' → Q o H') → t σ H Q
structure PO3 (X : Cx) (B : Am) (e : Option Expr) (d : DO) : Prop where
  ex : ∃ t, PO X e t ∧ SndO X.K B t d
def dNoPart : DO := fun _ M Q => Q none M
def dPart (de : DE) : DO := fun δ M Q => de δ M fun x M1 => match x with
  | .int i => Q (some i) M1
  | _ => False
theorem o_none : PO3 X B none dNoPart := ⟨_, po_none, fun σ H δ M Q Qd sl rep bb h q => q _ _ _ Go.refl rep h⟩
theorem o_some (h : PE3 X B e de) : PO3 X B (some e) (dPart de) := by
  obtain ⟨t, h1, h2⟩ := h.ex
  refine ⟨_, po_some h1, fun σ H δ M Q Qd sl rep bb h q => h2 σ H δ M _ _ sl rep bb h fun v H1 x M1 g rep1 r h1 => ?_⟩
  cases x with
  | int i => exact ⟨i, r.int_, q _ _ _ g rep1 h1⟩
  | _ => exact h1.elim
def cutD (xs : List D) (lo hi : Option Int) : List D := (xs.drop (HT.sIx xs.length 0 lo)).take (HT.sIx xs.length xs.length hi - HT.sIx xs.length 0 lo)
theorem Rs.cut {K : PySem.W.Frag} {H : Hp} {ds : List D} {vs : List V} (h : Rs K H ds vs) (lo hi : Option Int) : Rs K H (cutD ds lo hi) (cutV vs lo hi) := by
  unfold cutD cutV
  rw [h.len]
  exact (h.drop _).take _
theorem cutD_nat (xs : List D) (a b : Nat) : cutD xs (some a) (some b) = (xs.drop (min a xs.length)).take (min b xs.length - min a xs.length) := by
  unfold cutD; rw [HT.sIx_nat, HT.sIx_nat]
theorem cutD_to (xs : List D) (b : Nat) : cutD xs none (some b) = xs.take b := by
  unfold cutD
  rw [HT.sIx_nat, HT.sIx_none, List.drop_zero, Nat.sub_zero]
  by_cases h : b ≤ xs.length
  · rw [Nat.min_eq_left h]
  · rw [Nat.min_eq_right (by omega), List.take_length, List.take_of_length_le (by omega)]
theorem cutD_from (xs : List D) (a : Nat) : cutD xs (some a) none = xs.drop a := by
  unfold cutD
  rw [HT.sIx_nat, HT.sIx_none]
  by_cases h : a ≤ xs.length
  · rw [Nat.min_eq_left h, List.take_of_length_le (by rw [List.length_drop]; exact Nat.le_refl _)]
  · rw [Nat.min_eq_right (by omega), List.drop_length, List.drop_of_length_le (by omega)]
    simp
theorem cutD_all (xs : List D) : cutD xs none none = xs := by
  unfold cutD
  rw [HT.sIx_none, HT.sIx_none, List.drop_zero, Nat.sub_zero, List.take_length]
abbrev DSl := D → Option Int → Option Int → Hd → DK → Prop
structure SlD (X : Cx) (rd : DSl) : Prop where
  ex : ∃ r, SlR X r ∧ ∀ (H : Hp) (M : Hd) (x : D) (v : V) (lo hi : Option Int) (Q : VK) (Qd : DK), Rep X.K H M → R X.K H x v → rd x lo hi M Qd →
    (∀ v' H' x' M', Go H M H' M' → Rep X.K H' M' → R X.K H' x' v' → Qd x' M' → Q v' H') → r v lo hi H Q
def dSl (rd : DSl) (de : DE) (dl dh : DO) : DE := fun δ M Q => de δ M fun x M1 => dl δ M1 fun l M2 => dh δ M2 fun u M3 => rd x l u M3 Q
def dCut : DSl := fun x lo hi M Q => match x with
  | .tup xs => Q (.tup (cutD xs lo hi)) M
  | .str z => z.length ≤ sizeLine ∧ Q (.str (cutS z lo hi)) M
  | .ref p => ∃ xs, LS M p xs ∧ ∀ q, M q = none → Q (.ref q) (up M q (.lst (cutD xs lo hi)))
  | .kl _ ns => ∀ q, M q = none → Q (.ref q) (up M q (.lst (cutD (ns.map D.int) lo hi)))
  | _ => False
theorem slD : SlD X dCut := by
  refine ⟨_, (sl_list.or sl_tupA).or sl_str, fun H M x v lo hi Q Qd rep r1 h q => ?_⟩
  cases x with
  | tup xs =>
    obtain ⟨a, vs, rfl, s, rs⟩ := r1.untup
    refine .inl (.inr ⟨a, vs, rfl, SqT.of s, fun e => ?_, fun _ p hp => ?_⟩)
    · have hc : cutD xs lo hi = xs := by
        unfold cutD
        rw [rs.len] at e
        rw [e.1, e.2, List.drop_zero, Nat.sub_zero, List.take_length]
      have h : Qd (.tup (cutD xs lo hi)) M := h
      rw [hc] at h
      exact q _ _ _ M Go.refl rep r1 h
    · obtain ⟨g, rep', r'⟩ := rep.newT hp (rs.cut lo hi)
      exact q _ _ _ M g rep' r' h
  | str z => exact .inr ⟨z, r1.str_, h.1, q _ _ _ M Go.refl rep R.str' h.2⟩
  | kl p ns =>
    obtain ⟨rfl, s⟩ := r1.kl_
    refine .inl (.inl ⟨p, _, rfl, s H, fun q' hq => ?_⟩)
    obtain ⟨g, rep'⟩ := rep.newL hq ((Rs.of_ints (K := X.K) (H := H) ns).cut lo hi)
    exact q _ _ _ _ g rep' R.ref' (h q' (rep.free hq))
  | ref p =>
    obtain ⟨xs, l, h⟩ := h
    obtain ⟨vs, s, rs⟩ := rep.ls l
    refine .inl (.inl ⟨p, vs, r1.ref_, s, fun p' hp => ?_⟩)
    obtain ⟨g, rep'⟩ := rep.newL hp (rs.cut lo hi)
    exact q _ _ _ _ g rep' R.ref' (h p' (rep.free hp))
  | _ => exact h.elim
theorem e_slice {lo hi : Option Expr} {dl dh : DO} {p2 : Pos} {rd : DSl} (hr : SlD X rd) (he : PE3 X B e de) (hl : PO3 X B lo dl) (hh : PO3 X B hi dh) : PE3 X B (.Subscript e (.Slice lo hi none p2) pos) (dSl rd de dl dh) := by
  obtain ⟨r, a1, a2⟩ := hr.ex
  obtain ⟨t, h1, h2⟩ := he.ex
  obtain ⟨tl, l1, l2⟩ := hl.ex
  obtain ⟨th, u1, u2⟩ := hh.ex
  refine ⟨_, pe_slice a1 h1 l1 u1, fun σ H δ M Q Qd sl rep bb h q => h2 σ H δ M _ _ sl rep bb h fun v H1 x M1 g1 rep1 r1 h => ?_⟩
  have sl1 := sl.mono (rep.tx g1)
  have bb1 := B.pres _ _ _ _ g1 bb
  refine l2 σ H1 δ M1 _ _ sl1 rep1 bb1 h fun o H2 M2 g2 rep2 h => ?_
  refine u2 σ H2 δ M2 _ _ (sl1.mono (rep1.tx g2)) rep2 (B.pres _ _ _ _ g2 bb1) h fun o' H3 M3 g3 rep3 h => ?_
  exact a2 H3 M3 x v o o' Q Qd rep3 ((r1.mono (rep1.tx g2)).mono (rep2.tx g3)) h fun v' H' x' M' g' => q v' H' x' M' (((g1.trans g2).trans g3).trans g')
/-! ### built-in calls -/
theorem uneg : ∀ {i : Int}, True := trivial
def dNeg (da : DE) : DE := fun δ M Q => da δ M fun x M1 => match x with
  | .int i => Q (.int (-i)) M1
  | _ => False
theorem e_neg (ha : PE3 X B a da) : PE3 X B (.UnaryOp .USub a pos) (dNeg da) := by
  obtain ⟨t, h1, h2⟩ := ha.ex
  refine ⟨_, pe_un un_neg h1, fun σ H δ M Q Qd sl rep bb h q => h2 σ H δ M _ _ sl rep bb h fun v H1 x M1 g rep1 r h1 => ?_⟩
  cases x with
  | int i => exact ⟨i, r.int_, q _ _ _ _ g rep1 R.int' h1⟩
  | _ => exact h1.elim
theorem CallD.or {f : Value} {r r' : DRL} (h : CallD X f r) (h' : CallD X f r') : CallD X f (fun xs M Q => r xs M Q ∨ r' xs M Q) := by
  obtain ⟨a, a1, a2⟩ := h.ex
  obtain ⟨b, b1, b2⟩ := h'.ex
  refine ⟨_, a1.or b1, fun H M xs vs Q Qd rep rs h q => ?_⟩
  rcases h with h | h
  · exact .inl (a2 H M xs vs Q Qd rep rs h q)
  · exact .inr (b2 H M xs vs Q Qd rep rs h q)
/-- one argument -/
def d1 (f : D → Hd → DK → Prop) : DRL := fun xs M Q => match xs with
  | [x] => f x M Q
  | _ => False
theorem d1_inv {f : D → Hd → DK → Prop} {xs : List D} {M : Hd} {Q : DK} (h : d1 f xs M Q) : ∃ x, xs = [x] ∧ f x M Q := by
  match xs, h with
  | [x], h => exact ⟨x, rfl, h⟩
theorem Rs.one_ {K : PySem.W.Frag} {H : Hp} {d : D} {vs : List V} (h : Rs K H [d] vs) : ∃ v, vs = [v] ∧ R K H d v := by
  obtain ⟨v, us, rfl, r, rs⟩ := h.ucons
  rw [rs.unil]
  exact ⟨v, rfl, r⟩
theorem Rs.two_ {K : PySem.W.Frag} {H : Hp} {d e : D} {vs : List V} (h : Rs K H [d, e] vs) : ∃ v u, vs = [v, u] ∧ R K H d v ∧ R K H e u := by
  obtain ⟨v, us, rfl, r, rs⟩ := h.ucons
  obtain ⟨u, rfl, r2⟩ := rs.one_
  exact ⟨v, u, rfl, r, r2⟩
def dLen : D → Hd → DK → Prop := fun x M Q => match x with
  | .tup xs => Q (.int xs.length) M
  | .str z => z.length ≤ sizeLine ∧ Q (.int z.length) M
  | .kl _ ns => Q (.int ns.length) M
  | .ref p => (∃ xs, LS M p xs ∧ Q (.int xs.length) M) ∨ (∃ kvs, DK_ M p kvs ∧ Q (.int kvs.length) M)
  | _ => False
theorem RK.len {κ : Type} {K : PySem.W.Frag} {H : Hp} : ∀ {kvs : List (κ × D)} {ws : List (κ × V)}, RK K H kvs ws → ws.length = kvs.length
  | _, _, .nil => rfl
  | _, _, .cons _ t => by simp [RK.len t]
theorem cd_len : CallD X (.builtin "len") (d1 dLen) := by
  have cd : CallR X (.builtin "len") (fun xs H Q => ∃ a kvs, xs = [.ref a] ∧ Rd H a (.dK kvs) ∧ Q (.int kvs.length) H) := by
    intro pins s σ H xs us Q I r h
    obtain ⟨a, kvs, rfl, e, q⟩ := h
    rw [Vals.ref1 r]
    exact d_len I e fun t s' I' => ⟨.int kvs.length, H, I', ⟨t, rfl⟩, q⟩
  refine ⟨_, (call_len_seq.or call_len_str).or cd, fun H M xs vs Q Qd rep rs h q => ?_⟩
  obtain ⟨x, rfl, h⟩ := d1_inv h
  obtain ⟨v, rfl, r⟩ := rs.one_
  cases x with
  | tup xs =>
    obtain ⟨a, us, rfl, s, rs'⟩ := r.untup
    exact .inl (.inl ⟨a, us, rfl, .inr (SqT.of s), by rw [rs'.len]; exact q _ _ _ M Go.refl rep R.int' h⟩)
  | kl p ns =>
    obtain ⟨rfl, s⟩ := r.kl_
    exact .inl (.inl ⟨p, _, rfl, .inl (s H), by rw [List.length_map]; exact q _ _ _ M Go.refl rep R.int' h⟩)
  | str z => exact .inl (.inr ⟨z, by rw [r.str_], h.1, q _ _ _ M Go.refl rep R.int' h.2⟩)
  | ref p =>
    rw [r.ref_]
    rcases h with ⟨xs, l, h⟩ | ⟨kvs, d, h⟩
    · obtain ⟨us, s, rs'⟩ := rep.ls l
      exact .inl (.inl ⟨p, us, rfl, .inl s, by rw [rs'.len]; exact q _ _ _ M Go.refl rep R.int' h⟩)
    · obtain ⟨ws, e, rk⟩ := rep.dk d
      exact .inr ⟨p, ws, rfl, e, by rw [rk.len]; exact q _ _ _ M Go.refl rep R.int' h⟩
  | _ => exact h.elim
def dTupOf : D → Hd → DK → Prop := fun x M Q => match x with
  | .tup xs => Q (.tup xs) M
  | .ref p => ∃ xs, LS M p xs ∧ Q (.tup xs) M
  | _ => False
theorem cd_tuple : CallD X (.type "tuple") (d1 dTupOf) := by
  refine ⟨_, call_tuple_of, fun H M xs vs Q Qd rep rs h q => ?_⟩
  obtain ⟨x, rfl, h⟩ := d1_inv h
  obtain ⟨v, rfl, r⟩ := rs.one_
  cases x with
  | tup xs =>
    obtain ⟨a, us, e, s, rs'⟩ := id r.untup
    subst e
    exact ⟨a, us, rfl, .inr ⟨SqT.of s, q _ _ _ M Go.refl rep r h⟩⟩
  | ref p =>
    rw [r.ref_]
    obtain ⟨xs, l, h⟩ := h
    obtain ⟨us, s, rs'⟩ := rep.ls l
    refine ⟨p, us, rfl, .inl ⟨s, fun l hl => ?_⟩⟩
    obtain ⟨g, rep', r'⟩ := rep.newT hl rs'
    exact q _ _ _ M g rep' r' h
  | _ => exact h.elim
def dListOf : D → Hd → DK → Prop := fun x M Q => match x with
  | .tup xs => ∀ q, M q = none → Q (.ref q) (up M q (.lst xs))
  | .kl _ ns => ∀ q, M q = none → Q (.ref q) (up M q (.lst (ns.map D.int)))
  | .ref p => (∃ xs, LS M p xs ∧ ∀ q, M q = none → Q (.ref q) (up M q (.lst xs))) ∨ (∃ kvs, DK_ M p kvs ∧ ∀ q, M q = none → Q (.ref q) (up M q (.lst (kvs.map fun kv => kD kv.1))))
  | _ => False
theorem RK.keys {K : PySem.W.Frag} {H : Hp} : ∀ {kvs : List (Key × D)} {ws : List (Key × V)}, RK K H kvs ws → Rs K H (kvs.map fun kv => T3.kD kv.1) (ws.map fun kv => kV kv.1)
  | _, _, .nil => Rs.nil
  | _, _, .cons r t => .cons (by have e := r.1; show R K H (T3.kD _) (kV _); rw [e]; exact R.of_kD _) (RK.keys t)
theorem cd_list (hc : X.calm = true) : CallD X (.type "list") (d1 dListOf) := by
  refine ⟨_, call_list_of.or (call_listD hc), fun H M xs vs Q Qd rep rs h q => ?_⟩
  obtain ⟨x, rfl, h⟩ := d1_inv h
  obtain ⟨v, rfl, r⟩ := rs.one_
  cases x with
  | tup xs =>
    obtain ⟨a, us, rfl, s, rs'⟩ := r.untup
    refine .inl ⟨a, us, rfl, .inr (SqT.of s), fun l hl => ?_⟩
    obtain ⟨g, rep'⟩ := rep.newL hl rs'
    exact q _ _ _ _ g rep' R.ref' (h l (rep.free hl))
  | kl p ns =>
    obtain ⟨rfl, s⟩ := r.kl_
    refine .inl ⟨p, _, rfl, .inl (s H), fun l hl => ?_⟩
    obtain ⟨g, rep'⟩ := rep.newL hl (Rs.of_ints ns)
    exact q _ _ _ _ g rep' R.ref' (h l (rep.free hl))
  | ref p =>
    rw [r.ref_]
    rcases h with ⟨xs, l, h⟩ | ⟨kvs, d, h⟩
    · obtain ⟨us, s, rs'⟩ := rep.ls l
      refine .inl ⟨p, us, rfl, .inl s, fun l hl => ?_⟩
      obtain ⟨g, rep'⟩ := rep.newL hl rs'
      exact q _ _ _ _ g rep' R.ref' (h l (rep.free hl))
    · obtain ⟨ws, e, rk⟩ := rep.dk d
      refine .inr ⟨p, ws, rfl, e, fun l hl => ?_⟩
      obtain ⟨g, rep'⟩ := rep.newL hl rk.keys
      exact q _ _ _ _ g rep' R.ref' (h l (rep.free hl))
  | _ => exact h.elim
/-- sorted, of ints -/
def srt (ns : List Int) : List Int := ns.mergeSort fun a b => decide (a ≤ b)
theorem srt_perm (ns : List Int) : (srt ns).Perm ns := List.mergeSort_perm _ _
theorem srt_sorted (ns : List Int) : (srt ns).Pairwise (· ≤ ·) := by
  have h := List.pairwise_mergeSort (le := fun a b : Int => decide (a ≤ b)) (fun a b c h1 h2 => by simp at *; omega) (fun a b => by simp; omega) ns
  exact h.imp fun h => of_decide_eq_true h
theorem srt_unique {ns ms : List Int} (p : ms.Perm ns) (s : ms.Pairwise (· ≤ ·)) : ms = srt ns :=
  List.Perm.eq_of_pairwise (fun a b _ _ h1 h2 => Int.le_antisymm h1 h2) s (srt_sorted ns) (p.trans (srt_perm ns).symm)
def dSorted : D → Hd → DK → Prop := fun x M Q => match x with
  | .ref p => ∃ ns : List Int, LS M p (ns.map D.int) ∧ ∀ q, M q = none → Q (.ref q) (up M q (.lst ((srt ns).map D.int)))
  | _ => False
theorem cd_sorted : CallD X (.builtin "sorted") (d1 dSorted) := by
  refine ⟨_, cr_sortedI, fun H M xs vs Q Qd rep rs h q => ?_⟩
  obtain ⟨x, rfl, h⟩ := d1_inv h
  obtain ⟨v, rfl, r⟩ := rs.one_
  cases x with
  | ref p =>
    rw [r.ref_]
    obtain ⟨ns, l, h⟩ := h
    obtain ⟨us, s, rs'⟩ := rep.ls l
    have e := rs'.ints
    subst e
    refine ⟨p, ns, rfl, s, fun ns' p' h1 h2 hp => ?_⟩
    have e := srt_unique h1 h2
    subst e
    obtain ⟨g, rep'⟩ := rep.newL hp (Rs.of_ints (srt ns))
    exact q _ _ _ _ g rep' R.ref' (h p' (rep.free hp))
  | _ => exact h.elim
/-- sum of a tuple of ints -/
def rSumT (K : PySem.W.Frag) : List V → Hp → VK → Prop := fun vs H Q => ∃ (a : Addr) (ns : List Int), vs = [V.ref a] ∧ SqT K H a (ns.map V.int) ∧ Q (.int ns.sum) H
theorem cr_sumT (hc : X.calm = true) : CallR X (.builtin "sum") (rSumT X.K) := by
  intro pins s σ H vs us Q I r h
  obtain ⟨a, ns, rfl, hs, q⟩ := h
  obtain ⟨its, rv, hl, _⟩ := I.tuple hs
  rw [Vals.ref1 r]
  have hi := rv.ints
  obtain ⟨xs, hx⟩ := hi.allInts.items
  have hn : numsOf its.toArray.toList = ns := by rw [show its.toArray.toList = its from rfl, hi.numsOf]
  have hl2 : s.heap.IsTuple a its.toArray := hl
  rw [hx] at hl2 hn
  rw [nums_intItems] at hn
  refine PySem.W.ktm_sumG (I.ok.hd hc) hl2 fun h' tk t' hk => ?_
  rw [preSum_eq, List.take_of_length_le (by simp), hn]
  exact ⟨.int _, H, I.kept hk, ⟨_, rfl⟩, q⟩
def dSum : D → Hd → DK → Prop := fun x M Q => match x with
  | .ref p => ∃ ns : List Int, LS M p (ns.map D.int) ∧ Q (.int ns.sum) M
  | .tup xs => ∃ ns : List Int, xs = ns.map D.int ∧ Q (.int ns.sum) M
  | _ => False
theorem cd_sum (hc : X.calm = true) : CallD X (.builtin "sum") (d1 dSum) := by
  refine ⟨_, (cr_sum hc).or (cr_sumT hc), fun H M xs vs Q Qd rep rs h q => ?_⟩
  obtain ⟨x, rfl, h⟩ := d1_inv h
  obtain ⟨v, rfl, r⟩ := rs.one_
  cases x with
  | ref p =>
    rw [r.ref_]
    obtain ⟨ns, l, h⟩ := h
    obtain ⟨us, s, rs'⟩ := rep.ls l
    have e := rs'.ints
    subst e
    exact .inl ⟨p, ns, rfl, s, q _ _ _ M Go.refl rep R.int' h⟩
  | tup xs =>
    obtain ⟨ns, e0, hq⟩ := h
    obtain ⟨a, us, rfl, s, rs'⟩ := r.untup
    rw [e0] at rs'
    have e := rs'.ints
    subst e
    exact .inr ⟨a, ns, rfl, SqT.of s, q _ _ _ M Go.refl rep R.int' hq⟩
  | _ => exact h.elim
def dAll : D → Hd → DK → Prop := fun x M Q => match x with
  | .ref p => ∃ bs : List Bool, LS M p (bs.map D.bl) ∧ Q (.bl (bs.all id)) M
  | _ => False
theorem cd_all (hc : X.calm = true) : CallD X (.builtin "all") (d1 dAll) := by
  refine ⟨_, cr_all hc, fun H M xs vs Q Qd rep rs h q => ?_⟩
  obtain ⟨x, rfl, h⟩ := d1_inv h
  obtain ⟨v, rfl, r⟩ := rs.one_
  cases x with
  | ref p =>
    rw [r.ref_]
    obtain ⟨ns, l, h⟩ := h
    obtain ⟨us, s, rs'⟩ := rep.ls l
    have e := rs'.bls
    subst e
    exact ⟨p, ns, rfl, s, q _ _ _ M Go.refl rep R.bl' h⟩
  | _ => exact h.elim
def dAny : D → Hd → DK → Prop := fun x M Q => match x with
  | .ref p => ∃ bs : List Bool, LS M p (bs.map D.bl) ∧ Q (.bl (bs.any id)) M
  | _ => False
theorem cd_any (hc : X.calm = true) : CallD X (.builtin "any") (d1 dAny) := by
  refine ⟨_, cr_any hc, fun H M xs vs Q Qd rep rs h q => ?_⟩
  obtain ⟨x, rfl, h⟩ := d1_inv h
  obtain ⟨v, rfl, r⟩ := rs.one_
  cases x with
  | ref p =>
    rw [r.ref_]
    obtain ⟨ns, l, h⟩ := h
    obtain ⟨us, s, rs'⟩ := rep.ls l
    have e := rs'.bls
    subst e
    exact ⟨p, ns, rfl, s, q _ _ _ M Go.refl rep R.bl' h⟩
  | _ => exact h.elim
def dInt : D → Hd → DK → Prop := fun x M Q => match x with
  | .int i => Q (.int i) M
  | .bl k => Q (.int (if k then 1 else 0)) M
  | _ => False
theorem cd_int : CallD X (.type "int") (d1 dInt) := by
  refine ⟨_, call_int1, fun H M xs vs Q Qd rep rs h q => ?_⟩
  obtain ⟨x, rfl, h⟩ := d1_inv h
  obtain ⟨v, rfl, r⟩ := rs.one_
  cases x with
  | int i => exact .inl ⟨i, by rw [r.int_], q _ _ _ M Go.refl rep R.int' h⟩
  | bl k => exact .inr ⟨k, by rw [r.bl_], q _ _ _ M Go.refl rep R.int' h⟩
  | _ => exact h.elim
def dAbs : D → Hd → DK → Prop := fun x M Q => match x with
  | .int i => Q (.int (if i < 0 then -i else i)) M
  | _ => False
theorem cd_abs : CallD X (.builtin "abs") (d1 dAbs) := by
  refine ⟨_, call_abs, fun H M xs vs Q Qd rep rs h q => ?_⟩
  obtain ⟨x, rfl, h⟩ := d1_inv h
  obtain ⟨v, rfl, r⟩ := rs.one_
  cases x with
  | int i => exact ⟨i, by rw [r.int_], q _ _ _ M Go.refl rep R.int' h⟩
  | _ => exact h.elim
/-- max, min: of two ints, of a list of ints -/
def dMax : DRL := fun xs M Q => match xs with
  | [.int i, .int j] => Q (.int (max i j)) M
  | [.ref p] => ∃ ns : List Int, LS M p (ns.map D.int) ∧ 0 < ns.length ∧ ∀ m, m ∈ ns → (∀ y, y ∈ ns → y ≤ m) → Q (.int m) M
  | _ => False
def dMin : DRL := fun xs M Q => match xs with
  | [.int i, .int j] => Q (.int (min i j)) M
  | [.ref p] => ∃ ns : List Int, LS M p (ns.map D.int) ∧ 0 < ns.length ∧ ∀ m, m ∈ ns → (∀ y, y ∈ ns → m ≤ y) → Q (.int m) M
  | _ => False
theorem cd_max (hc : X.calm = true) : CallD X (.builtin "max") dMax := by
  refine ⟨_, (call_max2 hc).or (cr_max hc), fun H M xs vs Q Qd rep rs h q => ?_⟩
  unfold dMax at h
  split at h
  · rename_i i j
    obtain ⟨v, u, rfl, r1, r2⟩ := rs.two_
    have e : (if j > i then j else i) = max i j := by split <;> omega
    exact .inl ⟨i, j, by rw [r1.int_, r2.int_], by rw [e]; exact q _ _ _ M Go.refl rep R.int' h⟩
  · obtain ⟨v, rfl, r⟩ := rs.one_
    obtain ⟨ns, l, h0, h⟩ := h
    obtain ⟨us, s, rs'⟩ := rep.ls l
    have e := rs'.ints
    subst e
    exact .inr ⟨_, ns, by rw [r.ref_], s, h0, fun m h1 h2 => q _ _ _ M Go.refl rep R.int' (h m h1 h2)⟩
  · exact h.elim
theorem cd_min (hc : X.calm = true) : CallD X (.builtin "min") dMin := by
  refine ⟨_, (call_min2 hc).or (cr_min hc), fun H M xs vs Q Qd rep rs h q => ?_⟩
  unfold dMin at h
  split at h
  · rename_i i j
    obtain ⟨v, u, rfl, r1, r2⟩ := rs.two_
    have e : (if j < i then j else i) = min i j := by split <;> omega
    exact .inl ⟨i, j, by rw [r1.int_, r2.int_], by rw [e]; exact q _ _ _ M Go.refl rep R.int' h⟩
  · obtain ⟨v, rfl, r⟩ := rs.one_
    obtain ⟨ns, l, h0, h⟩ := h
    obtain ⟨us, s, rs'⟩ := rep.ls l
    have e := rs'.ints
    subst e
    exact .inr ⟨_, ns, by rw [r.ref_], s, h0, fun m h1 h2 => q _ _ _ M Go.refl rep R.int' (h m h1 h2)⟩
  · exact h.elim
/-! ### isinstance -/
def subT (t n : String) : Bool := t == n || (t == "bool" && n == "int")
theorem kit_sub : ∀ t ∈ ["int", "bool", "str", "tuple", "list", "dict", "NoneType"], ∀ n ∈ ["int", "bool", "str", "tuple", "list", "dict"], kitB t n = some (subT t n) := by decide +kernel
def tyD : D → Option String
  | .non => some "NoneType"
  | .bl _ => some "bool"
  | .int _ => some "int"
  | .str _ => some "str"
  | .tup _ => some "tuple"
  | _ => none
def isT (n : String) : D → Hd → DK → Prop := fun x M Q => match x with
  | .non => Q (.bl false) M
  | .bl _ => Q (.bl (subT "bool" n)) M
  | .int _ => Q (.bl (subT "int" n)) M
  | .str _ => Q (.bl (subT "str" n)) M
  | .tup _ => Q (.bl (subT "tuple" n)) M
  | .ref p => (∃ xs, M p = some (.lst xs) ∧ Q (.bl (subT "list" n)) M) ∨ (∃ kvs, M p = some (.dK kvs) ∧ Q (.bl (subT "dict" n)) M)
  | _ => False
def dIsi : DRL := fun xs M Q => match xs with
  | [x, .ty n] => n ∈ ["int", "bool", "str", "tuple", "list", "dict"] ∧ isT n x M Q
  | _ => False
theorem cd_isi : CallD X (.builtin "isinstance") dIsi := by
  refine ⟨_, call_isi, fun H M xs vs Q Qd rep rs h q => ?_⟩
  unfold dIsi at h
  split at h
  · rename_i x n
    obtain ⟨v, u, rfl, r1, r2⟩ := rs.two_
    obtain ⟨hn, h⟩ := h
    have e2 := r2.ty_
    subst e2
    have fin : ∀ t b, t ∈ ["int", "bool", "str", "tuple", "list", "dict", "NoneType"] → b = subT t n → TyX X.K H v (.type t) → Qd (.bl b) M → rIsi X.K [v, .ty n] H Q := fun t b ht hb ty hq =>
      ⟨v, .ty n, .type t, .type n, b, rfl, .ty n, ty, kit_ty (by rw [hb]; exact kit_sub t ht n hn), q _ _ _ M Go.refl rep R.bl' hq⟩
    cases x with
    | non =>
      have : subT "NoneType" n = false := by
        have : ∀ n ∈ ["int", "bool", "str", "tuple", "list", "dict"], subT "NoneType" n = false := by decide
        exact this n hn
      exact fin "NoneType" false (by decide) this.symm (by rw [r1.non_]; exact .base .non) h
    | bl b => exact fin "bool" _ (by decide) rfl (by rw [r1.bl_]; exact .base (.bl b)) h
    | int b => exact fin "int" _ (by decide) rfl (by rw [r1.int_]; exact .base (.int b)) h
    | str b => exact fin "str" _ (by decide) rfl (by rw [r1.str_]; exact .base (.str b)) h
    | tup xs =>
      obtain ⟨a, us, e, s, rs'⟩ := r1.untup
      exact fin "tuple" _ (by decide) rfl (by rw [e]; exact .base (.tup s)) h
    | ref p =>
      have e := r1.ref_
      rcases h with ⟨xs, l, h⟩ | ⟨kvs, d, h⟩
      · obtain ⟨us, s, rs'⟩ := rep.lst l
        exact fin "list" _ (by decide) rfl (by rw [e]; exact .base (.lst s)) h
      · obtain ⟨ws, s, rk⟩ := rep p _ d
        exact fin "dict" _ (by decide) rfl (by rw [e]; exact .base (.dK s)) h
    | ty n => exact h.elim
    | kl _ _ => exact h.elim
  · exact h.elim
end
end T3
namespace T3
open PySem PySem.Spec PyProof.Rows L2
/-! ### blocks -/
section
variable {X : Cx} {B : Am} {st : Stmt} {rest : List Stmt} {t u : DSt} {e : Expr} {de : DE} {pos : Pos}
def dNext : DSt := fun D δ M => D.nx δ M
def dSeq (t u : DSt) : DSt := fun D δ M => t { D with nx := u D } δ M
theorem sndSeq {K : PySem.W.Frag} {a b : TS} (h : SndS K B a t) (k : SndS K B b u) : SndS K B (tSeq a b) (dSeq t u) := fun σ H δ M D Dd sl rep bb q eo =>
  h σ H δ M { D with nx := b D } { Dd with nx := u Dd } sl rep bb q ⟨fun σ' H' δ' M' g sl' rep' q' => k σ' H' δ' M' D Dd sl' rep' (B.pres _ _ _ _ g bb) q' (eo.mono g), eo.rt, eo.bk, eo.ct⟩
theorem b_nil : PB3 X B [] dNext := ⟨_, pss_nil, fun σ H δ M D Dd sl rep bb q eo => eo.nx _ _ _ _ Go.refl sl rep q⟩
theorem b_cons (h : PS3 X B st t) (k : PB3 X B rest u) : PB3 X B (st :: rest) (dSeq t u) := by
  obtain ⟨a, h1, h2⟩ := h.ex
  obtain ⟨b, k1, k2⟩ := k.ex
  exact ⟨_, pss_cons h1 k1, sndSeq h2 k2⟩
theorem b_one (h : PS3 X B st t) : PB3 X B [st] t := by
  obtain ⟨a, h1, h2⟩ := h.ex
  exact ⟨_, pss_one h1, h2⟩
/-- the ways behind the first joined by a word -/
def dCutS (t u : DSt) : DSt := fun D δ M => ∃ W : DS → Hd → Prop, t { D with nx := W } δ M ∧ ∀ δ' M', W δ' M' → u D δ' M'
theorem b_cut (h : PS3 X B st t) (k : PB3 X B rest u) : PB3 X B (st :: rest) (dCutS t u) := by
  obtain ⟨a, h1, h2⟩ := h.ex
  obtain ⟨b, k1, k2⟩ := k.ex
  refine ⟨_, pss_cons h1 k1, fun σ H δ M D Dd sl rep bb ⟨W, q1, q2⟩ eo => ?_⟩
  exact h2 σ H δ M { D with nx := b D } { Dd with nx := W } sl rep bb q1 ⟨fun σ' H' δ' M' g sl' rep' q' => k2 σ' H' δ' M' D Dd sl' rep' (B.pres _ _ _ _ g bb) (q2 _ _ q') (eo.mono g), eo.rt, eo.bk, eo.ct⟩
def dBrk : DSt := fun D δ M => D.bk δ M
def dCont : DSt := fun D δ M => D.ct δ M
theorem s_pass : PS3 X B (.Pass pos) dNext := ⟨_, ps_pass, fun σ H δ M D Dd sl rep bb q eo => eo.nx _ _ _ _ Go.refl sl rep q⟩
theorem s_brk : PS3 X B (.Break pos) dBrk := ⟨_, ps_break, fun σ H δ M D Dd sl rep bb q eo => eo.bk _ _ _ _ Go.refl sl rep q⟩
theorem s_cont : PS3 X B (.Continue pos) dCont := ⟨_, ps_continue, fun σ H δ M D Dd sl rep bb q eo => eo.ct _ _ _ _ Go.refl sl rep q⟩
def dNever : DSt := fun _ _ _ => False
theorem s_never : PS3 X B st dNever := ⟨_, ps_never, fun σ H δ M D Dd sl rep bb q eo => q.elim⟩
theorem b_never {sts : List Stmt} : PB3 X B sts dNever := ⟨_, pss_never, fun σ H δ M D Dd sl rep bb q eo => q.elim⟩
def dExpr (de : DE) : DSt := fun D δ M => de δ M fun _ M1 => D.nx δ M1
theorem s_expr (h : PE3 X B e de) (hs : swapsWith e none pos.line X.env = pure false := by rfl) : PS3 X B (.Expr e pos) (dExpr de) := by
  obtain ⟨t, h1, h2⟩ := h.ex
  exact ⟨_, ps_expr h1 hs, fun σ H δ M D Dd sl rep bb q eo => h2 σ H δ M _ _ sl rep bb q fun v H' x M' g rep' r q' => eo.nx _ _ _ _ g (sl.mono (rep.tx g)) rep' q'⟩
def dRet (de : DE) : DSt := fun D δ M => de δ M D.rt
theorem s_ret (h : PE3 X B e de) : PS3 X B (.Return (some e) pos) (dRet de) := by
  obtain ⟨t, h1, h2⟩ := h.ex
  exact ⟨_, ps_ret h1, fun σ H δ M D Dd sl rep bb q eo => h2 σ H δ M _ _ sl rep bb q fun v H' x M' g rep' r q' => eo.rt _ _ _ _ g rep' r q'⟩
def dRetN : DSt := fun D _ M => D.rt .non M
theorem s_retN : PS3 X B (.Return none pos) dRetN := ⟨_, ps_retN, fun σ H δ M D Dd sl rep bb q eo => eo.rt _ _ _ _ Go.refl rep R.non' q⟩
def dIfS (c : DT) (t u : DSt) : DSt := fun D δ M => c δ M fun k M1 => (k = true → t D δ M1) ∧ (k = false → u D δ M1)
theorem s_if {c : Expr} {a b : List Stmt} {dc : DT} (hc : PT3 X B c dc) (ha : PB3 X B a t) (hb : PB3 X B b u) : PS3 X B (.If c a b pos) (dIfS dc t u) := by
  obtain ⟨tc, c1, c2⟩ := hc.ex
  obtain ⟨ta, a1, a2⟩ := ha.ex
  obtain ⟨tb, b1, b2⟩ := hb.ex
  refine ⟨_, ps_if c1 a1 b1, fun σ H δ M D Dd sl rep bb q eo => c2 σ H δ M _ _ sl rep bb q fun k H' M' g rep' ⟨q1, q2⟩ => ?_⟩
  have sl' := sl.mono (rep.tx g)
  have bb' := B.pres _ _ _ _ g bb
  cases k with
  | true => exact iteT (a2 σ H' δ M' D Dd sl' rep' bb' (q1 rfl) (eo.mono g))
  | false => exact iteF (b2 σ H' δ M' D Dd sl' rep' bb' (q2 rfl) (eo.mono g))
/-! ### targets -/
inductive Tg where
  | nm (i : Nat) | t2 (i j : Nat) | t3 (i j k : Nat)
def Tg.L (K : PySem.W.Frag) : Tg → TG
  | .nm i => gName i
  | .t2 i j => gTup K 2 (gCons (gName i) (gCons (gName j) gNil))
  | .t3 i j k => gTup K 3 (gCons (gName i) (gCons (gName j) (gCons (gName k) gNil)))
def Tg.ix : Tg → List Nat
  | .nm i => [i]
  | .t2 i j => [i, j]
  | .t3 i j k => [i, j, k]
def dTg (g : Tg) (x : D) (δ : DS) (Q : DS → Prop) : Prop := match g, x with
  | .nm i, x => Q (δ.set i (some x))
  | .t2 i j, .tup [a, b] => Q ((δ.set i (some a)).set j (some b))
  | .t3 i j k, .tup [a, b, c] => Q (((δ.set i (some a)).set j (some b)).set k (some c))
  | _, _ => False
theorem wipe_set {σ : L2.St} {v : Option V} {i : Nat} : ∀ {vs : List Nat}, i ∈ vs → L2.wipe (σ.set i v) vs = L2.wipe σ vs
  | j :: vs, h => by
    show (L2.wipe (σ.set i v) vs).set j none = (L2.wipe σ vs).set j none
    by_cases e : i ∈ vs
    · rw [wipe_set e]
    · have hj : i = j := by
        rcases List.mem_cons.mp h with h | h
        · exact h
        · exact absurd h e
      subst hj
      have : ∀ (vs : List Nat) (σ : L2.St), i ∉ vs → (L2.wipe (σ.set i v) vs) = (L2.wipe σ vs).set i v := by
        intro vs
        induction vs with
        | nil => intro σ _; rfl
        | cons k vs ih =>
          intro σ hk
          show (L2.wipe (σ.set i v) vs).set k none = ((L2.wipe σ vs).set k none).set i v
          have h1 : i ≠ k := fun z => hk (by rw [z]; exact List.mem_cons_self)
          rw [ih σ fun z => hk (List.mem_cons_of_mem _ z), List.set_comm _ _ h1]
      rw [this vs σ e, List.set_set]
  | [], h => by cases h
theorem tg_run {K : PySem.W.Frag} (g : Tg) {x : D} {v : V} {σ : L2.St} {δ : DS} {H : Hp} {M : Hd} {Q : L2.St → Hp → Prop} {Qd : DS → Prop} (sl : Sl K H σ δ) (r : R K H x v) (h : dTg g x δ Qd)
    (q : ∀ σ2 δ2, Sl K H σ2 δ2 → Qd δ2 → (∀ vs, (∀ i ∈ g.ix, i ∈ vs) → L2.wipe σ2 vs = L2.wipe σ vs) → Q σ2 H) : g.L K v σ H Q := by
  unfold dTg at h
  split at h
  · exact q _ _ (sl.set _ r) h fun vs hv => wipe_set (hv _ List.mem_cons_self)
  · rename_i i j a b
    obtain ⟨p, us, rfl, s, rs⟩ := r.untup
    obtain ⟨v1, v2, rfl, r1, r2⟩ := rs.two_
    refine ⟨p, _, rfl, SqT.of s, rfl, v1, [v2], rfl, v2, [], rfl, rfl, ?_⟩
    refine q _ _ ((sl.set i r1).set j r2) h fun vs hv => ?_
    rw [wipe_set (hv j (by simp [Tg.ix])), wipe_set (hv i (by simp [Tg.ix]))]
  · rename_i i j k a b c
    obtain ⟨p, us, rfl, s, rs⟩ := r.untup
    obtain ⟨v1, us', rfl, r1, rs⟩ := rs.ucons
    obtain ⟨v2, v3, rfl, r2, r3⟩ := rs.two_
    refine ⟨p, _, rfl, SqT.of s, rfl, v1, _, rfl, v2, _, rfl, v3, [], rfl, rfl, ?_⟩
    refine q _ _ (((sl.set i r1).set j r2).set k r3) h fun vs hv => ?_
    rw [wipe_set (hv k (by simp [Tg.ix])), wipe_set (hv j (by simp [Tg.ix])), wipe_set (hv i (by simp [Tg.ix]))]
  · exact h.elim
structure PG3 (X : Cx) (target : Expr) (g : Tg) : Prop where
  ex : PG X target (g.L X.K)
theorem g_nm (i : Nat) {x : Str} (hN : X.N.Nodup) (hi : X.N[i]? = some x := by rfl) (hx : Loc X.env.scope x := by first | exact Or.inl rfl | exact Or.inr rfl) (hf : X.fn x = true ∨ X.env.scope.names.lookup x = some .local := by first | exact .inl rfl | exact .inr rfl | assumption) : PG3 X (.Name x pos) (.nm i) := ⟨pg_name hN hi hx hf⟩
theorem g_t2 {a b : Expr} {i j k : Nat} (hc : X.calm = true) (h1 : PG3 X a (.nm i)) (h2 : PG3 X b (.nm j)) (hs1 : (assignEach [a, b] X.env).map (·.2) = assign a X.env :: (assignEach [b] X.env).map (·.2) := by rfl) (hs2 : (assignEach [b] X.env).map (·.2) = assign b X.env :: (assignEach [] X.env).map (·.2) := by rfl)
    (hn : (assignEach [a, b] X.env).length = 2 := by rfl) (hst : (assignEach [a, b] X.env).findIdx? (·.1) = none := by rfl) : PG3 X (.Tuple [a, b] k pos) (.t2 i j) :=
  ⟨pg_tup hc (pgs_cons h1.ex (pgs_cons h2.ex pgs_nil hs2) hs1) hn hst⟩
theorem g_t3 {a b c : Expr} {i j l k : Nat} (hc : X.calm = true) (h1 : PG3 X a (.nm i)) (h2 : PG3 X b (.nm j)) (h3 : PG3 X c (.nm l)) (hs1 : (assignEach [a, b, c] X.env).map (·.2) = assign a X.env :: (assignEach [b, c] X.env).map (·.2) := by rfl) (hs2 : (assignEach [b, c] X.env).map (·.2) = assign b X.env :: (assignEach [c] X.env).map (·.2) := by rfl)
    (hs3 : (assignEach [c] X.env).map (·.2) = assign c X.env :: (assignEach [] X.env).map (·.2) := by rfl) (hn : (assignEach [a, b, c] X.env).length = 3 := by rfl) (hst : (assignEach [a, b, c] X.env).findIdx? (·.1) = none := by rfl) : PG3 X (.Tuple [a, b, c] k pos) (.t3 i j l) :=
  ⟨pg_tup hc (pgs_cons h1.ex (pgs_cons h2.ex (pgs_cons h3.ex pgs_nil hs3) hs2) hs1) hn hst⟩
/-! ### assignments -/
def dSet (i : Nat) (de : DE) : DSt := fun D δ M => de δ M fun x M1 => D.nx (δ.set i (some x)) M1
theorem s_set (i : Nat) {x : Str} {pos' : Pos} (hN : X.N.Nodup) (he : PE3 X B e de) (hi : X.N[i]? = some x := by rfl) (hx : Loc X.env.scope x := by first | exact Or.inl rfl | exact Or.inr rfl) (hs : swapsWith e (some (.Name x pos')) pos.line X.env = pure false := by rfl)
    (hf : X.fn x = true ∨ X.env.scope.names.lookup x = some .local := by first | exact .inl rfl | exact .inr rfl | assumption) : PS3 X B (.Assign [.Name x pos'] e pos) (dSet i de) := by
  obtain ⟨t, h1, h2⟩ := he.ex
  exact ⟨_, ps_set hN hi hx h1 hs hf, fun σ H δ M D Dd sl rep bb q eo => h2 σ H δ M _ _ sl rep bb q fun v H' x M' g rep' r q' => eo.nx _ _ _ _ g ((sl.mono (rep.tx g)).set i r) rep' q'⟩
def dAsg (g : Tg) (de : DE) : DSt := fun D δ M => de δ M fun x M1 => dTg g x δ fun δ2 => D.nx δ2 M1
theorem s_asg {tg : Expr} {g : Tg} (he : PE3 X B e de) (hg : PG3 X tg g) (hs : swapsWithSole [tg] e pos.line X.env = pure false := by rfl) (hw : swappedStores [tg] e X.env = pure none := by rfl)
    (h1 : (assignEach [tg] X.env).map (·.2) = [assign tg X.env] := by rfl) : PS3 X B (.Assign [tg] e pos) (dAsg g de) := by
  obtain ⟨t, a1, a2⟩ := he.ex
  refine ⟨_, ps_asg a1 hg.ex hs hw h1, fun σ H δ M D Dd sl rep bb q eo => a2 σ H δ M _ _ sl rep bb q fun v H' x M' gg rep' r q' => ?_⟩
  exact tg_run g (M := M') (sl.mono (rep.tx gg)) r q' fun σ2 δ2 sl2 q2 _ => eo.nx _ _ _ _ gg sl2 rep' q2
/-- name op= e -/
structure PIp3 (X : Cx) (op : Operator) (rd : DR2) : Prop where
  ex : ∃ r, PIp X op r ∧ SndR2 X.K r rd
def dAug (i : Nat) (de : DE) (rd : DR2) : DSt := fun D δ M => ∃ x, δ[i]? = some (some x) ∧ de δ M fun y M1 => rd x y M1 fun z M2 => D.nx (δ.set i (some z)) M2
theorem s_aug (i : Nat) {x : Str} {op : Operator} {rd : DR2} {pos' : Pos} (hN : X.N.Nodup) (ho : PIp3 X op rd) (he : PE3 X B e de) (hi : X.N[i]? = some x := by rfl) (hx : Loc X.env.scope x := by first | exact Or.inl rfl | exact Or.inr rfl)
    (hf : X.fn x = true ∨ X.env.scope.names.lookup x = some .local := by first | exact .inl rfl | exact .inr rfl | assumption) : PS3 X B (.AugAssign (.Name x pos') op e pos) (dAug i de rd) := by
  obtain ⟨t, h1, h2⟩ := he.ex
  obtain ⟨r, o1, o2⟩ := ho.ex
  refine ⟨_, ps_aug hN hi hx h1 o1 hf, fun σ H δ M D Dd sl rep bb ⟨x, ex, q⟩ eo => ?_⟩
  obtain ⟨v, ev, rv⟩ := sl.at_ i x ex
  refine ⟨v, ev, h2 σ H δ M _ _ sl rep bb q fun u H1 y M1 g1 rep1 ry q1 => ?_⟩
  have t1 := rep.tx g1
  refine o2 H1 M1 x y v u _ _ rep1 (rv.mono t1) ry q1 fun w H2 z M2 g2 rep2 rz q2 => ?_
  exact eo.nx _ _ _ _ (g1.trans g2) (((sl.mono t1).mono (rep1.tx g2)).set i rz) rep2 q2
theorem ip_add3 : PIp3 X .Add (dI0 fun i j => .int (i + j)) := ⟨_, ip_add, fun H M x y v u Q Qd rep r1 r2 h q => by
  obtain ⟨i, j, rfl, rfl, h⟩ := dI0_inv h
  exact ⟨i, j, r1.int_, r2.int_, q _ _ _ M Go.refl rep R.int' h⟩⟩
theorem ip_sub3 : PIp3 X .Sub (dI0 fun i j => .int (i - j)) := ⟨_, ip_sub, fun H M x y v u Q Qd rep r1 r2 h q => by
  obtain ⟨i, j, rfl, rfl, h⟩ := dI0_inv h
  exact ⟨i, j, r1.int_, r2.int_, q _ _ _ M Go.refl rep R.int' h⟩⟩
theorem ip_mul3 : PIp3 X .Mult (dI CMul fun i j => .int (i * j)) := ⟨_, (fun pins s σ H x y v u Q I rx ry h => iop_mul pins s σ H x y v u Q I rx ry h), snd_I fun _ _ _ => R.int'⟩
/-- o[i] = v -/
abbrev DSetR := D → D → D → Hd → (Hd → Prop) → Prop
structure PSet3 (X : Cx) (rd : DSetR) : Prop where
  ex : ∃ r, PSet X r ∧ ∀ (H : Hp) (M : Hd) (o i v : D) (ov iv vv : V) (Q : Hp → Prop) (Qd : Hd → Prop), Rep X.K H M → R X.K H o ov → R X.K H i iv → R X.K H v vv → rd o i v M Qd → (∀ H' M', Go H M H' M' → Rep X.K H' M' → Qd M' → Q H') → r ov iv vv H Q
variable {o i : Expr} {do_ di : DE}
def dPutI (do_ di de : DE) (rd : DSetR) : DSt := fun D δ M => de δ M fun x M1 => do_ δ M1 fun y M2 => di δ M2 fun z M3 => rd y z x M3 fun M4 => D.nx δ M4
theorem s_put {rd : DSetR} {pos' : Pos} (hr : PSet3 X rd) (ho : PE3 X B o do_) (hi : PE3 X B i di) (he : PE3 X B e de) (ha : ∀ v, assign (.Subscript o i pos') X.env v = (do
      let ov ← holding [v] (eval o X.env)
      let iv ← holding [v, ov] (eval i X.env)
      standAt pos'
      holding [v, ov, iv] (setItem ov iv v)
      release [v, ov, iv] []) := by intro _; rfl) (hs : swapsWithSole [.Subscript o i pos'] e pos.line X.env = pure false := by rfl) (hw : swappedStores [.Subscript o i pos'] e X.env = pure none := by rfl)
    (h1 : (assignEach [.Subscript o i pos'] X.env).map (·.2) = [assign (.Subscript o i pos') X.env] := by rfl) : PS3 X B (.Assign [.Subscript o i pos'] e pos) (dPutI do_ di de rd) := by
  obtain ⟨r, r1, r2⟩ := hr.ex
  obtain ⟨to, o1, o2⟩ := ho.ex
  obtain ⟨ti, i1, i2⟩ := hi.ex
  obtain ⟨te, e1, e2⟩ := he.ex
  refine ⟨_, ps_asg e1 (pg_sub o1 i1 r1 ha) hs hw h1, fun σ H δ M D Dd sl rep bb q eo => e2 σ H δ M _ _ sl rep bb q fun v H1 x M1 g1 rep1 rx q1 => ?_⟩
  have sl1 := sl.mono (rep.tx g1)
  have bb1 := B.pres _ _ _ _ g1 bb
  refine o2 σ H1 δ M1 _ _ sl1 rep1 bb1 q1 fun ov H2 y M2 g2 rep2 ry q2 => ?_
  have sl2 := sl1.mono (rep1.tx g2)
  have bb2 := B.pres _ _ _ _ g2 bb1
  refine i2 σ H2 δ M2 _ _ sl2 rep2 bb2 q2 fun iv H3 z M3 g3 rep3 rz q3 => ?_
  have t3 := rep2.tx g3
  refine r2 H3 M3 y z x ov iv v _ _ rep3 (ry.mono t3) rz ((rx.mono (rep1.tx g2)).mono t3) q3 fun H4 M4 g4 rep4 q4 => ?_
  exact eo.nx _ _ _ _ (((g1.trans g2).trans g3).trans g4) ((sl2.mono t3).mono (rep3.tx g4)) rep4 q4
def putKD {κ : Type} [DecidableEq κ] (kvs : List (κ × D)) (k : κ) (v : D) : List (κ × D) := if (kvs.any fun kv => decide (kv.1 = k)) = true then kvs.map (fun kv => if kv.1 = k then (kv.1, v) else kv) else kvs ++ [(k, v)]
theorem RK.anyk {κ : Type} [DecidableEq κ] {K : PySem.W.Frag} {H : Hp} (k : κ) : ∀ {kvs : List (κ × D)} {ws : List (κ × V)}, RK K H kvs ws → (ws.any fun kv => decide (kv.1 = k)) = kvs.any fun kv => decide (kv.1 = k)
  | _, _, .nil => rfl
  | _, _, .cons r t => by rw [List.any_cons, List.any_cons, RK.anyk k t, r.1]
theorem RK.app {κ : Type} {K : PySem.W.Frag} {H : Hp} : ∀ {a c : List (κ × D)} {b d : List (κ × V)}, RK K H a b → RK K H c d → RK K H (a ++ c) (b ++ d)
  | _, _, _, _, .nil, s => s
  | _, _, _, _, .cons r t, s => .cons r (RK.app t s)
theorem RK.put {κ : Type} [DecidableEq κ] {K : PySem.W.Frag} {H : Hp} {kvs : List (κ × D)} {ws : List (κ × V)} (h : RK K H kvs ws) (k : κ) {d : D} {v : V} (r : R K H d v) : RK K H (putKD kvs k d) (putK ws k v) := by
  have hm : ∀ {kvs : List (κ × D)} {ws : List (κ × V)}, RK K H kvs ws → RK K H (kvs.map fun kv => if kv.1 = k then (kv.1, d) else kv) (ws.map fun kv => if kv.1 = k then (kv.1, v) else kv) := by
    intro kvs ws h
    induction h with
    | nil => exact .nil
    | @cons a b l1 l2 r' t ih =>
      refine .cons ?_ ih
      show (if a.1 = k then (a.1, d) else a).1 = (if b.1 = k then (b.1, v) else b).1 ∧ R K H (if a.1 = k then (a.1, d) else a).2 (if b.1 = k then (b.1, v) else b).2
      by_cases e : a.1 = k
      · have e' : b.1 = k := by rw [← r'.1]; exact e
        rw [if_pos e, if_pos e']
        exact ⟨r'.1, r⟩
      · have e' : ¬ b.1 = k := by rw [← r'.1]; exact e
        rw [if_neg e, if_neg e']
        exact r'
  unfold putKD putK
  rw [RK.anyk k h]
  by_cases e : (kvs.any fun kv => decide (kv.1 = k)) = true
  · rw [if_pos e, if_pos e]
    exact hm h
  · rw [if_neg e, if_neg e]
    exact h.app (.cons ⟨rfl, r⟩ .nil)
theorem len_putKD {κ : Type} [DecidableEq κ] (kvs : List (κ × D)) (k : κ) (v : D) : (putKD kvs k v).length ≤ kvs.length + 1 := by
  unfold putKD
  split
  · rw [List.length_map]; exact Nat.le_succ _
  · simp
def dPut : DSetR := fun o i v M Q => ∃ p, o = .ref p ∧
  ((∃ (xs : List D) (k : Int) (j : Nat), i = .int k ∧ M p = some (.lst xs) ∧ ixN xs.length k = some j ∧ Q (up M p (.lst (xs.set j v)))) ∨
   (∃ (kvs : List (Key × D)) (k : Key), i = kD k ∧ M p = some (.dK kvs) ∧ kvs.length < sizeLine ∧ Q (up M p (.dK (putKD kvs k v)))) ∨
   (∃ (kvs : List (List Key × D)) (ks : List Key), i = .tup (ks.map kD) ∧ M p = some (.dT kvs) ∧ kvs.length < sizeLine ∧ Q (up M p (.dT (putKD kvs ks v)))))
theorem set_dictR (hu : X.A.units + 1 < cLine) : PSet X (fun o i v H Q => ∃ a H', o = .ref a ∧ DPut H a i v H' ∧ Q H') := by
  intro pins s σ H o i v ov iv u Q I ro ri rv h
  obtain ⟨a, H', rfl, g, q⟩ := h
  cases ro
  exact d_setItem hu I g ri rv fun s' I' => ⟨H', I', q⟩
theorem PSet.or {r r' : TSet} (h : PSet X r) (h' : PSet X r') : PSet X (fun o i v H Q => r o i v H Q ∨ r' o i v H Q) := by
  intro pins s σ H o i v ov iv u Q I ro ri rv q
  rcases q with q | q
  · exact h pins s σ H o i v ov iv u Q I ro ri rv q
  · exact h' pins s σ H o i v ov iv u Q I ro ri rv q
theorem put3 (hu : X.A.units + 1 < cLine) : PSet3 X dPut := by
  refine ⟨_, PSet.or set_list (set_dictR hu), fun H M o i v ov iv vv Q Qd rep ro ri rv h q => ?_⟩
  obtain ⟨p, rfl, h⟩ := h
  rw [ro.ref_]
  rcases h with ⟨xs, k, j, rfl, l, e, h⟩ | ⟨kvs, k, rfl, d, hz, h⟩ | ⟨kvs, ks, rfl, d, hz, h⟩
  · obtain ⟨vs, s, rs⟩ := rep.lst l
    obtain ⟨g, rep'⟩ := rep.putL l (rs.set rv j)
    exact .inl ⟨p, vs, k, j, rfl, ri.int_, s, by rw [rs.len]; exact e, q _ _ g rep' h⟩
  · obtain ⟨ws, s, rk⟩ := rep p _ d
    have t : Tx X.K H (upd H p (.dK (putK ws k vv))) := tx_put s trivial
    refine .inr ⟨p, _, rfl, .inl ⟨ws, k, s, ri.kD, by rw [rk.len]; exact hz, rfl⟩, q _ _ (go_put (by rw [d]; exact fun z => nomatch z)) ?_ h⟩
    exact rep.put t (by rw [d]; exact fun _ z => nomatch z) (.inr (by rw [d]; exact fun z => nomatch z)) ⟨_, upd_same, (rk.put k rv).mono t⟩
  · obtain ⟨ws, s, rk⟩ := rep p _ d
    obtain ⟨a, us, rfl, st, rs⟩ := ri.untup
    have ev := R.tupK rs
    subst ev
    have t : Tx X.K H (upd H p (.dT (putK ws ks vv))) := tx_put s trivial
    refine .inr ⟨p, _, rfl, .inr ⟨ws, ks, a, s, rfl, st, by rw [rk.len]; exact hz, rfl⟩, q _ _ (go_put (by rw [d]; exact fun z => nomatch z)) ?_ h⟩
    exact rep.put t (by rw [d]; exact fun _ z => nomatch z) (.inr (by rw [d]; exact fun z => nomatch z)) ⟨_, upd_same, (rk.put ks rv).mono t⟩
end
end T3
/-! enumerate over a tuple: the rule of the layer, made for it -/
namespace PySem
theorem t3_enum_new {v : Value} {o : Obj} {Hh : Heap → Prop} (Bg : Begins v o Hh) :
    Meets (Builtin.«enumerate.__new__» ⟨[.type "enumerate", v], []⟩) (fun _ Rr z => Hh z.heap ∧
      Rr (.ok (.ret (.ref (z.heap.push o).objs.size))) { z with heap := (z.heap.push o).push { cls := .type "enumerate", data := .fields #[.none, .bool false, .ref z.heap.objs.size, rawInt 0, .none, .none] } }) :=
  .of_wp fun pr wo Ar Rr z hz => by
    obtain ⟨hp, g, d, tk, os⟩ := z
    obtain ⟨b0, hz⟩ := hz
    have isSub := sub_enumerate
    have itr : ∀ {A' : Around} {E' : Value → Shared → Prop} {Q' : Value → Shared → Prop}, Q' (.ref hp.objs.size) ⟨hp.push o, g, d, tk, os⟩ → wpAny (model pr wo) A' (pyIter v) Q' E' ⟨hp, g, d, tk, os⟩ :=
      fun k => Bg.iter pr wo _ _ ⟨hp, g, d, tk, os⟩ _ b0 k
    wp_walk using itr
    refine wpAny_stack_any fun _ => wpAny_pure ?_
    split
    · rename_i cl _ _ _ _ _
      cases (cl == Value.type "enumerate") <;> (wp_walk using itr; exact ⟨_, rfl, hz⟩)
    · wp_walk using itr
      exact ⟨_, rfl, hz⟩
theorem t3_enum_begins {prog : Program} {w : World} {A : Around} {E : Value → Shared → Prop} {z : Shared} {v : Value} {o : Obj} {Hh : Heap → Prop} {Q : Value → Shared → Prop} (Bg : Begins v o Hh) (b0 : Hh z.heap)
    (k : ∀ h', IsEnum h' (z.heap.objs.size + 1) z.heap.objs.size 0 .none → h'.get? z.heap.objs.size = some o → (∀ b u, z.heap.get? b = some u → h'.get? b = some u) → Q (.ref (z.heap.objs.size + 1)) { z with heap := h' }) :
    wpAny (model prog w) A (call (.type "enumerate") [v]) Q E z := by
  refine callType_new F.called_enumerate (by decide) (F.typeCall_enumerate_1 _) (F.newCall_enumerate_1 _) (fun ob => F.args_object_init_2 ob _) F.entry_enumerate_new (t3_enum_new Bg) ⟨b0, ?_⟩
  have sz : (z.heap.push o).objs.size = z.heap.objs.size + 1 := Heap.size_push ..
  have top := Heap.get?_push_size (z.heap.push o) (o := { cls := .type "enumerate", data := .fields #[.none, .bool false, .ref z.heap.objs.size, rawInt 0, .none, .none] }) rfl
  rw [sz] at top
  show _ ∧ _
  rw [sz]
  exact ⟨⟨_, top, rfl⟩, k _ top (Heap.get?_push_of_some _ (Heap.get?_push_size _ Bg.free)) fun b u x => Heap.get?_push_of_some _ (Heap.get?_push_of_some _ x)⟩
end PySem
namespace T3
open PySem PySem.Spec PyProof.Rows L2
/-- enumerate(t): pairs of the place and the item -/
def IteT (K : PySem.W.Frag) (a : Addr) : It where
  go := fun i H => ∃ (xs : List V) (x : V), SqT K H a xs ∧ xs[i]? = some x
  yld := fun i H v H' => ∃ T x, v = .ref T ∧ H T = none ∧ H' = upd H T (.tup [.int (i : Nat), x]) ∧ ∀ xs, SqT K H a xs → xs[i]? = some x
  stop := fun i H => ∃ xs : List V, SqT K H a xs ∧ i = xs.length
theorem turn_enumT {P : Program} {w : World} {K : PySem.W.Frag} {elts : List Expr} {kk : Nat} {tpos : Pos} (a e it : Addr) (hea : e ≠ a) (hia : a ≠ it) :
    Turn P w K (.Tuple elts kk tpos) (IteT K a) [e, it] e (fun i h => (∃ old, IsEnum h e it ((i : Nat) : Int) old) ∧ h.IsTupleIter it a i ∧ e ≠ it) where
  mem := List.mem_cons_self
  obj := by
    rintro i h ⟨⟨old, he⟩, ⟨o, ho, hc, hd⟩, _⟩ b hb
    rcases List.mem_cons.mp hb with z | z
    · subst z
      exact ⟨_, he, fun _ q => nomatch q⟩
    · rw [List.mem_singleton.mp z]
      exact ⟨o, ho, fun _ q => by rw [hd] at q; cases q⟩
  keep := by
    rintro i h h' ⟨⟨old, he⟩, hi, hne⟩ k
    exact ⟨⟨old, k e List.mem_cons_self _ he⟩, hi.at fun o q => k it (List.mem_cons_of_mem _ List.mem_cons_self) o q, hne⟩
  item := by
    rintro X rfl rfl rfl hc i pins s σ H E I hf ⟨⟨old, he⟩, hit, hne⟩ ⟨xs, x, hq, hx⟩
    obtain ⟨its, rv, tp, _⟩ := I.tuple hq
    obtain ⟨u, hu, ru⟩ := rv.get hx
    have ht : s.heap.IsTuple a its.toArray := tp
    have inE : e < s.heap.objs.size := Heap.lt_size he
    have inI : it < s.heap.objs.size := by obtain ⟨_, q, _⟩ := hit; exact Heap.lt_size q
    have hlt : i < its.toArray.size := by
      rw [List.size_toArray]
      exact (List.getElem?_eq_some_iff.mp hu).1
    have nin : e ∉ [it, a] := fun m => by
      rcases List.mem_cons.mp m with m | m
      · exact hne m
      · exact hea (List.mem_singleton.mp m)
    refine wpAny_pyNext_enum_itemD (Draws.tuple (A := X.A.in1) (I.ok.hd hc) it a hia its.toArray) he ⟨hit, ht⟩ hlt hne nin fun y h' tk hy out ⟨hit', _⟩ hT hz hk => ?_
    have ey : y = u := by
      have q : its[i]? = some y := by simpa using hy
      rw [hu] at q
      exact (Option.some.inj q).symm
    subst ey
    refine ⟨_, rfl, wpAny_letOwnedTupleGo_enum (s := { s with heap := h', toks := tk + 1 }) out fun h2 back sb => ?_⟩
    have there : h2.get? s.heap.objs.size = some { cls := .type "tuple", data := .seq #[.int i tk, y] } := by
      rw [sb.2 _ (Nat.ne_of_gt inE)]
      exact hT
    have okT : ObjOk X.prog X.w (upd H s.heap.objs.size (.tup [.int (i : Nat), x])) h2 s.heap.objs.size (.tup [.int (i : Nat), x]) :=
      ⟨by show 2 ≤ sizeLine; decide, [.int i tk, y], .cons ⟨_, rfl⟩ (.cons ru .nil), ⟨_, there, rfl, _, rfl⟩⟩
    have J : Inv X pins σ (upd H s.heap.objs.size (.tup [.int (i : Nat), x])) { s with heap := h2, toks := tk + 1 } := by
      refine I.turnedNew (ch := [e, it]) (fun b ob nb q => ?_) hf (Nat.le_refl _) okT
      have nbe : b ≠ e := fun z => nb (by rw [z]; exact List.mem_cons_self)
      have nbi : b ≠ it := fun z => nb (by rw [z]; exact List.mem_cons_of_mem _ List.mem_cons_self)
      rw [sb.2 b nbe]
      exact hk b ob nbe nbi q
    refine ⟨.ref s.heap.objs.size, _, J, rfl, ⟨_, x, rfl, I.hok.fresh (Nat.le_refl _), rfl, fun ys hys => ?_⟩, ⟨⟨y, ?_⟩, hit'.at fun o q => ?_, hne⟩, fun b hb => ?_⟩
    · rw [I.tuple_inj hys hq]
      exact hx
    · rw [show ((i + 1 : Nat) : Int) = (i : Int) + 1 by omega]
      exact back
    · rw [sb.2 it (Ne.symm hne)]
      exact q
    · have lb : b < s.heap.objs.size := by
        rcases List.mem_cons.mp hb with z | z
        · rw [z]; exact inE
        · rw [List.mem_singleton.mp z]; exact inI
      rw [upd_ne (Nat.ne_of_lt lb)]
      exact (hf b hb).1
  done := by
    rintro X rfl rfl rfl hc i pins s σ H E I hf ⟨⟨old, he⟩, hit, hne⟩ ⟨xs, hq, hx⟩
    obtain ⟨its, rv, tp, _⟩ := I.tuple hq
    have ht : s.heap.IsTuple a its.toArray := tp
    have hn : i = its.toArray.size := by rw [List.size_toArray, hx, rv.length]
    subst hn
    obtain ⟨f0, f1, f2, f3, f4, f5⟩ := hf it (List.mem_cons_of_mem _ List.mem_cons_self)
    exact wpAny_pyNext_enum_endD (Draws.tuple (A := X.A.in1) (I.ok.hd hc) it a hia its.toArray) he ⟨hit, ht⟩ fun h' eb => ⟨rfl, I.turned (t' := s.toks) (fun b o nb q => eb b o nb q) f0 f1 f3 f4 f5⟩
  self := fun A i s Q E st h => by
    obtain ⟨⟨_, he⟩, _⟩ := st
    exact wpAny_pyIter_enum he h
/-! ### what is walked: items, and what must stand meanwhile -/
structure DW where
  xs : List D
  G : Hd → Prop
abbrev DI := DS → Hd → (DW → Hd → Prop) → Prop
/-- J walks the items of W -/
def ItOk (K : PySem.W.Frag) (H0 : Hp) (J : It) (W : DW) : Prop := ∀ (i : Nat) H M, Tx K H0 H → Rep K H M → W.G M →
  (∀ x, W.xs[i]? = some x → J.go i H ∧ ∀ v H', J.yld i H v H' → Go H M H' M ∧ Rep K H' M ∧ R K H' x v) ∧ (i = W.xs.length → J.stop i H)
def SndI (K : PySem.W.Frag) (B : Am) (t : TI) (d : DI) : Prop := ∀ (σ : L2.St) (H : Hp) (δ : DS) (M : Hd) (Q : It → Hp → Prop) (Qd : DW → Hd → Prop), Sl K H σ δ → Rep K H M → B.B H M → d δ M Qd →
  (∀ J H' W M', Go H M H' M' → Rep K H' M' → ItOk K H' J W → Qd W M' → Q J H') → t σ H Q
structure PI3 (X : Cx) (B : Am) (tg e : Expr) (d : DI) : Prop where
  ex : ∃ t, PI X tg e t ∧ SndI X.K B t d
section
variable {X : Cx} {B : Am} {tg e e2 e3 : Expr} {de : DE} {dr : DA} {pos p : Pos}
/-- a list, a tuple, a text -/
def iSeq (K : PySem.W.Frag) (tl : TE) : TI := fun σ H R => tl σ H fun x H1 => (∃ a, x = .ref a ∧ ((∃ xs, SqL K H1 a xs) ∧ R (Itl K a) H1 ∨ (∃ xs, SqT K H1 a xs) ∧ R (Itt K a) H1)) ∨ ∃ z, x = .str z ∧ R (Its z) H1
theorem pi_seq {l : Expr} {tl : TE} (hl : PE X l tl) : PI X tg l (iSeq X.K tl) := by
  refine ⟨fun pins s σ H Rr I h => thn (hl.run pins s σ H _ I h) fun v s1 ⟨x, H1, I1, r1, q1⟩ => ?_⟩
  rcases q1 with ⟨a, ex, ⟨⟨xs, hq⟩, q⟩ | ⟨⟨xs, hq⟩, q⟩⟩ | ⟨z, ex, q⟩ <;> subst ex
  · cases r1
    obtain ⟨its, _, pl, _⟩ := I1.list hq
    exact wpAny_pyIter_list pl.isList (pi_one (tk := s1.toks) I1 _ (turn_list a _) ⟨_, Heap.get?_push_size _ rfl, rfl, rfl⟩ q)
  · cases r1
    obtain ⟨its, _, pl, _⟩ := I1.tuple hq
    exact wpAny_pyIter_tuple (show s1.heap.IsTuple a its.toArray from pl) (pi_one (tk := s1.toks) I1 _ (turn_tuple a _) ⟨_, Heap.get?_push_size _ rfl, rfl, rfl⟩ q)
  · obtain ⟨t, rfl⟩ := r1
    by_cases ha : z.cps.all (· < 128) = true
    · exact wpAny_pyIter_ascii ha (pi_one (tk := s1.toks) I1 _ (turn_str _ z t "str_ascii_iterator" (.inl rfl)) ⟨_, Heap.get?_push_size _ rfl, rfl, rfl⟩ q)
    · exact wpAny_pyIter_wide (by simpa using ha) (pi_one (tk := s1.toks) I1 _ (turn_str _ z t "str_iterator" (.inr rfl)) ⟨_, Heap.get?_push_size _ rfl, rfl, rfl⟩ q)
def dSeqI (de : DE) : DI := fun δ M Q => de δ M fun x M1 => match x with
  | .tup xs => Q ⟨xs, fun _ => True⟩ M1
  | .ref p => ∃ xs, LS M1 p xs ∧ Q ⟨xs, fun M => LS M p xs⟩ M1
  | .str z => Q ⟨z.cps.toList.map fun c => .str ⟨#[c]⟩, fun _ => True⟩ M1
  | _ => False
theorem itok_tup {K : PySem.W.Frag} {H0 : Hp} {a : Addr} {vs : List V} {xs : List D} (s : H0 a = some (.tup vs)) (rs : Rs K H0 xs vs) : ItOk K H0 (Itt K a) ⟨xs, fun _ => True⟩ := by
  intro i H M t rep _
  have s' := t _ _ s
  have rs' := rs.mono t
  refine ⟨fun x ex => ?_, fun e => ⟨vs, SqT.of s', by rw [rs.len]; exact Nat.le_of_eq e.symm⟩⟩
  obtain ⟨v, ev, rv⟩ := rs'.get ex
  refine ⟨⟨vs, v, SqT.of s', ev⟩, fun v' H' ⟨eH, hy⟩ => ?_⟩
  subst eH
  have e2 := hy vs (SqT.of s')
  rw [ev] at e2
  cases e2
  exact ⟨Go.refl, rep, rv⟩
theorem itok_list {K : PySem.W.Frag} {H0 : Hp} {p : Addr} {xs : List D} : ItOk K H0 (Itl K p) ⟨xs, fun M => LS M p xs⟩ := by
  intro i H M t rep g
  obtain ⟨vs, s, rs⟩ := rep.ls g
  refine ⟨fun x ex => ?_, fun e => ⟨vs, s, by rw [rs.len]; exact Nat.le_of_eq e.symm⟩⟩
  obtain ⟨v, ev, rv⟩ := rs.get ex
  refine ⟨⟨vs, v, s, ev⟩, fun v' H' ⟨eH, hy⟩ => ?_⟩
  subst eH
  have e2 := hy vs s
  rw [ev] at e2
  cases e2
  exact ⟨Go.refl, rep, rv⟩
theorem itok_str {K : PySem.W.Frag} {H0 : Hp} {z : Str} : ItOk K H0 (Its z) ⟨z.cps.toList.map fun c => .str ⟨#[c]⟩, fun _ => True⟩ := by
  intro i H M t rep _
  refine ⟨fun x ex => ?_, fun e => ?_⟩
  · rw [List.getElem?_map] at ex
    obtain ⟨c, hc, rfl⟩ := Option.map_eq_some_iff.mp ex
    have hc' : z.cps[i]? = some c := by simpa using hc
    refine ⟨(Array.getElem?_eq_some_iff.mp hc').1, fun v' H' ⟨eH, c', e1, e2⟩ => ?_⟩
    subst eH e2
    rw [hc'] at e1
    cases e1
    exact ⟨Go.refl, rep, R.str'⟩
  · show z.cps.size ≤ i
    have e : i = (z.cps.toList.map fun c => D.str ⟨#[c]⟩).length := e
    rw [List.length_map, Array.length_toList] at e
    exact Nat.le_of_eq e.symm
theorem i_seq (h : PE3 X B e de) : PI3 X B tg e (dSeqI de) := by
  obtain ⟨t, h1, h2⟩ := h.ex
  refine ⟨_, pi_seq h1, fun σ H δ M Q Qd sl rep bb h q => h2 σ H δ M _ _ sl rep bb h fun v H1 x M1 g rep1 r h1 => ?_⟩
  cases x with
  | tup xs =>
    obtain ⟨a, vs, rfl, s, rs⟩ := r.untup
    exact .inl ⟨a, rfl, .inr ⟨⟨vs, SqT.of s⟩, q _ _ _ _ g rep1 (itok_tup s rs) h1⟩⟩
  | ref p =>
    obtain ⟨xs, l, h1⟩ := h1
    obtain ⟨vs, s, rs⟩ := rep1.ls l
    exact .inl ⟨p, r.ref_, .inl ⟨⟨vs, s⟩, q _ _ _ _ g rep1 itok_list h1⟩⟩
  | str z => exact .inr ⟨z, r.str_, q _ _ _ _ g rep1 itok_str h1⟩
  | _ => exact h1.elim
/-- range -/
def rngD (a b : Int) : List D := (List.range (b - a).toNat).map fun (i : Nat) => .int (a + i)
theorem rngD_get {a b : Int} {i : Nat} {x : D} (h : (rngD a b)[i]? = some x) : i < (b - a).toNat ∧ x = .int (a + i) := by
  unfold rngD at h
  rw [List.getElem?_map] at h
  obtain ⟨j, hj, rfl⟩ := Option.map_eq_some_iff.mp h
  obtain ⟨h1, h2⟩ := List.getElem?_eq_some_iff.mp hj
  rw [List.length_range] at h1
  rw [List.getElem_range] at h2
  subst h2
  exact ⟨h1, rfl⟩
theorem rngD_len (a b : Int) : (rngD a b).length = (b - a).toNat := by unfold rngD; rw [List.length_map, List.length_range]
theorem itok_rng {K : PySem.W.Frag} {H0 : Hp} {a b : Int} : ItOk K H0 (Itr a (b - a).toNat) ⟨rngD a b, fun _ => True⟩ := by
  intro i H M t rep _
  refine ⟨fun x ex => ?_, fun e => ?_⟩
  · obtain ⟨h1, rfl⟩ := rngD_get ex
    refine ⟨h1, fun v' H' ⟨eH, ev⟩ => ?_⟩
    subst eH ev
    exact ⟨Go.refl, rep, R.int'⟩
  · have e : i = (rngD a b).length := e
    rw [rngD_len] at e
    exact Nat.le_of_eq e.symm
def dRng1 (dr : DA) : DI := fun δ M Q => dr δ M fun xs M1 => match xs with
  | [.int j] => (-(2 ^ 62) ≤ j ∧ j < 2 ^ 62) ∧ Q ⟨rngD 0 j, fun _ => True⟩ M1
  | _ => False
def dRng2 (dr : DA) : DI := fun δ M Q => dr δ M fun xs M1 => match xs with
  | [.int i, .int j] => (-(2 ^ 62) ≤ i ∧ i < 2 ^ 62 ∧ -(2 ^ 62) ≤ j ∧ j < 2 ^ 62) ∧ Q ⟨rngD i j, fun _ => True⟩ M1
  | _ => False
theorem i_rng1 (hg : Gl X "range") (hm : X.mg "range" = none) (ha : PA3 X B [e] dr) (hs : starEach [e] X.env = [(false, eval e X.env)] := by rfl) : PI3 X B tg (.Call (.Name "range" p) [e] [] pos) (dRng1 dr) := by
  obtain ⟨t, h1, h2⟩ := ha.ex
  refine ⟨_, pi_range1 hg hm h1 hs, fun σ H δ M Q Qd sl rep bb h q => h2 σ H δ M _ _ sl rep bb h fun vs H1 xs M1 g rep1 rs hl h1 => ?_⟩
  clear hl
  split at h1
  · rename_i j
    obtain ⟨v, rfl, r⟩ := rs.one_
    refine ⟨j, by rw [r.int_], h1.1.1, h1.1.2, ?_⟩
    have := q (Itr 0 (j - 0).toNat) H1 _ M1 g rep1 itok_rng h1.2
    rwa [Int.sub_zero] at this
  · exact h1.elim
theorem i_rng2 (hg : Gl X "range") (hm : X.mg "range" = none) (ha : PA3 X B [e, e2] dr) (hs : starEach [e, e2] X.env = [(false, eval e X.env), (false, eval e2 X.env)] := by rfl) (hs2 : starEach [e2] X.env = [(false, eval e2 X.env)] := by rfl) : PI3 X B tg (.Call (.Name "range" p) [e, e2] [] pos) (dRng2 dr) := by
  obtain ⟨t, h1, h2⟩ := ha.ex
  refine ⟨_, pi_range2 hg hm h1 hs hs2, fun σ H δ M Q Qd sl rep bb h q => h2 σ H δ M _ _ sl rep bb h fun vs H1 xs M1 g rep1 rs hl h1 => ?_⟩
  clear hl
  split at h1
  · rename_i i j
    obtain ⟨v, u, rfl, r1, r2⟩ := rs.two_
    exact ⟨i, j, by rw [r1.int_, r2.int_], h1.1, q _ H1 _ M1 g rep1 itok_rng h1.2⟩
  · exact h1.elim
/-- range downwards by one -/
def downD (a b : Int) : List D := (List.range (a - b).toNat).map fun (i : Nat) => .int (a - i)
def dRngDn (dr : DA) : DI := fun δ M Q => dr δ M fun xs M1 => match xs with
  | [.int i, .int j, .int k] => (-(2 ^ 62) ≤ i ∧ i < 2 ^ 62 ∧ -(2 ^ 62) ≤ j ∧ j < 2 ^ 62 ∧ k = -1) ∧ Q ⟨downD i j, fun _ => True⟩ M1
  | _ => False
theorem itok_dn {K : PySem.W.Frag} {H0 : Hp} {a b : Int} : ItOk K H0 (Itc a (-1) (a - b).toNat) ⟨downD a b, fun _ => True⟩ := by
  intro i H M t rep _
  refine ⟨fun x ex => ?_, fun e => ?_⟩
  · have ex : (downD a b)[i]? = some x := ex
    unfold downD at ex
    rw [List.getElem?_map] at ex
    obtain ⟨j, hj, rfl⟩ := Option.map_eq_some_iff.mp ex
    obtain ⟨h1, h2⟩ := List.getElem?_eq_some_iff.mp hj
    rw [List.length_range] at h1
    rw [List.getElem_range] at h2
    subst h2
    refine ⟨h1, fun v' H' ⟨eH, ev⟩ => ?_⟩
    subst eH ev
    refine ⟨Go.refl, rep, ?_⟩
    rw [show a + ((i : Nat) : Int) * -1 = a - (i : Nat) by omega]
    exact R.int'
  · have e : i = (downD a b).length := e
    unfold downD at e
    rw [List.length_map, List.length_range] at e
    exact Nat.le_of_eq e.symm
theorem i_rngDn (hg : Gl X "range") (hm : X.mg "range" = none) (ha : PA3 X B [e, e2, e3] dr) (hs : starEach [e, e2, e3] X.env = (false, eval e X.env) :: starEach [e2, e3] X.env := by rfl) (hpl : (backTo pos (starEach [e2, e3] X.env)).any (·.1) = false := by rfl) :
    PI3 X B tg (.Call (.Name "range" p) [e, e2, e3] [] pos) (dRngDn dr) := by
  obtain ⟨t, h1, h2⟩ := ha.ex
  refine ⟨_, pi_range3 hg hm h1 hs hpl, fun σ H δ M Q Qd sl rep bb h q => h2 σ H δ M _ _ sl rep bb h fun vs H1 xs M1 g rep1 rs hl h1 => ?_⟩
  clear hl
  split at h1
  · rename_i i j k
    obtain ⟨v, us, rfl, r1, rs⟩ := rs.ucons
    obtain ⟨u, w, rfl, r2, r3⟩ := rs.two_
    obtain ⟨⟨a1, a2, a3, a4, rfl⟩, h1⟩ := h1
    exact ⟨i, j, -1, (i - j).toNat, by rw [r1.int_, r2.int_, r3.int_], RgC.neg a1 a2 a3 a4, q _ H1 _ M1 g rep1 itok_dn h1⟩
  · exact h1.elim
/-- enumerate -/
def enumD (xs : List D) : List D := xs.zipIdx.map fun p => .tup [.int (p.2 : Nat), p.1]
theorem enumD_get {xs : List D} {i : Nat} {y : D} (h : (enumD xs)[i]? = some y) : ∃ x, xs[i]? = some x ∧ y = .tup [.int (i : Nat), x] := by
  unfold enumD at h
  rw [List.getElem?_map, List.getElem?_zipIdx] at h
  obtain ⟨q, hq, rfl⟩ := Option.map_eq_some_iff.mp h
  obtain ⟨x, hx, rfl⟩ := Option.map_eq_some_iff.mp hq
  exact ⟨x, hx, by simp⟩
theorem enumD_len (xs : List D) : (enumD xs).length = xs.length := by unfold enumD; rw [List.length_map, List.length_zipIdx]
def iEnumA (K : PySem.W.Frag) (ta : TA) : TI := fun σ H R => ta σ H fun vs H1 => ∃ a xs, vs = [.ref a] ∧ ((SqL K H1 a xs ∧ R (Ite K a) H1) ∨ (H1 a = some (.tup xs) ∧ R (IteT K a) H1))
theorem pi_enumA {tpos : Pos} {elts : List Expr} {kk : Nat} {ta : TA} (hg : Gl X "enumerate") (hm : X.mg "enumerate" = none) (ha : PA X [e] ta) (hs : starEach [e] X.env = [(false, eval e X.env)] := by rfl) :
    PI X (.Tuple elts kk tpos) (.Call (.Name "enumerate" p) [e] [] pos) (iEnumA X.K ta) := by
  refine ⟨fun pins s σ H Rr I h => ?_⟩
  refine Call_ (ld_blt I hg hm boot_enumerate (PyProof.Rows.callWith_type1 (thn (ha.run pos pins s σ H _ I h) fun us s1 ⟨vs, H1, I1, r1, a, xs, ev, q⟩ => ?_) hs rfl))
  subst ev
  obtain ⟨u, rfl, ru⟩ := vals1 r1
  cases ru
  have two : ∀ b, b ∈ [s1.heap.objs.size + 1, s1.heap.objs.size] → FpOk X pins H1 b := fun b hb => by
    have le : s1.heap.objs.size ≤ b := by
      rcases List.mem_cons.mp hb with z | z
      · rw [z]; exact Nat.le_succ _
      · rw [List.mem_singleton.mp z]; exact Nat.le_refl _
    exact I1.fpOk le (I1.hok.fresh le)
  rcases q with ⟨hq, q⟩ | ⟨hq, q⟩
  · obtain ⟨its, _, pl, _⟩ := I1.list hq
    refine t3_enum_begins (begins_list a its.toArray) pl.isList fun h' he ho hk => wpAny_pyIter_enum he ?_
    exact ⟨_, [s1.heap.objs.size + 1, s1.heap.objs.size], _, _, H1, rfl, I1.kept (t' := s1.toks) hk, turn_enum a _ s1.heap.objs.size, ⟨⟨.none, he⟩, ⟨_, ho, rfl, rfl⟩, Nat.succ_ne_self _⟩, two, q⟩
  · obtain ⟨its, _, tp, _⟩ := I1.tuple (SqT.of hq)
    have lt : a < s1.heap.objs.size := I1.hok.lt hq
    refine t3_enum_begins (begins_tuple a its.toArray) tp fun h' he ho hk => wpAny_pyIter_enum he ?_
    exact ⟨_, [s1.heap.objs.size + 1, s1.heap.objs.size], _, _, H1, rfl, I1.kept (t' := s1.toks) hk, turn_enumT a _ s1.heap.objs.size (Ne.symm (Nat.ne_of_lt (Nat.lt_succ_of_lt lt))) (Nat.ne_of_lt lt), ⟨⟨.none, he⟩, ⟨_, ho, rfl, rfl⟩, Nat.succ_ne_self _⟩, two, q⟩
def dEnumI (dr : DA) : DI := fun δ M Q => dr δ M fun xs M1 => match xs with
  | [.tup ys] => Q ⟨enumD ys, fun _ => True⟩ M1
  | [.ref p] => ∃ ys, LS M1 p ys ∧ Q ⟨enumD ys, fun M => LS M p ys⟩ M1
  | _ => False
theorem pair_ok {K : PySem.W.Frag} {H : Hp} {M : Hd} {T : Addr} {a b : V} {x y : D} (rep : Rep K H M) (hT : H T = none) (ra : R K H x a) (rb : R K H y b) : Go H M (upd H T (.tup [a, b])) M ∧ Rep K (upd H T (.tup [a, b])) M ∧ R K (upd H T (.tup [a, b])) (.tup [x, y]) (.ref T) :=
  rep.newT hT (.cons ra (.cons rb .nil))
theorem i_enum {tpos : Pos} {elts : List Expr} {kk : Nat} (hg : Gl X "enumerate") (hm : X.mg "enumerate" = none) (ha : PA3 X B [e] dr) (hs : starEach [e] X.env = [(false, eval e X.env)] := by rfl) :
    PI3 X B (.Tuple elts kk tpos) (.Call (.Name "enumerate" p) [e] [] pos) (dEnumI dr) := by
  obtain ⟨t, h1, h2⟩ := ha.ex
  refine ⟨_, pi_enumA hg hm h1 hs, fun σ H δ M Q Qd sl rep bb h q => h2 σ H δ M _ _ sl rep bb h fun vs H1 xs M1 g rep1 rs hl h1 => ?_⟩
  clear hl
  split at h1
  · rename_i ys
    obtain ⟨v, rfl, r⟩ := rs.one_
    obtain ⟨a, us, rfl, s, rs'⟩ := r.untup
    refine ⟨a, us, rfl, .inr ⟨s, q _ _ _ _ g rep1 (fun i H M t rep _ => ?_) h1⟩⟩
    have s' := t _ _ s
    have rs2 := rs'.mono t
    refine ⟨fun x ex => ?_, fun e => ⟨us, SqT.of s', by rw [rs2.len, ← enumD_len]; exact e⟩⟩
    obtain ⟨d, ed, rfl⟩ := enumD_get ex
    obtain ⟨v, ev, rv⟩ := rs2.get ed
    refine ⟨⟨us, v, SqT.of s', ev⟩, fun v' H' ⟨T, v2, e1, hT, e2, hy⟩ => ?_⟩
    subst e1 e2
    have e3 := hy us (SqT.of s')
    rw [ev] at e3
    cases e3
    exact pair_ok rep hT R.int' rv
  · rename_i pp
    obtain ⟨v, rfl, r⟩ := rs.one_
    obtain ⟨ys, l, h1⟩ := h1
    obtain ⟨us, s, _⟩ := rep1.ls l
    refine ⟨pp, us, by rw [r.ref_], .inl ⟨s, q _ _ _ _ g rep1 (fun i H M t rep gg => ?_) h1⟩⟩
    obtain ⟨us, s', rs2⟩ := rep.ls gg
    refine ⟨fun x ex => ?_, fun e => ⟨us, s', by rw [rs2.len, ← enumD_len]; exact Nat.le_of_eq e.symm⟩⟩
    obtain ⟨d, ed, rfl⟩ := enumD_get ex
    obtain ⟨v, ev, rv⟩ := rs2.get ed
    refine ⟨⟨us, v, s', ev⟩, fun v' H' ⟨T, v2, e1, hT, e2, hy⟩ => ?_⟩
    subst e1 e2
    have e3 := hy us s'
    rw [ev] at e3
    cases e3
    exact pair_ok rep hT R.int' rv
  · exact h1.elim
/-- zip of two of a kind -/
def zipD (xs ys : List D) : List D := (xs.zip ys).map fun p => .tup [p.1, p.2]
theorem zipD_get {xs ys : List D} {i : Nat} {z : D} (h : (zipD xs ys)[i]? = some z) : ∃ x y, xs[i]? = some x ∧ ys[i]? = some y ∧ z = .tup [x, y] := by
  unfold zipD at h
  rw [List.getElem?_map] at h
  obtain ⟨q, hq, rfl⟩ := Option.map_eq_some_iff.mp h
  obtain ⟨h1, h2⟩ := List.getElem?_zip_eq_some.mp hq
  exact ⟨_, _, h1, h2, rfl⟩
theorem zipD_len (xs ys : List D) : (zipD xs ys).length = min xs.length ys.length := by unfold zipD; rw [List.length_map, List.length_zip]
def dZipI (dr : DA) : DI := fun δ M Q => dr δ M fun xs M1 => match xs with
  | [.tup xs, .tup ys] => Q ⟨zipD xs ys, fun _ => True⟩ M1
  | [.ref p, .ref q] => ∃ xs ys, LS M1 p xs ∧ LS M1 q ys ∧ Q ⟨zipD xs ys, fun M => LS M p xs ∧ LS M q ys⟩ M1
  | _ => False
theorem i_zip {tpos : Pos} {elts : List Expr} {kk : Nat} (hg : Gl X "zip") (hm : X.mg "zip" = none) (ha : PA3 X B [e, e2] dr) (hs : starEach [e, e2] X.env = (false, eval e X.env) :: starEach [e2] X.env := by rfl) (hpl : (backTo pos (starEach [e2] X.env)).any (·.1) = false := by rfl) :
    PI3 X B (.Tuple elts kk tpos) (.Call (.Name "zip" p) [e, e2] [] pos) (dZipI dr) := by
  obtain ⟨t, h1, h2⟩ := ha.ex
  refine ⟨_, RZ.pi_zipA hg hm h1 hs hpl, fun σ H δ M Q Qd sl rep bb h q => h2 σ H δ M _ _ sl rep bb h fun vs H1 xs M1 g rep1 rs hl h1 => ?_⟩
  clear hl
  split at h1
  · rename_i xs ys
    obtain ⟨v, u, rfl, r1, r2⟩ := rs.two_
    obtain ⟨a, us, rfl, s, rs1⟩ := r1.untup
    obtain ⟨b, ws, rfl, s2, rs2⟩ := r2.untup
    refine ⟨a, b, us, ws, rfl, .inr ⟨SqT.of s, SqT.of s2, q _ _ _ _ g rep1 (fun i H M t rep _ => ?_) h1⟩⟩
    have s' := t _ _ s
    have s2' := t _ _ s2
    have k1 := rs1.mono t
    have k2 := rs2.mono t
    refine ⟨fun x ex => ?_, fun e => ⟨us, ws, SqT.of s', SqT.of s2', ?_⟩⟩
    · obtain ⟨d, d', ed, ed', rfl⟩ := zipD_get ex
      obtain ⟨v, ev, rv⟩ := k1.get ed
      obtain ⟨v', ev', rv'⟩ := k2.get ed'
      refine ⟨⟨us, ws, v, v', SqT.of s', SqT.of s2', ev, ev'⟩, fun z H' ⟨T, y1, y2, e1, hT, e2, hy, hy'⟩ => ?_⟩
      subst e1 e2
      have e3 := hy us (SqT.of s')
      have e4 := hy' ws (SqT.of s2')
      rw [ev] at e3
      rw [ev'] at e4
      cases e3
      cases e4
      exact pair_ok rep hT rv rv'
    · have e : i = (zipD xs ys).length := e
      rw [zipD_len] at e
      rw [k1.len, k2.len]
      omega
  · rename_i p1 p2
    obtain ⟨v, u, rfl, r1, r2⟩ := rs.two_
    obtain ⟨xs, ys, l1, l2, h1⟩ := h1
    obtain ⟨us, s, _⟩ := rep1.ls l1
    obtain ⟨ws, s2, _⟩ := rep1.ls l2
    refine ⟨p1, p2, us, ws, by rw [r1.ref_, r2.ref_], .inl ⟨s, s2, q _ _ _ _ g rep1 (fun i H M t rep gg => ?_) h1⟩⟩
    obtain ⟨us, s', k1⟩ := rep.ls gg.1
    obtain ⟨ws, s2', k2⟩ := rep.ls gg.2
    refine ⟨fun x ex => ?_, fun e => ⟨us, ws, s', s2', ?_⟩⟩
    · obtain ⟨d, d', ed, ed', rfl⟩ := zipD_get ex
      obtain ⟨v, ev, rv⟩ := k1.get ed
      obtain ⟨v', ev', rv'⟩ := k2.get ed'
      refine ⟨⟨us, ws, v, v', s', s2', ev, ev'⟩, fun z H' ⟨T, y1, y2, e1, hT, e2, hy, hy'⟩ => ?_⟩
      subst e1 e2
      have e3 := hy us s'
      have e4 := hy' ws s2'
      rw [ev] at e3
      rw [ev'] at e4
      cases e3
      cases e4
      exact pair_ok rep hT rv rv'
    · have e : i = (zipD xs ys).length := e
      rw [zipD_len] at e
      rw [k1.len, k2.len]
      omega
  · exact h1.elim
end
end T3
namespace T3
open PySem PySem.Spec PyProof.Rows L2
/-! ### the reading that a reading over data stands for -/
def tOf (K : PySem.W.Frag) (B : Am) (d : DE) : TE := fun σ H Q => ∃ (δ : DS) (M : Hd) (Qd : DK), Sl K H σ δ ∧ Rep K H M ∧ B.B H M ∧ d δ M Qd ∧ ∀ v H' x M', Go H M H' M' → Rep K H' M' → R K H' x v → Qd x M' → Q v H'
def tOfT (K : PySem.W.Frag) (B : Am) (d : DT) : TT := fun σ H Q => ∃ (δ : DS) (M : Hd) (Qd : Bool → Hd → Prop), Sl K H σ δ ∧ Rep K H M ∧ B.B H M ∧ d δ M Qd ∧ ∀ b H' M', Go H M H' M' → Rep K H' M' → Qd b M' → Q b H'
section
variable {X : Cx} {B : Am}
theorem PE3.can {e : Expr} {d : DE} (h : PE3 X B e d) : PE X e (tOf X.K B d) := by
  obtain ⟨t, h1, h2⟩ := h.ex
  exact ⟨fun pins s σ H Q I ⟨δ, M, Qd, sl, rep, bb, hd, q⟩ => h1.run pins s σ H Q I (h2 σ H δ M Q Qd sl rep bb hd q)⟩
theorem snd_tOf {K : PySem.W.Frag} {d : DE} : SndE K B (tOf K B d) d := fun σ H δ M Q Qd sl rep bb h q => ⟨δ, M, Qd, sl, rep, bb, h, q⟩
theorem snd_tOfT {K : PySem.W.Frag} {d : DT} : SndT K B (tOfT K B d) d := fun σ H δ M Q Qd sl rep bb h q => ⟨δ, M, Qd, sl, rep, bb, h, q⟩
structure PTs3 (X : Cx) (B : Am) (ifs : List Expr) (d : DT) : Prop where
  ex : ∃ t, PTs X ifs t ∧ SndT X.K B t d
theorem PTs3.can {e : List Expr} {d : DT} (h : PTs3 X B e d) : PTs X e (tOfT X.K B d) := by
  obtain ⟨t, h1, h2⟩ := h.ex
  exact ⟨fun pins s σ H Q I ⟨δ, M, Qd, sl, rep, bb, hd, q⟩ => h1.run pins s σ H Q I (h2 σ H δ M Q Qd sl rep bb hd q)⟩
def dYes : DT := fun _ M Q => Q true M
theorem ts_nil : PTs3 X B [] dYes := ⟨_, pts_nil, fun σ H δ M Q Qd sl rep bb h q => q _ _ _ Go.refl rep h⟩
theorem ts_one {c : Expr} {d : DT} (h : PT3 X B c d) : PTs3 X B [c] d := by
  obtain ⟨t, h1, h2⟩ := h.ex
  exact ⟨_, pts_one h1, h2⟩
/-! ### for, while -/
def dFor (di : DI) (g : Tg) (tb : DSt) : DSt := fun En δ M => di δ M fun W M1 => ∃ P : List D → DS → Hd → Prop, P [] δ M1 ∧
  (∀ pre x post δ' M', W.xs = pre ++ x :: post → P pre δ' M' → W.G M' ∧ dTg g x δ' fun δ2 =>
    tb { En with nx := fun δ3 M3 => ∃ M4, Sub M3 M4 ∧ P (pre ++ [x]) δ3 M4, ct := fun δ3 M3 => ∃ M4, Sub M3 M4 ∧ P (pre ++ [x]) δ3 M4, bk := En.nx } δ2 M') ∧
  ∀ δ' M', P W.xs δ' M' → W.G M' ∧ En.nx δ' M'
variable {tg iter e : Expr} {body : List Stmt} {di : DI} {g : Tg} {tb : DSt} {pos : Pos}
theorem s_for (hp : PassesOwn (model X.prog X.w) X.A X.env X.xe) (hc : X.calm = true) (hi : PI3 X B tg iter di) (hg : PG3 X tg g) (hb : PB3 X B body tb) (hs : ∀ x, foldedSetIterable iter X.env x = pure x := by intro _; rfl) :
    PS3 X B (.For tg iter body [] pos) (dFor di g tb) := by
  obtain ⟨ti, i1, i2⟩ := hi.ex
  obtain ⟨t, b1, b2⟩ := hb.ex
  refine ⟨_, ps_for hp hc i1 hg.ex b1 hs, fun σ H δ M D Dd sl rep bb q eo => i2 σ H δ M _ _ sl rep bb q fun J H1 W M1 g1 rep1 ok ⟨P, p0, turn, fin⟩ => ?_⟩
  have sl1 := sl.mono (rep.tx g1)
  have bb1 := B.pres _ _ _ _ g1 bb
  have eo1 := eo.mono g1
  refine ⟨fun i m σ' H' => ∃ pre post δ' M', W.xs = pre ++ post ∧ pre.length = i ∧ m = post.length ∧ Sl X.K H' σ' δ' ∧ Rep X.K H' M' ∧ Go H1 M1 H' M' ∧ P pre δ' M', ⟨_, [], W.xs, δ, M1, rfl, rfl, rfl, sl1, rep1, Go.refl, p0⟩, ?_⟩
  rintro i m σ' H' ⟨pre, post, δ', M', ex, rfl, rfl, sl', rep', g', p⟩
  cases post with
  | nil =>
    rw [List.append_nil] at ex
    subst ex
    obtain ⟨gg, nx⟩ := fin δ' M' p
    exact .inl ⟨(ok _ H' M' (rep1.tx g') rep' gg).2 rfl, eo1.nx _ _ _ _ g' sl' rep' nx⟩
  | cons x post =>
    obtain ⟨gg, h⟩ := turn pre x post δ' M' ex p
    have at_ : W.xs[pre.length]? = some x := by rw [ex]; simp
    obtain ⟨go, yld⟩ := (ok _ H' M' (rep1.tx g') rep' gg).1 x at_
    refine .inr ⟨go, fun σ2 H2 => ∃ δ2 M2, Sl X.K H2 σ2 δ2 ∧ Rep X.K H2 M2 ∧ Go H1 M1 H2 M2 ∧ P (pre ++ [x]) δ2 M2, fun σ2 H2 ⟨δ2, M2, a, b, c, d⟩ => ⟨post.length, Nat.lt_succ_self _, pre ++ [x], post, δ2, M2, by rw [ex]; simp, by simp, rfl, a, b, c, d⟩, fun v H2 y => ?_⟩
    obtain ⟨g2, rep2, rv⟩ := yld v H2 y
    have g12 := g'.trans g2
    refine tg_run g (M := M') (sl'.mono (rep'.tx g2)) rv h fun σ3 δ3 sl3 h3 _ => ?_
    have back : ∀ σ4 H4 δ4 M4, Go H2 M' H4 M4 → Sl X.K H4 σ4 δ4 → Rep X.K H4 M4 → (∃ M5, Sub M4 M5 ∧ P (pre ++ [x]) δ4 M5) → ∃ δ2 M2, Sl X.K H4 σ4 δ2 ∧ Rep X.K H4 M2 ∧ Go H1 M1 H4 M2 ∧ P (pre ++ [x]) δ2 M2 := fun σ4 H4 δ4 M4 g4 sl4 rep4 ⟨M5, sb, p5⟩ =>
      ⟨δ4, M5, sl4, (sb.fgt (K := X.K)).1 _ rep4, (g12.trans g4).trans (sb.fgt (K := X.K)).go, p5⟩
    exact b2 σ3 H2 δ3 M' _ _ sl3 rep2 (B.pres _ _ _ _ g12 bb1) h3 ⟨fun a b c d => back a b c d, fun a b c d e => eo1.rt a b c d (g12.trans e), fun a b c d e => eo1.nx a b c d (g12.trans e), fun a b c d => back a b c d⟩
def dWhile (c : DT) (tb : DSt) : DSt := fun D δ M => ∃ P : Nat → DS → Hd → Prop, (∃ m, P m δ M) ∧ ∀ m δ' M', P m δ' M' → c δ' M' fun b M1 =>
  (b = true → tb { D with nx := fun δ3 M3 => ∃ M4 m', Sub M3 M4 ∧ m' < m ∧ P m' δ3 M4, ct := fun δ3 M3 => ∃ M4 m', Sub M3 M4 ∧ m' < m ∧ P m' δ3 M4, bk := D.nx } δ' M1) ∧ (b = false → D.nx δ' M1)
theorem s_while {c : Expr} {dc : DT} (hp : PassesOwn (model X.prog X.w) X.A X.env X.xe) (hc : PT3 X B c dc) (hb : PB3 X B body tb) : PS3 X B (.While c body [] pos) (dWhile dc tb) := by
  obtain ⟨tc, c1, c2⟩ := hc.ex
  obtain ⟨t, b1, b2⟩ := hb.ex
  refine ⟨_, ps_while hp c1 b1, fun σ H δ M D Dd sl rep bb ⟨P, ⟨m0, p0⟩, turn⟩ eo => ?_⟩
  refine ⟨fun m σ' H' => ∃ δ' M', Sl X.K H' σ' δ' ∧ Rep X.K H' M' ∧ Go H M H' M' ∧ P m δ' M', ⟨m0, δ, M, sl, rep, Go.refl, p0⟩, ?_⟩
  rintro m σ' H' ⟨δ', M', sl', rep', g', p⟩
  refine c2 σ' H' δ' M' _ _ sl' rep' (B.pres _ _ _ _ g' bb) (turn m δ' M' p) fun b H1 M1 g1 rep1 ⟨q1, q2⟩ => ?_
  have g01 := g'.trans g1
  have sl1 := sl'.mono (rep'.tx g1)
  cases b with
  | false => exact iteF (eo.nx _ _ _ _ g01 sl1 rep1 (q2 rfl))
  | true =>
    refine iteT ⟨fun σ2 H2 => ∃ δ2 M2 m', Sl X.K H2 σ2 δ2 ∧ Rep X.K H2 M2 ∧ Go H M H2 M2 ∧ m' < m ∧ P m' δ2 M2, fun σ2 H2 ⟨δ2, M2, m', a, b, c, d, e⟩ => ⟨m', d, δ2, M2, a, b, c, e⟩, ?_⟩
    have back : ∀ σ4 H4 δ4 M4, Go H1 M1 H4 M4 → Sl X.K H4 σ4 δ4 → Rep X.K H4 M4 → (∃ M5 m', Sub M4 M5 ∧ m' < m ∧ P m' δ4 M5) → ∃ δ2 M2 m', Sl X.K H4 σ4 δ2 ∧ Rep X.K H4 M2 ∧ Go H M H4 M2 ∧ m' < m ∧ P m' δ2 M2 := fun σ4 H4 δ4 M4 g4 sl4 rep4 ⟨M5, m', sb, lt, p5⟩ =>
      ⟨δ4, M5, m', sl4, (sb.fgt (K := X.K)).1 _ rep4, (g01.trans g4).trans (sb.fgt (K := X.K)).go, lt, p5⟩
    exact b2 σ' H1 δ' M1 _ _ sl1 rep1 (B.pres _ _ _ _ g01 bb) (q1 rfl) ⟨fun a b c d => back a b c d, fun a b c d e => eo.rt a b c d (g01.trans e), fun a b c d e => eo.nx a b c d (g01.trans e), fun a b c d => back a b c d⟩
/-! ### list comprehensions -/
theorem Rep.hid {K : PySem.W.Frag} {H : Hp} {M : Hd} (rep : Rep K H M) {p : Addr} {u u' : HO} (n : M p = none) (h : H p = some u) (nt : NotTup u) : Rep K (upd H p u') M := fun a o e =>
  (rep a o e).stay (tx_put h nt) (fun b v hb hv => by
    have : b ≠ p := by
      rintro rfl
      rcases hb with hb | hb
      · rw [← hb, n] at e; cases e
      · rw [n] at hb; cases hb
    rw [upd_ne this]; exact hv) fun _ _ hb => hb
theorem Rep.shw {K : PySem.W.Frag} {H : Hp} {M : Hd} (rep : Rep K H M) {p : Addr} {vs : List V} {xs : List D} (n : M p = none) (h : H p = some (.lst vs)) (rs : Rs K H xs vs) : Rep K H (up M p (.lst xs)) := fun a o e => by
  by_cases z : a = p
  · subst z
    rw [up_same] at e
    cases e
    exact ⟨vs, h, rs⟩
  · rw [up_ne z] at e
    refine (rep a o e).stay Tx.refl (fun _ _ _ q => q) fun b c hb => ?_
    have : b ≠ p := by rintro rfl; rw [n] at hb; cases hb
    rw [up_ne this]; exact hb
def dLc (di : DI) (g : Tg) (dt : DT) (de : DE) (vs : List Nat) : DE := fun δ M Q => di δ M fun W M1 => W.xs.length ≤ sizeLine ∧ ∃ P : List D → List D → Hd → Prop, P [] [] M1 ∧
  (∀ pre x post acc M', W.xs = pre ++ x :: post → P pre acc M' → W.G M' ∧ dTg g x (wipeD δ vs) fun δ2 => dt δ2 M' fun b M2 =>
    (b = true → de δ2 M2 fun y M3 => ∃ M4, Sub M3 M4 ∧ P (pre ++ [x]) (acc ++ [y]) M4) ∧ (b = false → ∃ M4, Sub M2 M4 ∧ P (pre ++ [x]) acc M4)) ∧
  ∀ acc M', P W.xs acc M' → W.G M' ∧ ∀ p, M' p = none → Q (.ref p) (up M' p (.lst acc))
theorem wipe_sn {i : Nat} : ∀ (vs : List Nat) (σ : L2.St), (L2.wipe (σ.set i none) vs).set i none = (L2.wipe σ vs).set i none
  | [], σ => by show (σ.set i none).set i none = σ.set i none; rw [List.set_set]
  | k :: vs, σ => by
    show ((L2.wipe (σ.set i none) vs).set k none).set i none = ((L2.wipe σ vs).set k none).set i none
    by_cases e : k = i
    · subst e
      rw [List.set_set, List.set_set, wipe_sn vs σ]
    · rw [List.set_comm _ _ e, wipe_sn vs σ, List.set_comm _ _ e]
theorem wipe_wipe (σ : L2.St) : ∀ vs : List Nat, L2.wipe (L2.wipe σ vs) vs = L2.wipe σ vs
  | [] => rfl
  | k :: vs => by
    show (L2.wipe ((L2.wipe σ vs).set k none) vs).set k none = (L2.wipe σ vs).set k none
    rw [wipe_sn, wipe_wipe σ vs]
theorem snd_lc {K : PySem.W.Frag} {wi : TI} {tt : TT} {te : TE} {dt : DT} {de : DE} {vs : List Nat} (hi : SndI K B wi di) (ht : SndT K B tt dt) (he : SndE K B te de) (hv : ∀ i ∈ g.ix, i ∈ vs) : SndE K B (tLc wi (g.L K) tt te vs) (dLc di g dt de vs) := by
  intro σ H δ M Q Qd sl rep bb q k
  refine hi σ H δ M _ _ sl rep bb q fun J H1 W M1 g1 rep1 ok ⟨hz, P, p0, turn, fin⟩ Da hDa => ?_
  have sl1 := sl.mono (rep.tx g1)
  have bb1 := B.pres _ _ _ _ g1 bb
  have nD : M1 Da = none := rep1.free hDa
  refine ⟨fun i m H' => ∃ pre post acc us M', W.xs = pre ++ post ∧ pre.length = i ∧ m = post.length ∧ acc.length ≤ pre.length ∧ Rep K H' M' ∧ M' Da = none ∧ H' Da = some (.lst us) ∧ Rs K H' acc us ∧ Go H1 M1 H' M' ∧ P pre acc M',
    ⟨_, [], W.xs, [], [], M1, rfl, rfl, rfl, Nat.le_refl _, rep1.tup hDa, nD, upd_same, .nil, go_tup hDa, p0⟩, ?_⟩
  rintro i m H' ⟨pre, post, acc, us, M', ex, rfl, rfl, hl, rep', nD', hD', rs', g', p⟩
  cases post with
  | nil =>
    rw [List.append_nil] at ex
    subst ex
    obtain ⟨gg, nx⟩ := fin acc M' p
    refine .inl ⟨(ok _ H' M' (rep1.tx g') rep' gg).2 rfl, ?_⟩
    refine k (.ref Da) H' _ (up M' Da (.lst acc)) ?_ (rep'.shw nD' hD' rs') R.ref' (nx Da nD')
    intro a u ha na
    obtain ⟨ha1, na1⟩ := g1 a u ha na
    obtain ⟨ha2, na2⟩ := g' a u ha1 na1
    have : a ≠ Da := ne_of_none ha1 hDa
    exact ⟨ha2, by rw [up_ne this]; exact na2⟩
  | cons x post =>
    obtain ⟨gg, h⟩ := turn pre x post acc M' ex p
    have at_ : W.xs[pre.length]? = some x := by rw [ex]; simp
    have lt : acc.length < sizeLine := by
      have : W.xs.length = pre.length + (post.length + 1) := by rw [ex]; simp
      omega
    obtain ⟨go, yld⟩ := (ok _ H' M' (rep1.tx g') rep' gg).1 x at_
    refine .inr ⟨go, fun H2 => ∃ acc2 us2 M2, acc2.length ≤ pre.length + 1 ∧ Rep K H2 M2 ∧ M2 Da = none ∧ H2 Da = some (.lst us2) ∧ Rs K H2 acc2 us2 ∧ Go H1 M1 H2 M2 ∧ P (pre ++ [x]) acc2 M2,
      fun H2 ⟨acc2, us2, M2, a, b, c, d, e, f, pp⟩ => ⟨post.length, Nat.lt_succ_self _, pre ++ [x], post, acc2, us2, M2, by rw [ex]; simp, by simp, rfl, by simpa using a, b, c, d, e, f, pp⟩, fun v H2 y => ?_⟩
    obtain ⟨g2, rep2, rv⟩ := yld v H2 y
    have g12 := g'.trans g2
    obtain ⟨hD2, _⟩ := g2 Da _ hD' nD'
    have rs2 := rs'.mono (rep'.tx g2)
    have slw := (sl1.mono (rep1.tx g12)).wipe vs
    refine tg_run g (M := M') slw rv h fun σ3 δ3 sl3 h3 hw => ⟨(hw vs hv).trans (wipe_wipe σ vs), ?_⟩
    refine ht σ3 H2 δ3 M' _ _ sl3 rep2 (B.pres _ _ _ _ g12 bb1) h3 fun b H3 M3 g3 rep3 ⟨q1, q2⟩ => ?_
    have g13 := g12.trans g3
    obtain ⟨hD3, nD3⟩ := g3 Da _ hD2 nD'
    have rs3 := rs2.mono (rep2.tx g3)
    cases b with
    | false =>
      obtain ⟨M4, sb, p4⟩ := q2 rfl
      exact iteF ⟨acc, us, M4, by omega, (sb.fgt (K := K)).1 _ rep3, sb.free nD3, hD3, rs3, g13.trans (sb.fgt (K := K)).go, p4⟩
    | true =>
      refine iteT (he σ3 H3 δ3 M3 _ _ (sl3.mono (rep2.tx g3)) rep3 (B.pres _ _ _ _ g13 bb1) (q1 rfl) fun v4 H4 x4 M4 g4 rep4 r4 ⟨M5, sb, p5⟩ => ?_)
      obtain ⟨hD4, nD4⟩ := g4 Da _ hD3 nD3
      have rs4 := rs3.mono (rep3.tx g4)
      have t5 : Tx K H4 (upd H4 Da (.lst (us ++ [v4]))) := tx_put hD4 trivial
      refine ⟨us, hD4, by rw [rs4.len]; exact lt, acc ++ [x4], us ++ [v4], M5, by simp; omega, (sb.fgt (K := K)).1 _ (rep4.hid nD4 hD4 trivial), sb.free nD4, upd_same, (rs4.mono t5).app (.one (r4.mono t5)), ?_, p5⟩
      intro a u ha na
      obtain ⟨h1, n1⟩ := (g13.trans g4) a u ha na
      have : a ≠ Da := ne_of_none ha hDa
      exact ⟨by rw [upd_ne this]; exact h1, sb.free n1⟩
theorem e_lc {elt : Expr} {ifs : List Expr} {scope : Scope} {own : List (Str × Nat)} {dt : DT} {de : DE} (hc : X.calm = true) (hN : X.N.Nodup) (hi : PI3 X B tg iter di) (ok : BlkOk X.N X.env.scope scope own)
    (hg : ∀ (s : Shared) (H : Hp) (C : Addr) (cl : List (Str × Addr)) (fp : List Addr), PG3 (X.blk s H scope (compEnvC scope cl C X.env) fp) tg g) (ht : ∀ (s : Shared) (H : Hp) (C : Addr) (cl : List (Str × Addr)) (fp : List Addr), PTs3 (X.blk s H scope (compEnvC scope cl C X.env) fp) B ifs dt)
    (he : ∀ (s : Shared) (H : Hp) (C : Addr) (cl : List (Str × Addr)) (fp : List Addr), PE3 (X.blk s H scope (compEnvC scope cl C X.env) fp) B elt de) (hv : ∀ i ∈ g.ix, i ∈ own.map (·.2) := by decide) (hs : ∀ x, foldedSetIterable iter X.env x = pure x := by intro _; rfl) :
    PE3 X B (.ListComp elt [⟨tg, iter, ifs, 0⟩] scope pos) (dLc di g dt de (own.map (·.2))) := by
  obtain ⟨ti, i1, i2⟩ := hi.ex
  exact ⟨_, pe_lc (g := g.L X.K) (tt := tOfT X.K B dt) (te := tOf X.K B de) hc hN i1 ok (fun s H C cl fp => (hg s H C cl fp).ex) (fun s H C cl fp => (ht s H C cl fp).can) (fun s H C cl fp => (he s H C cl fp).can) hs, snd_lc i2 snd_tOfT snd_tOf hv⟩
theorem s_setLc (i : Nat) {y : Str} {py : Pos} {elt : Expr} {ifs : List Expr} {scope : Scope} {own : List (Str × Nat)} {spos : Pos} {dt : DT} {de : DE} (hc : X.calm = true) (hN : X.N.Nodup)
    (hsw : swapsWith (.ListComp elt [⟨tg, iter, ifs, 0⟩] scope pos) (some (.Name y py)) spos.line X.env = pure true) (hi : PI3 X B tg iter di) (ok : BlkOk X.N X.env.scope scope own)
    (hg : ∀ (s : Shared) (H : Hp) (C : Addr) (cl : List (Str × Addr)) (fp : List Addr), PG3 (X.blk s H scope (compEnvC scope cl C X.env) fp) tg g) (ht : ∀ (s : Shared) (H : Hp) (C : Addr) (cl : List (Str × Addr)) (fp : List Addr), PTs3 (X.blk s H scope (compEnvC scope cl C X.env) fp) B ifs dt)
    (he : ∀ (s : Shared) (H : Hp) (C : Addr) (cl : List (Str × Addr)) (fp : List Addr), PE3 (X.blk s H scope (compEnvC scope cl C X.env) fp) B elt de) (hy : X.N[i]? = some y := by rfl) (hyl : X.env.scope.names.lookup y = some .local := by rfl) (hv : ∀ i ∈ g.ix, i ∈ own.map (·.2) := by decide) (hs : ∀ x, foldedSetIterable iter X.env x = pure x := by intro _; rfl) :
    PS3 X B (.Assign [.Name y py] (.ListComp elt [⟨tg, iter, ifs, 0⟩] scope pos) spos) (dSet i (dLc di g dt de (own.map (·.2)))) := by
  obtain ⟨ti, i1, i2⟩ := hi.ex
  refine ⟨_, ps_setLc (g := g.L X.K) (tt := tOfT X.K B dt) (te := tOf X.K B de) hc hN hy hyl hsw i1 ok (fun s H C cl fp => (hg s H C cl fp).ex) (fun s H C cl fp => (ht s H C cl fp).can) (fun s H C cl fp => (he s H C cl fp).can) hs, fun σ H δ M D Dd sl rep bb q eo => ?_⟩
  exact snd_lc i2 snd_tOfT snd_tOf hv σ H δ M _ _ sl rep bb q fun v H' x M' g rep' r q' => eo.nx _ _ _ _ g ((sl.mono (rep.tx g)).set i r) rep' q'
/-! ### dict comprehensions -/
theorem Rep.shwK {K : PySem.W.Frag} {H : Hp} {M : Hd} (rep : Rep K H M) {p : Addr} {ws : List (Key × V)} {kvs : List (Key × D)} (n : M p = none) (h : H p = some (.dK ws)) (rs : RK K H kvs ws) : Rep K H (up M p (.dK kvs)) := fun a o e => by
  by_cases z : a = p
  · subst z
    rw [up_same] at e
    cases e
    exact ⟨ws, h, rs⟩
  · rw [up_ne z] at e
    refine (rep a o e).stay Tx.refl (fun _ _ _ q => q) fun b c hb => ?_
    have : b ≠ p := by rintro rfl; rw [n] at hb; cases hb
    rw [up_ne this]; exact hb
/-! ### own defs -/
abbrev DX := Value → List (Str × D) → Hd → Prop
abbrev DSp := List D → Hd → DK → DX → Prop
def XR (K : PySem.W.Frag) (H : Hp) (d : Option Addr) (fs : List (Str × D)) : Prop := (d = none ∧ fs = []) ∨ ∃ a ws, d = some a ∧ fs ≠ [] ∧ H a = some (.xd ws) ∧ RK K H fs ws
def lift (K : PySem.W.Frag) (S : DSp) : Sp := fun vs H Q E => ∃ (ds : List D) (M : Hd) (Qd : DK) (Ed : DX), Rs K H ds vs ∧ Rep K H M ∧ S ds M Qd Ed ∧ (∀ v H' x M', Go H M H' M' → Rep K H' M' → R K H' x v → Qd x M' → Q v H') ∧
  ∀ c d H' fs M', Go H M H' M' → Rep K H' M' → XR K H' d fs → Ed c fs M' → E c d H'
def dCall (S : DSp) (dr : DA) : DE := fun δ M Q => dr δ M fun xs M1 => S xs M1 Q fun _ _ _ => False
variable {CX : CXT} {k : Nat} {f : Addr} {fd : FuncData} {ps : List Str} {S : DSp} {x : Str} {p : Pos} {es : List Expr} {dr : DA}
theorem snd_call {K : PySem.W.Frag} {n : Nat} {ta : TA} {E : XK} (h : SndA K B n ta dr) : SndE K B (tCall (lift K S) [] E ta) (dCall S dr) := fun σ H δ M Q Qd sl rep bb q kk =>
  h σ H δ M _ _ sl rep bb q fun vs H1 xs M1 g rep1 rs _ q1 => ⟨xs, M1, Qd, _, by rw [List.append_nil]; exact rs, rep1, q1, fun v H' x M' g' => kk v H' x M' (g.trans g'), fun _ _ _ _ _ _ _ _ z => z.elim⟩
theorem e_call (F : FnOk X.prog X.w X.K X.mg X.base CX k f fd ps (lift X.K S)) (hr : Room k X.A) (hg : Gl X x) (hm : X.mg x = some (.ref f)) (hk : PySem.W.keepIn X.K (.ref f) = true) (hb : Binds X.K fd ps []) (hx : Passes CX X E0) (ha : PA3 X B (e :: es) dr)
    (hdb : (x == ("__debug__" : Str)) = false := by decide) (he : starEach (e :: es) X.env = (false, eval e X.env) :: starEach es X.env := by rfl) (hpl : (backTo pos (starEach es X.env)).any (·.1) = false := by rfl) :
    PE3 X B (.Call (.Name x p) (e :: es) [] pos) (dCall S dr) := by
  obtain ⟨t, a1, a2⟩ := ha.ex
  exact ⟨_, pe_call F hr hg hm hk hb .nil hx a1 hdb he hpl, snd_call a2⟩
theorem e_call0 (F : FnOk X.prog X.w X.K X.mg X.base CX k f fd ps (lift X.K S)) (hr : Room k X.A) (hg : Gl X x) (hm : X.mg x = some (.ref f)) (hk : PySem.W.keepIn X.K (.ref f) = true) (hb : Binds X.K fd ps []) (hx : Passes CX X E0)
    (hdb : (x == ("__debug__" : Str)) = false := by decide) : PE3 X B (.Call (.Name x p) [] [] pos) (dCall S dNil) :=
  ⟨_, pe_call0 F hr hg hm hk hb .nil hx hdb, snd_call (n := 0) fun σ H δ M Q Qd sl rep bb h q => q [] H [] M Go.refl rep .nil rfl h⟩
end
section
variable {P : Program} {w : World} {K : PySem.W.Frag} {mg : Str → Option Value} {base : Heap}
/-- THE RULE for a def that lets nothing out -/
theorem fun3 {x qual : Str} {st : Stmt} {f : Addr} {fd : FuncData} {N ps : List Str} {k : Nat} {S : DSp} {d : DSt} (F : Fun K x qual st f fd) (Sc : FnScope N ps (defScope st)) (hn : ∀ ds M Q E, S ds M Q E → ds.length = ps.length)
    (hb : ∀ (cdv : Value) (A : Around) (outer : List Env) (s : Shared) (H : Hp) (E : XK), Room k (A.deeper (envOfC qual (defScope st) s.heap.objs.size f cdv)) → PB3 (cxOf CX0 P w K mg base N qual (defScope st) f cdv A outer s H E).nox Am.no (defBody st) d)
    (hd : ∀ ds M Q E, S ds M Q E → ∀ H, Rep K H M → ∃ M1, Rep K H M1 ∧ (∀ a, M a = none → M1 a = none) ∧
      d { nx := fun _ M' => ∃ M2, Fgt K M' M2 ∧ Q .non M2, rt := fun v M' => ∃ M2, Fgt K M' M2 ∧ Q v M2 } (startD N.length ds) M1) : FnOk P w K mg base CX0 (k + 1) f fd ps (lift K S) := by
  refine F.ok Sc (fun vs H Q E h => ?_) (fun cdv A outer s H vs Q E hr h => ?_)
  · obtain ⟨ds, M, Qd, Ed, rs, _, hs, _⟩ := h
    rw [rs.len]
    exact hn _ _ _ _ hs
  · obtain ⟨ds, M, Qd, Ed, rs, rep, hs, q, _⟩ := h
    obtain ⟨M1, rep1, dom, hd⟩ := hd ds M Qd Ed hs H rep
    obtain ⟨t, h1, h2⟩ := (hb cdv A outer s H E hr).ex
    have g01 : Go H M H M1 := fun a u ha na => ⟨ha, dom a na⟩
    refine ⟨t, h1, h2 _ H _ M1 _ _ (Sl.start rs) rep1 trivial hd ⟨fun σ' H' δ' M' g _ rep' ⟨M2, fg, q'⟩ => ?_, fun v H' x M' g rep' r ⟨M2, fg, q'⟩ => ?_, fun _ _ _ _ _ _ _ z => z.elim, fun _ _ _ _ _ _ _ z => z.elim⟩⟩
    · exact q _ _ _ M2 ((g01.trans g).trans fg.go) (fg.1 _ rep') R.non' q'
    · exact q _ _ _ M2 ((g01.trans g).trans fg.go) (fg.1 _ rep') r q'
end
end T3
/-! list.extend of a tuple, as the layer has it of a list -/
namespace PySem
theorem t3_extend_tup (l : Addr) (xs : Array Value) (n : Nat) (b : Addr) (ys : Array Value) (m : Nat) (dd : Option Addr) (sl : Array (Option Value)) (h0 : ¬(!xs.isEmpty && Builtin.List.listTooLong (xs.size + ys.size)) = true) (h1 : xs.size ≤ sizeLine) (h2 : xs.size + ys.size ≤ sizeLine + 1) :
    Meets (Builtin.«list.extend» ⟨[.ref l, .ref b], []⟩) (fun _ Rr z => z.heap.get? l = some { cls := .type "list", dict := none, data := .seq xs n, slots := #[] } ∧ z.heap.get? b = some { cls := .type "tuple", dict := dd, data := .seq ys m, slots := sl } ∧
      Rr (.ok (.ret Value.none)) { z with heap := z.heap.update l (Obj.mapSeq fun x => x ++ ys), toks := z.toks }) :=
  .of_wp fun pr wo Ar Rr z hz => by
    obtain ⟨hp, g, d, tk, os⟩ := z
    obtain ⟨hl, hb, hz⟩ := hz
    have q1 := AutoSeq1.idx_int
    have q2 := AutoSeq1.sub_tuple_tuple
    have q3 := AutoSeq1.sub_list_list
    have q4 := AutoSeq1.sub_tuple_list
    have q5 := AutoSeq1.sub_list_tuple
    have big : (xs ++ ys).size ≤ sizeLine + 1 := by rw [Array.size_append]; exact h2
    wp_walk using (wpAny_updateSeq hl rfl (hz := h1) (_hz' := big)), AutoSeq1.wpAny_loadPart' hl, AutoSeq1.wpAny_loadPart' hb
    exact ⟨_, rfl, hz⟩
end PySem
namespace T3
open PySem PySem.Spec PyProof.Rows L2
section
variable {X : Cx} {B : Am} {o e i : Expr} {es : List Expr} {do_ de di : DE} {dr : DA} {pos : Pos}
/-! ### methods of lists -/
abbrev DM := D → List D → Hd → DK → Prop
structure MtD (X : Cx) (id : String) (rd : DM) : Prop where
  ex : ∃ r, MtR X id r ∧ ∀ (H : Hp) (M : Hd) (x : D) (v : V) (xs : List D) (vs : List V) (Q : VK) (Qd : DK), Rep X.K H M → R X.K H x v → Rs X.K H xs vs → rd x xs M Qd →
    (∀ v' H' x' M', Go H M H' M' → Rep X.K H' M' → R X.K H' x' v' → Qd x' M' → Q v' H') → r v vs H Q
def dLM (rd : DM) (do_ : DE) (dr : DA) : DE := fun δ M Q => do_ δ M fun x M1 => (∃ p xs, x = .ref p ∧ LS M1 p xs) ∧ dr δ M1 fun ys M2 => rd x ys M2 Q
theorem snd_lm {id : String} {rd : DM} {to : TE} {t : TA} {n : Nat} {r : V → List V → Hp → VK → Prop} (ho : SndE X.K B to do_) (ha : SndA X.K B n t dr)
    (hr : ∀ (H : Hp) (M : Hd) (x : D) (v : V) (xs : List D) (vs : List V) (Q : VK) (Qd : DK), Rep X.K H M → R X.K H x v → Rs X.K H xs vs → rd x xs M Qd → (∀ v' H' x' M', Go H M H' M' → Rep X.K H' M' → R X.K H' x' v' → Qd x' M' → Q v' H') → r v vs H Q) :
    SndE X.K B (tBM X.K "list" r to t) (dLM rd do_ dr) := fun σ H δ M Q Qd sl rep bb q k => by
  refine ho σ H δ M _ _ sl rep bb q fun v H1 x M1 g1 rep1 r1 ⟨⟨p, xs, ex, l⟩, q1⟩ => ?_
  subst ex
  obtain ⟨us, s, _⟩ := rep1.ls l
  refine ⟨by rw [r1.ref_]; exact .inl ⟨rfl, us, s⟩, ?_⟩
  refine ha σ H1 δ M1 _ _ (sl.mono (rep.tx g1)) rep1 (B.pres _ _ _ _ g1 bb) q1 fun vs H2 ys M2 g2 rep2 rs _ q2 => ?_
  exact hr H2 M2 _ v ys vs Q Qd rep2 (r1.mono (rep1.tx g2)) rs q2 fun v' H' x' M' g' => k v' H' x' M' ((g1.trans g2).trans g')
theorem e_lm {name : Str} {id : String} {rd : DM} {apos cpos : Pos} (slot : PySem.Slot "list" name id) (hty : typeOf (.builtin id) = pure (.type "method_descriptor")) (hm : MtD X id rd) (ho : PE3 X B o do_) (ha : PA3 X B (e :: es) dr)
    (hbase : attributeBase o name X.env (eval o X.env) = eval o X.env := by rfl)
    (hfew : ((backTo cpos (starEach (e :: es) X.env)).all (fun x => !x.1) && (backToKw cpos (keywordEach [] X.env)).all (fun x => x.1.isSome)
      && decide ((e :: es).length + ([] : List Keyword).length + (if ([] : List Keyword).isEmpty then 0 else 1) < 30)) = true := by rfl)
    (hline : (apos.endLine == cpos.line) = true := by rfl) (hs : starEach (e :: es) X.env = (false, eval e X.env) :: starEach es X.env := by rfl) (hplain : (backTo cpos (starEach es X.env)).any (·.1) = false := by rfl) :
    PE3 X B (.Call (.Attribute o name apos) (e :: es) [] cpos) (dLM rd do_ dr) := by
  obtain ⟨r, r1, r2⟩ := hm.ex
  obtain ⟨to, o1, o2⟩ := ho.ex
  obtain ⟨t, a1, a2⟩ := ha.ex
  exact ⟨_, pe_bm PySem.F.plainAttrs_list slot hty r1 o1 a1 hbase hfew hline hs hplain, snd_lm (id := id) o2 a2 r2⟩
theorem e_lm0 {name : Str} {id : String} {rd : DM} {apos cpos : Pos} (slot : PySem.Slot "list" name id) (hty : typeOf (.builtin id) = pure (.type "method_descriptor")) (hm : MtD X id rd) (ho : PE3 X B o do_)
    (hbase : attributeBase o name X.env (eval o X.env) = eval o X.env := by rfl) (hline : (apos.endLine == cpos.line) = true := by rfl) : PE3 X B (.Call (.Attribute o name apos) [] [] cpos) (dLM rd do_ dNil) := by
  obtain ⟨r, r1, r2⟩ := hm.ex
  obtain ⟨to, o1, o2⟩ := ho.ex
  refine ⟨_, pe_bm0 PySem.F.plainAttrs_list slot hty r1 o1 hbase hline, ?_⟩
  exact snd_lm (id := id) (t := tNil) (n := 0) o2 (fun σ H δ M Q Qd sl rep bb h q => q [] H [] M Go.refl rep .nil rfl h) r2
def dAppend : DM := fun x ys M Q => match x, ys with
  | .ref p, [y] => ∃ xs, M p = some (.lst xs) ∧ xs.length < sizeLine ∧ Q .non (up M p (.lst (xs ++ [y])))
  | _, _ => False
theorem m_append : MtD X "list.append" dAppend := by
  refine ⟨_, mt_append, fun H M x v xs vs Q Qd rep r rs h q => ?_⟩
  unfold dAppend at h
  split at h
  · rename_i p y
    obtain ⟨xs, l, hz, h⟩ := h
    obtain ⟨u, rfl, ru⟩ := rs.one_
    obtain ⟨us, s, rs'⟩ := rep.lst l
    obtain ⟨g, rep'⟩ := rep.putL l (rs'.app (.one ru))
    exact ⟨p, us, u, r.ref_, rfl, s, by rw [rs'.len]; exact hz, q _ _ _ _ g rep' R.non' h⟩
  · exact h.elim
def rExtT : V → List V → Hp → VK → Prop := fun x vs H Q => ∃ l b xs zs, x = .ref l ∧ vs = [.ref b] ∧ H l = some (.lst xs) ∧ H b = some (.tup zs) ∧ xs.length + zs.length ≤ sizeLine ∧ Q .non (upd H l (.lst (xs ++ zs)))
theorem mt_extT : MtR X "list.extend" rExtT := by
  intro pins s σ H x vs v us Q I rx rv h
  obtain ⟨l, b, xs, zs, rfl, rfl, hl, hb, hz, q⟩ := h
  cases rx
  obtain ⟨u, rfl, ru⟩ := Vals.one rv
  cases ru
  obtain ⟨_, its, n, r, len1, e1⟩ := I.lstM hl
  obtain ⟨its2, r2, ⟨⟨cl, dd, dt, sl⟩, e2, hc, m, hd⟩, _⟩ := I.tuple (SqT.of hb)
  simp only at hc hd
  subst hc hd
  have len2 := r2.length
  have hsz : its.toArray.size + its2.toArray.size ≤ sizeLine := by rw [List.size_toArray, List.size_toArray]; omega
  refine call_meets F.slot_list_extend ⟨_, e1, rfl⟩ F.entry_list_extend (F.args_list_extend_2 _ _)
    (t3_extend_tup l its.toArray n b its2.toArray m dd sl (by rw [notLongL hsz, Bool.and_false]; exact Bool.false_ne_true) (by rw [List.size_toArray] at hsz ⊢; omega) (Nat.le_succ_of_le hsz)) ⟨e1, e2, ?_⟩
  exact ⟨.non, _, I.lset (its' := its ++ its2) hl e1 (by simp) (r.append r2) (by rw [List.length_append]; omega), rfl, q⟩
def dExtend : DM := fun x ys M Q => match x, ys with
  | .ref p, [.tup zs] => ∃ xs, M p = some (.lst xs) ∧ xs.length + zs.length ≤ sizeLine ∧ Q .non (up M p (.lst (xs ++ zs)))
  | .ref p, [.ref b] => ∃ xs zs, M p = some (.lst xs) ∧ M b = some (.lst zs) ∧ xs.length + zs.length ≤ sizeLine ∧ Q .non (up M p (.lst (xs ++ zs)))
  | _, _ => False
theorem m_extend : MtD X "list.extend" dExtend := by
  refine ⟨_, MtR.or mt_extend mt_extT, fun H M x v xs vs Q Qd rep r rs h q => ?_⟩
  unfold dExtend at h
  split at h
  · rename_i p zs
    obtain ⟨xs, l, hz, h⟩ := h
    obtain ⟨u, rfl, ru⟩ := rs.one_
    obtain ⟨us, s, rs'⟩ := rep.lst l
    obtain ⟨b, ws, rfl, s2, rs2⟩ := ru.untup
    obtain ⟨g, rep'⟩ := rep.putL l (rs'.app rs2)
    exact .inr ⟨p, b, us, ws, r.ref_, rfl, s, s2, by rw [rs'.len, rs2.len]; exact hz, q _ _ _ _ g rep' R.non' h⟩
  · rename_i p b
    obtain ⟨xs, zs, l, l2, hz, h⟩ := h
    obtain ⟨u, rfl, ru⟩ := rs.one_
    obtain ⟨us, s, rs'⟩ := rep.lst l
    obtain ⟨ws, s2, rs2⟩ := rep.lst l2
    obtain ⟨g, rep'⟩ := rep.putL l (rs'.app rs2)
    exact .inl ⟨p, b, us, ws, r.ref_, by rw [ru.ref_], s, s2, by rw [rs'.len, rs2.len]; exact hz, q _ _ _ _ g rep' R.non' h⟩
  · exact h.elim
def dReverse : DM := fun x ys M Q => match x, ys with
  | .ref p, [] => ∃ xs, M p = some (.lst xs) ∧ Q .non (up M p (.lst xs.reverse))
  | _, _ => False
theorem m_reverse : MtD X "list.reverse" dReverse := by
  refine ⟨_, mt_reverse, fun H M x v xs vs Q Qd rep r rs h q => ?_⟩
  unfold dReverse at h
  split at h
  · rename_i p
    obtain ⟨xs, l, h⟩ := h
    obtain ⟨us, s, rs'⟩ := rep.lst l
    obtain ⟨g, rep'⟩ := rep.putL l rs'.rev
    exact ⟨p, us, r.ref_, rs.unil, s, q _ _ _ _ g rep' R.non' h⟩
  · exact h.elim
def dInsert : DM := fun x ys M Q => match x, ys with
  | .ref p, [.int i, y] => ∃ xs, M p = some (.lst xs) ∧ xs.length < sizeLine ∧ 0 ≤ i ∧ i < 2 ^ 63 ∧ Q .non (up M p (.lst (xs.take i.toNat ++ [y] ++ xs.drop i.toNat)))
  | _, _ => False
theorem m_insert : MtD X "list.insert" dInsert := by
  refine ⟨_, mt_insert, fun H M x v xs vs Q Qd rep r rs h q => ?_⟩
  unfold dInsert at h
  split at h
  · rename_i p i y
    obtain ⟨xs, l, hz, h0, h1, h⟩ := h
    obtain ⟨u, w, rfl, ru, rw'⟩ := rs.two_
    obtain ⟨us, s, rs'⟩ := rep.lst l
    obtain ⟨g, rep'⟩ := rep.putL l (((rs'.take i.toNat).app (.one rw')).app (rs'.drop i.toNat))
    exact ⟨p, us, i, w, r.ref_, by rw [ru.int_], s, by rw [rs'.len]; exact hz, h0, h1, q _ _ _ _ g rep' R.non' h⟩
  · exact h.elim
/-! ### o[i] op= e -/
def rGetA (K : PySem.W.Frag) : V → V → Hp → VK → Prop := fun x y H Q => (∃ p xs i v, x = .ref p ∧ y = .int i ∧ SqL K H p xs ∧ 0 ≤ i ∧ xs[i.toNat]? = some v ∧ Q v H) ∨ (∃ a v, x = .ref a ∧ DGet H a y (some v) ∧ Q v H)
theorem get_any (hu : X.A.units + 1 < cLine) : PGet X (rGetA X.K) := by
  intro pins s σ H o i ov iv Q I ro ri h
  rcases h with ⟨p, xs, k, v, rfl, rfl, hq, h0, hv, q⟩ | ⟨a, v, rfl, g, q⟩
  · cases ro
    obtain ⟨t, rfl⟩ := ri
    obtain ⟨its, r, pl, hz⟩ := I.list hq
    obtain ⟨u, hu, ru⟩ := r.get hv
    have lt := (List.getElem?_eq_some_iff.mp hv).1
    have l63 := line63
    exact wpAny_getItem_list pl.isList h0 (by omega) (x := u) (by simpa using hu) ⟨v, H, I, ru, q⟩
  · cases ro
    exact d_getItem hu I g ri fun w' s' I' r' => ⟨v, H, I', r', q⟩
def dGetA : DR2 := fun x y M Q => ∃ p, x = .ref p ∧ ((∃ (xs : List D) (i : Int) (v : D), y = .int i ∧ LS M p xs ∧ 0 ≤ i ∧ xs[i.toNat]? = some v ∧ Q v M) ∨
  (∃ (kvs : List (Key × D)) (k : Key) (v : D), y = kD k ∧ DK_ M p kvs ∧ valD kvs k = some v ∧ Q v M))
theorem snd_getA : SndR2 X.K (rGetA X.K) dGetA := fun H M x y v u Q Qd rep r1 r2 h q => by
  obtain ⟨p, rfl, h⟩ := h
  rw [r1.ref_]
  rcases h with ⟨xs, i, z, rfl, l, h0, e, h⟩ | ⟨kvs, k, z, rfl, d, e, h⟩
  · obtain ⟨vs, s, rs⟩ := rep.ls l
    obtain ⟨w, ew, rw'⟩ := rs.get e
    exact .inl ⟨p, vs, i, w, rfl, r2.int_, s, h0, ew, q _ _ _ M Go.refl rep rw' h⟩
  · obtain ⟨ws, hd, rk⟩ := rep.dk d
    obtain ⟨w, ew, rw'⟩ := (RK.val k rk).1 _ e
    exact .inr ⟨p, w, rfl, .inl ⟨ws, k, hd, r2.kD, ew.symm⟩, q _ _ _ M Go.refl rep rw' h⟩
def dAugI (do_ di de : DE) (rd : DR2) : DSt := fun En δ M => do_ δ M fun x M1 => di δ M1 fun y M2 => dGetA x y M2 fun z M3 => de δ M3 fun v M4 => rd z v M4 fun w M5 => dPut x y w M5 fun M6 => En.nx δ M6
theorem s_augI {op : Operator} {rd : DR2} {tpos : Pos} (hu : X.A.units + 1 < cLine) (ho : PE3 X B o do_) (hi : PE3 X B i di) (he : PE3 X B e de) (hp : PIp3 X op rd)
    (ha : ∀ ov iv new, augStore i ov iv new = (do holding [new, ov, iv] (setItem ov iv new); release [new, ov, iv] []; pure .next) := by intros; rfl) : PS3 X B (.AugAssign (.Subscript o i tpos) op e pos) (dAugI do_ di de rd) := by
  obtain ⟨to, o1, o2⟩ := ho.ex
  obtain ⟨ti, i1, i2⟩ := hi.ex
  obtain ⟨te, e1, e2⟩ := he.ex
  obtain ⟨rp, p1, p2⟩ := hp.ex
  obtain ⟨rs, s1, s2⟩ := (put3 (X := X) hu).ex
  refine ⟨_, ps_augS o1 i1 (get_any hu) e1 p1 s1 ha, fun σ H δ M D Dd sl rep bb q eo => o2 σ H δ M _ _ sl rep bb q fun v1 H1 x1 M1 g1 rep1 r1 q1 => ?_⟩
  have sl1 := sl.mono (rep.tx g1)
  have bb1 := B.pres _ _ _ _ g1 bb
  refine i2 σ H1 δ M1 _ _ sl1 rep1 bb1 q1 fun v2 H2 x2 M2 g2 rep2 r2 q2 => ?_
  have sl2 := sl1.mono (rep1.tx g2)
  have bb2 := B.pres _ _ _ _ g2 bb1
  have r12 := r1.mono (rep1.tx g2)
  refine snd_getA H2 M2 x1 x2 v1 v2 _ _ rep2 r12 r2 q2 fun v3 H3 x3 M3 g3 rep3 r3 q3 => ?_
  have sl3 := sl2.mono (rep2.tx g3)
  have bb3 := B.pres _ _ _ _ g3 bb2
  refine e2 σ H3 δ M3 _ _ sl3 rep3 bb3 q3 fun v4 H4 x4 M4 g4 rep4 r4 q4 => ?_
  have t34 := rep3.tx g4
  refine p2 H4 M4 x3 x4 v3 v4 _ _ rep4 (r3.mono t34) r4 q4 fun v5 H5 x5 M5 g5 rep5 r5 q5 => ?_
  have t45 := rep4.tx g5
  have t25 : Tx X.K H2 H5 := ((rep2.tx g3).trans t34).trans t45
  refine s2 H5 M5 x1 x2 x5 v1 v2 v5 _ _ rep5 (r12.mono t25) (r2.mono t25) r5 q5 fun H6 M6 g6 rep6 q6 => ?_
  exact eo.nx _ _ _ _ (((((g1.trans g2).trans g3).trans g4).trans g5).trans g6) ((sl2.mono t25).mono (rep5.tx g6)) rep6 q6
/-! ### tuple(range(..)), list(range(..)) -/
abbrev DRg := DS → Hd → (Int → Int → Hd → Prop) → Prop
structure PRg3 (X : Cx) (B : Am) (e : Expr) (d : DRg) : Prop where
  ex : ∃ t : L2.St → Hp → (Int → Int → Hp → Prop) → Prop, PRg X e t ∧ ∀ (σ : L2.St) (H : Hp) (δ : DS) (M : Hd) (Q : Int → Int → Hp → Prop) (Qd : Int → Int → Hd → Prop), Sl X.K H σ δ → Rep X.K H M → B.B H M → d δ M Qd → (∀ a b H' M', Go H M H' M' → Rep X.K H' M' → Qd a b M' → Q a b H') → t σ H Q
def dRg1 (de : DE) : DRg := fun δ M Q => de δ M fun x M1 => match x with
  | .int n => Q 0 n M1
  | _ => False
def dRg2 (de di : DE) : DRg := fun δ M Q => de δ M fun x M1 => di δ M1 fun y M2 => match x, y with
  | .int a, .int b => Q a b M2
  | _, _ => False
theorem rg1 {p : Pos} (hg : Gl X "range") (hm : X.mg "range" = none) (he : PE3 X B e de) (na : starEach [e] X.env = (false, eval e X.env) :: starEach [] X.env := by rfl) : PRg3 X B (.Call (.Name "range" p) [e] [] pos) (dRg1 de) := by
  obtain ⟨t, h1, h2⟩ := he.ex
  refine ⟨_, prg_1 hg hm h1 na, fun σ H δ M Q Qd sl rep bb q k => h2 σ H δ M _ _ sl rep bb q fun v H1 x M1 g rep1 r q1 => ?_⟩
  cases x with
  | int n => exact ⟨n, r.int_, k _ _ _ _ g rep1 q1⟩
  | _ => exact q1.elim
theorem rg2 {p : Pos} (hg : Gl X "range") (hm : X.mg "range" = none) (he : PE3 X B e de) (hi : PE3 X B i di) (na : starEach [e, i] X.env = (false, eval e X.env) :: starEach [i] X.env := by rfl) (nb : starEach [i] X.env = (false, eval i X.env) :: starEach [] X.env := by rfl) (hp : (backTo pos (starEach [i] X.env)).any (·.1) = false := by rfl) : PRg3 X B (.Call (.Name "range" p) [e, i] [] pos) (dRg2 de di) := by
  obtain ⟨t, h1, h2⟩ := he.ex
  obtain ⟨u, k1, k2⟩ := hi.ex
  refine ⟨_, prg_2 hg hm h1 k1 na nb hp, fun σ H δ M Q Qd sl rep bb q k => h2 σ H δ M _ _ sl rep bb q fun v H1 x M1 g rep1 r q1 => ?_⟩
  refine k2 σ H1 δ M1 _ _ (sl.mono (rep.tx g)) rep1 (B.pres _ _ _ _ g bb) q1 fun v2 H2 y M2 g2 rep2 r2 q2 => ?_
  cases x with
  | int n =>
    cases y with
    | int m => exact ⟨n, m, r.int_, r2.int_, k _ _ _ _ (g.trans g2) rep2 q2⟩
    | _ => exact q2.elim
  | _ => exact q2.elim
theorem rgV_rngD {K : PySem.W.Frag} {H : Hp} (a b : Int) : Rs K H (rngD a b) (rgV a b) := by
  unfold rngD rgV
  generalize List.range (b - a).toNat = l
  induction l with
  | nil => exact .nil
  | cons j l ih => exact .cons R.int' ih
def dTupRg (dg : DRg) : DE := fun δ M Q => dg δ M fun a b M1 => RgOk a b ∧ Q (.tup (rngD a b)) M1
def dLstRg (dg : DRg) : DE := fun δ M Q => dg δ M fun a b M1 => RgOk a b ∧ ∀ q, M1 q = none → Q (.ref q) (up M1 q (.lst (rngD a b)))
theorem e_tupRg {dg : DRg} {p : Pos} (hc : X.calm = true) (hg : Gl X "tuple") (hm : X.mg "tuple" = none) (he : PRg3 X B e dg) (na : starEach [e] X.env = (false, eval e X.env) :: starEach [] X.env := by rfl) : PE3 X B (.Call (.Name "tuple" p) [e] [] pos) (dTupRg dg) := by
  obtain ⟨t, h1, h2⟩ := he.ex
  refine ⟨_, pe_tupRg hc hg hm h1 na, fun σ H δ M Q Qd sl rep bb q k => h2 σ H δ M _ _ sl rep bb q fun a b H1 M1 g rep1 ⟨ok, q1⟩ => ⟨ok, fun p hp => ?_⟩⟩
  obtain ⟨g', rep', r'⟩ := rep1.newT hp (rgV_rngD a b)
  exact k _ _ _ _ (g.trans g') rep' r' q1
theorem e_lstRg {dg : DRg} {p : Pos} (hc : X.calm = true) (hg : Gl X "list") (hm : X.mg "list" = none) (he : PRg3 X B e dg) (na : starEach [e] X.env = (false, eval e X.env) :: starEach [] X.env := by rfl) : PE3 X B (.Call (.Name "list" p) [e] [] pos) (dLstRg dg) := by
  obtain ⟨t, h1, h2⟩ := he.ex
  refine ⟨_, pe_listRg hc hg hm h1 na, fun σ H δ M Q Qd sl rep bb q k => h2 σ H δ M _ _ sl rep bb q fun a b H1 M1 g rep1 ⟨ok, q1⟩ => ⟨ok, fun p hp => ?_⟩⟩
  obtain ⟨g', rep'⟩ := rep1.newL hp (rgV_rngD a b)
  exact k _ _ _ _ (g.trans g') rep' R.ref' (q1 p (rep1.free hp))
/-! ### {k: v for ..}, {} -/
def dDc (di : DI) (g : Tg) (dt : DT) (dk dv : DE) (vs : List Nat) : DE := fun δ M Q => di δ M fun W M1 => W.xs.length ≤ sizeLine ∧ ∃ P : List D → List (Key × D) → Hd → Prop, P [] [] M1 ∧
  (∀ pre x post acc M', W.xs = pre ++ x :: post → P pre acc M' → W.G M' ∧ dTg g x (wipeD δ vs) fun δ2 => dt δ2 M' fun b M2 =>
    (b = true → dk δ2 M2 fun y M3 => dv δ2 M3 fun z M4 => ∃ k, y = kD k ∧ ∃ M5, Sub M4 M5 ∧ P (pre ++ [x]) (putKD acc k z) M5) ∧ (b = false → ∃ M4, Sub M2 M4 ∧ P (pre ++ [x]) acc M4)) ∧
  ∀ acc M', P W.xs acc M' → W.G M' ∧ ∀ p, M' p = none → Q (.ref p) (up M' p (.dK acc))
theorem snd_dc {K : PySem.W.Frag} {di : DI} {g : Tg} {wi : TI} {tt : TT} {tk tv : TE} {dt : DT} {dk dv : DE} {vs : List Nat} (hi : SndI K B wi di) (ht : SndT K B tt dt) (hk : SndE K B tk dk) (he : SndE K B tv dv) (hv : ∀ i ∈ g.ix, i ∈ vs) : SndE K B (tDc wi (g.L K) tt tk tv vs) (dDc di g dt dk dv vs) := by
  intro σ H δ M Q Qd sl rep bb q k
  refine hi σ H δ M _ _ sl rep bb q fun J H1 W M1 g1 rep1 ok ⟨hz, P, p0, turn, fin⟩ Da hDa => ?_
  have sl1 := sl.mono (rep.tx g1)
  have bb1 := B.pres _ _ _ _ g1 bb
  have nD : M1 Da = none := rep1.free hDa
  refine ⟨fun i m H' => ∃ pre post acc us M', W.xs = pre ++ post ∧ pre.length = i ∧ m = post.length ∧ acc.length ≤ pre.length ∧ Rep K H' M' ∧ M' Da = none ∧ H' Da = some (.dK us) ∧ RK K H' acc us ∧ Go H1 M1 H' M' ∧ P pre acc M',
    ⟨_, [], W.xs, [], [], M1, rfl, rfl, rfl, Nat.le_refl _, rep1.tup hDa, nD, upd_same, .nil, go_tup hDa, p0⟩, ?_⟩
  rintro i m H' ⟨pre, post, acc, us, M', ex, rfl, rfl, hl, rep', nD', hD', rs', g', p⟩
  cases post with
  | nil =>
    rw [List.append_nil] at ex
    subst ex
    obtain ⟨gg, nx⟩ := fin acc M' p
    refine .inl ⟨(ok _ H' M' (rep1.tx g') rep' gg).2 rfl, ?_⟩
    refine k (.ref Da) H' _ (up M' Da (.dK acc)) ?_ (rep'.shwK nD' hD' rs') R.ref' (nx Da nD')
    intro a u ha na
    obtain ⟨ha1, na1⟩ := g1 a u ha na
    obtain ⟨ha2, na2⟩ := g' a u ha1 na1
    have : a ≠ Da := ne_of_none ha1 hDa
    exact ⟨ha2, by rw [up_ne this]; exact na2⟩
  | cons x post =>
    obtain ⟨gg, h⟩ := turn pre x post acc M' ex p
    have at_ : W.xs[pre.length]? = some x := by rw [ex]; simp
    have lt : acc.length < sizeLine := by
      have : W.xs.length = pre.length + (post.length + 1) := by rw [ex]; simp
      omega
    obtain ⟨go, yld⟩ := (ok _ H' M' (rep1.tx g') rep' gg).1 x at_
    refine .inr ⟨go, fun H2 => ∃ acc2 us2 M2, acc2.length ≤ pre.length + 1 ∧ Rep K H2 M2 ∧ M2 Da = none ∧ H2 Da = some (.dK us2) ∧ RK K H2 acc2 us2 ∧ Go H1 M1 H2 M2 ∧ P (pre ++ [x]) acc2 M2,
      fun H2 ⟨acc2, us2, M2, a, b, c, d, e, f, pp⟩ => ⟨post.length, Nat.lt_succ_self _, pre ++ [x], post, acc2, us2, M2, by rw [ex]; simp, by simp, rfl, by simpa using a, b, c, d, e, f, pp⟩, fun v H2 y => ?_⟩
    obtain ⟨g2, rep2, rv⟩ := yld v H2 y
    have g12 := g'.trans g2
    obtain ⟨hD2, _⟩ := g2 Da _ hD' nD'
    have rs2 := rs'.mono (rep'.tx g2)
    have slw := (sl1.mono (rep1.tx g12)).wipe vs
    refine tg_run g (M := M') slw rv h fun σ3 δ3 sl3 h3 hw => ⟨(hw vs hv).trans (wipe_wipe σ vs), ?_⟩
    refine ht σ3 H2 δ3 M' _ _ sl3 rep2 (B.pres _ _ _ _ g12 bb1) h3 fun b H3 M3 g3 rep3 ⟨q1, q2⟩ => ?_
    have g13 := g12.trans g3
    obtain ⟨hD3, nD3⟩ := g3 Da _ hD2 nD'
    have rs3 := rs2.mono (rep2.tx g3)
    have sl33 := sl3.mono (rep2.tx g3)
    cases b with
    | false =>
      obtain ⟨M4, sb, p4⟩ := q2 rfl
      exact iteF ⟨acc, us, M4, by omega, (sb.fgt (K := K)).1 _ rep3, sb.free nD3, hD3, rs3, g13.trans (sb.fgt (K := K)).go, p4⟩
    | true =>
      refine iteT (hk σ3 H3 δ3 M3 _ _ sl33 rep3 (B.pres _ _ _ _ g13 bb1) (q1 rfl) fun v4 H4 x4 M4 g4 rep4 r4 q4 => ?_)
      obtain ⟨hD4, nD4⟩ := g4 Da _ hD3 nD3
      have rs4 := rs3.mono (rep3.tx g4)
      have g14 := g13.trans g4
      refine he σ3 H4 δ3 M4 _ _ (sl33.mono (rep3.tx g4)) rep4 (B.pres _ _ _ _ g14 bb1) q4 fun v5 H5 x5 M5 g5 rep5 r5 ⟨kk, ek, M6, sb, p6⟩ => ?_
      subst ek
      obtain ⟨hD5, nD5⟩ := g5 Da _ hD4 nD4
      have rs5 := rs4.mono (rep4.tx g5)
      have t5 : Tx K H5 (upd H5 Da (.dK (putK us kk v5))) := tx_put hD5 trivial
      refine ⟨us, kk, r4.kD, hD5, by rw [rs5.len]; exact lt, putKD acc kk x5, putK us kk v5, M6, ?_, (sb.fgt (K := K)).1 _ (rep5.hid nD5 hD5 trivial), sb.free nD5, upd_same, (rs5.put kk r5).mono t5, ?_, p6⟩
      · have := len_putKD acc kk x5
        omega
      · intro a u ha na
        obtain ⟨h1, n1⟩ := (g14.trans g5) a u ha na
        have : a ≠ Da := ne_of_none ha hDa
        exact ⟨by rw [upd_ne this]; exact h1, sb.free n1⟩
theorem e_dc {tg iter kx vx : Expr} {di : DI} {g : Tg} {ifs : List Expr} {scope : Scope} {own : List (Str × Nat)} {dt : DT} {dk dv : DE} (hc : X.calm = true) (hN : X.N.Nodup) (hi : PI3 X B tg iter di) (ok : BlkOk X.N X.env.scope scope own)
    (hg : ∀ (s : Shared) (H : Hp) (C : Addr) (cl : List (Str × Addr)) (fp : List Addr), PG3 (X.blk s H scope (compEnvC scope cl C X.env) fp) tg g) (ht : ∀ (s : Shared) (H : Hp) (C : Addr) (cl : List (Str × Addr)) (fp : List Addr), PTs3 (X.blk s H scope (compEnvC scope cl C X.env) fp) B ifs dt)
    (hk : ∀ (s : Shared) (H : Hp) (C : Addr) (cl : List (Str × Addr)) (fp : List Addr), PE3 (X.blk s H scope (compEnvC scope cl C X.env) fp) B kx dk)
    (he : ∀ (s : Shared) (H : Hp) (C : Addr) (cl : List (Str × Addr)) (fp : List Addr), PE3 (X.blk s H scope (compEnvC scope cl C X.env) fp) B vx dv) (hv : ∀ i ∈ g.ix, i ∈ own.map (·.2) := by decide) (hs : ∀ x, foldedSetIterable iter X.env x = pure x := by intro _; rfl) :
    PE3 X B (.DictComp kx vx [⟨tg, iter, ifs, 0⟩] scope pos) (dDc di g dt dk dv (own.map (·.2))) := by
  obtain ⟨ti, i1, i2⟩ := hi.ex
  exact ⟨_, pe_dc (g := g.L X.K) (tt := tOfT X.K B dt) (tk := tOf X.K B dk) (tv := tOf X.K B dv) hc hN i1 ok (fun s H C cl fp => (hg s H C cl fp).ex) (fun s H C cl fp => (ht s H C cl fp).can) (fun s H C cl fp => (hk s H C cl fp).can) (fun s H C cl fp => (he s H C cl fp).can) hs, snd_dc i2 snd_tOfT snd_tOf snd_tOf hv⟩
def dNewK : DE := fun _ M Q => ∀ p, M p = none → Q (.ref p) (up M p (.dK []))
def dNewT : DE := fun _ M Q => ∀ p, M p = none → Q (.ref p) (up M p (.dT []))
theorem e_newK : PE3 X B (.Dict [] [] pos) dNewK := ⟨_, pe_dnewK, fun σ H δ M Q Qd sl rep bb h q p hp => by
  refine q _ _ _ (up M p (.dK [])) (go_new hp) (rep.put (tx_new hp) (by rw [rep.free hp]; exact fun _ z => nomatch z) (.inl hp) ⟨[], upd_same, .nil⟩) R.ref' (h p (rep.free hp))⟩
theorem e_newT : PE3 X B (.Dict [] [] pos) dNewT := ⟨_, pe_dnewT, fun σ H δ M Q Qd sl rep bb h q p hp => by
  refine q _ _ _ (up M p (.dT [])) (go_new hp) (rep.put (tx_new hp) (by rw [rep.free hp]; exact fun _ z => nomatch z) (.inl hp) ⟨[], upd_same, .nil⟩) R.ref' (h p (rep.free hp))⟩
end
end T3
namespace T3
open PySem PySem.Spec PyProof.Rows L2
/-! ### promises by the number of things -/
def S0 (f : Hd → DK → Prop) : DSp := fun ds M Q _ => ds = [] ∧ f M Q
def S1 (f : D → Hd → DK → Prop) : DSp := fun ds M Q _ => ∃ a, ds = [a] ∧ f a M Q
def S2 (f : D → D → Hd → DK → Prop) : DSp := fun ds M Q _ => ∃ a b, ds = [a, b] ∧ f a b M Q
def S3 (f : D → D → D → Hd → DK → Prop) : DSp := fun ds M Q _ => ∃ a b c, ds = [a, b, c] ∧ f a b c M Q
def S4 (f : D → D → D → D → Hd → DK → Prop) : DSp := fun ds M Q _ => ∃ a b c d, ds = [a, b, c, d] ∧ f a b c d M Q
def S5 (f : D → D → D → D → D → Hd → DK → Prop) : DSp := fun ds M Q _ => ∃ a b c d e, ds = [a, b, c, d, e] ∧ f a b c d e M Q
def S6 (f : D → D → D → D → D → D → Hd → DK → Prop) : DSp := fun ds M Q _ => ∃ a b c d e g, ds = [a, b, c, d, e, g] ∧ f a b c d e g M Q
theorem S5_ {f : D → D → D → D → D → Hd → DK → Prop} {a b c d e : D} {M : Hd} {Q : DK} {E : DX} : S5 f [a, b, c, d, e] M Q E ↔ f a b c d e M Q := ⟨fun ⟨_, _, _, _, _, e, h⟩ => by cases e; exact h, fun h => ⟨_, _, _, _, _, rfl, h⟩⟩
theorem S6_ {f : D → D → D → D → D → D → Hd → DK → Prop} {a b c d e g : D} {M : Hd} {Q : DK} {E : DX} : S6 f [a, b, c, d, e, g] M Q E ↔ f a b c d e g M Q := ⟨fun ⟨_, _, _, _, _, _, e, h⟩ => by cases e; exact h, fun h => ⟨_, _, _, _, _, _, rfl, h⟩⟩
theorem S5n {f : D → D → D → D → D → Hd → DK → Prop} : ∀ ds M Q E, S5 f ds M Q E → ds.length = 5 := by rintro _ _ _ _ ⟨_, _, _, _, _, rfl, _⟩; rfl
theorem S6n {f : D → D → D → D → D → D → Hd → DK → Prop} : ∀ ds M Q E, S6 f ds M Q E → ds.length = 6 := by rintro _ _ _ _ ⟨_, _, _, _, _, _, rfl, _⟩; rfl
theorem S0_ {f : Hd → DK → Prop} {M : Hd} {Q : DK} {E : DX} : S0 f [] M Q E ↔ f M Q := ⟨fun ⟨_, h⟩ => h, fun h => ⟨rfl, h⟩⟩
theorem S1_ {f : D → Hd → DK → Prop} {a : D} {M : Hd} {Q : DK} {E : DX} : S1 f [a] M Q E ↔ f a M Q := ⟨fun ⟨_, e, h⟩ => by cases e; exact h, fun h => ⟨_, rfl, h⟩⟩
theorem S2_ {f : D → D → Hd → DK → Prop} {a b : D} {M : Hd} {Q : DK} {E : DX} : S2 f [a, b] M Q E ↔ f a b M Q := ⟨fun ⟨_, _, e, h⟩ => by cases e; exact h, fun h => ⟨_, _, rfl, h⟩⟩
theorem S3_ {f : D → D → D → Hd → DK → Prop} {a b c : D} {M : Hd} {Q : DK} {E : DX} : S3 f [a, b, c] M Q E ↔ f a b c M Q := ⟨fun ⟨_, _, _, e, h⟩ => by cases e; exact h, fun h => ⟨_, _, _, rfl, h⟩⟩
theorem S4_ {f : D → D → D → D → Hd → DK → Prop} {a b c d : D} {M : Hd} {Q : DK} {E : DX} : S4 f [a, b, c, d] M Q E ↔ f a b c d M Q := ⟨fun ⟨_, _, _, _, e, h⟩ => by cases e; exact h, fun h => ⟨_, _, _, _, rfl, h⟩⟩
theorem S0n {f : Hd → DK → Prop} : ∀ ds M Q E, S0 f ds M Q E → ds.length = 0 := by rintro _ _ _ _ ⟨rfl, _⟩; rfl
theorem S1n {f : D → Hd → DK → Prop} : ∀ ds M Q E, S1 f ds M Q E → ds.length = 1 := by rintro _ _ _ _ ⟨_, rfl, _⟩; rfl
theorem S2n {f : D → D → Hd → DK → Prop} : ∀ ds M Q E, S2 f ds M Q E → ds.length = 2 := by rintro _ _ _ _ ⟨_, _, rfl, _⟩; rfl
theorem S3n {f : D → D → D → Hd → DK → Prop} : ∀ ds M Q E, S3 f ds M Q E → ds.length = 3 := by rintro _ _ _ _ ⟨_, _, _, rfl, _⟩; rfl
theorem S4n {f : D → D → D → D → Hd → DK → Prop} : ∀ ds M Q E, S4 f ds M Q E → ds.length = 4 := by rintro _ _ _ _ ⟨_, _, _, _, rfl, _⟩; rfl
/-! ### a def stands; what it promises -/
structure Df (K : PySem.W.Frag) (mg : Str → Option Value) (x : Str) (st : Stmt) : Prop where
  ex : ∃ f fd, Fun K x x st f fd ∧ mg x = some (.ref f)
/-- how its things bind -/
abbrev Bi (K : PySem.W.Frag) (x : Str) (st : Stmt) (ps : List Str) : Prop := ∀ (kV doc pm : Value) (an : Option Addr) (cdv ct : Value) (us : List Value), us.length = ps.length → bindArgs (PySem.W.fnOf x x (defArgs st) (defBody st) (defScope st) .none kV doc pm an cdv ct) ⟨us, []⟩ = pure (ps.zip us)
structure Pr (P : Program) (w : World) (K : PySem.W.Frag) (mg : Str → Option Value) (base : Heap) (x : Str) (k : Nat) (ps : List Str) (S : DSp) : Prop where
  ex : ∃ f fd, mg x = some (.ref f) ∧ PySem.W.keepIn K (.ref f) = true ∧ Binds K fd ps [] ∧ FnOk P w K mg base CX0 k f fd ps (lift K S) ∧ (∃ oc od osl, K.lookup f = some ⟨oc, od, .func fd, osl⟩) ∧ ∀ us : List Value, us.length = ps.length → bindArgs fd ⟨us, []⟩ = pure (ps.zip us)
section
variable {X : Cx} {B : Am} {k : Nat} {ps : List Str} {S : DSp} {x : Str} {p pos : Pos} {e : Expr} {es : List Expr} {dr : DA}
theorem e_callP (F : Pr X.prog X.w X.K X.mg X.base x k ps S) (hr : Room k X.A) (hg : Gl X x) (hx : Passes CX0 X E0) (ha : PA3 X B (e :: es) dr)
    (hdb : (x == ("__debug__" : Str)) = false := by decide) (he : starEach (e :: es) X.env = (false, eval e X.env) :: starEach es X.env := by rfl) (hpl : (backTo pos (starEach es X.env)).any (·.1) = false := by rfl) :
    PE3 X B (.Call (.Name x p) (e :: es) [] pos) (dCall S dr) := by
  obtain ⟨f, fd, hm, hk, hb, F, _⟩ := F.ex
  exact e_call F hr hg hm hk hb hx ha hdb he hpl
theorem e_callP0 (F : Pr X.prog X.w X.K X.mg X.base x k ps S) (hr : Room k X.A) (hg : Gl X x) (hx : Passes CX0 X E0) (hdb : (x == ("__debug__" : Str)) = false := by decide) : PE3 X B (.Call (.Name x p) [] [] pos) (dCall S dNil) := by
  obtain ⟨f, fd, hm, hk, hb, F, _⟩ := F.ex
  exact e_call0 F hr hg hm hk hb hx hdb
end
section
variable {P : Program} {w : World} {K : PySem.W.Frag} {mg : Str → Option Value} {base : Heap}
theorem pr3 {x : Str} {st : Stmt} {N ps : List Str} {k : Nat} {S : DSp} {d : DSt} (D : Df K mg x st) (bi : Bi K x st ps) (Sc : FnScope N ps (defScope st)) (hn : ∀ ds M Q E, S ds M Q E → ds.length = ps.length)
    (hb : ∀ (f : Addr) (cdv : Value) (A : Around) (outer : List Env) (s : Shared) (H : Hp) (E : XK), Room k (A.deeper (envOfC x (defScope st) s.heap.objs.size f cdv)) → PB3 (cxOf CX0 P w K mg base N x (defScope st) f cdv A outer s H E).nox Am.no (defBody st) d)
    (hd : ∀ ds M Q E, S ds M Q E → ∀ H, Rep K H M → ∃ M1, Rep K H M1 ∧ (∀ a, M a = none → M1 a = none) ∧
      d { nx := fun _ M' => ∃ M2, Fgt K M' M2 ∧ Q .non M2, rt := fun v M' => ∃ M2, Fgt K M' M2 ∧ Q v M2 } (startD N.length ds) M1) : Pr P w K mg base x (k + 1) ps S := by
  obtain ⟨f, fd, F, hm⟩ := D.ex
  refine ⟨f, fd, hm, F.kp, F.binds bi, fun3 F Sc hn (hb f) hd, ?_⟩
  obtain ⟨oc, od, kV, doc, pm, an, cdv, ct, osl, rfl, lk, hcd⟩ := F.ex
  exact ⟨⟨oc, od, osl, lk⟩, bi kV doc pm an cdv ct⟩
theorem dn {M' M2 : Hd} {Q : Hd → Prop} (a : Sub M' M2) (b : Q M2) : ∃ M2, Fgt K M' M2 ∧ Q M2 := ⟨M2, a.fgt, b⟩
theorem hu3 {A : Around} {k : Nat} (h : Room k A) : A.units + 64 < cLine := h.units
end
/-! ### the law's end -/
theorem rep0 {K : PySem.W.Frag} {H : Hp} : Rep K H fun _ => none := fun a o e => nomatch e
/-- what the law is handed -/
def Scr (x : D) (M : Hd) (ns : List Int) : Prop := (∃ p, x = .ref p ∧ M p = some (.fz (ns.map D.int)) ∧ ∀ q, q ≠ p → M q = none) ∨ (∃ p, x = .kl p ns ∧ ∀ q, M q = none)
def SLaw : DSp := S1 fun x M Q => ∃ ns : List Int, ns.length ≤ 63 ∧ Scr x M ns ∧ ∀ M', Q (.bl true) M'
theorem law_sp {K : PySem.W.Frag} {H : Hp} {a : Addr} {ns : List Int} (hl : ns.length ≤ 63) (hO : Only H) (hS : SqL K H a (ns.map V.int)) : lift K SLaw [.ref a] H (fun v _ => v = .bl true) fun _ _ _ => False := by
  have cs : (∃ ob, H a = some (.frz ob (.lst (ns.map V.int)))) ∨ ∀ H2, SqL K H2 a (ns.map V.int) := by
    rcases hS with (h | ⟨o, h⟩) | h
    · rcases hO a with z | ⟨o, xs, z⟩
      · rw [h] at z; cases z
      · rw [h] at z; cases z
    · exact .inl ⟨o, h⟩
    · exact .inr fun H2 => .inr h
  rcases cs with ⟨ob, e⟩ | e
  · refine ⟨[.ref a], up (fun _ => none) a (.fz (ns.map D.int)), fun v _ => v = .bl true, fun _ _ _ => False, .one R.ref', ?_, ⟨_, rfl, ns, hl, .inl ⟨a, rfl, up_same, fun q hq => up_ne hq⟩, fun M' => rfl⟩, fun v H' x M' _ _ r q => ?_, fun c d H' fs M' _ _ _ z => z⟩
    · intro b o q
      by_cases hb : b = a
      · subst hb; rw [up_same] at q; cases q
        exact ⟨ob, _, e, Rs.of_ints ns⟩
      · rw [up_ne hb] at q; cases q
    · subst q; exact r.bl_
  · refine ⟨[.kl a ns], fun _ => none, fun v _ => v = .bl true, fun _ _ _ => False, .one (R.kl' e), rep0, ⟨_, rfl, ns, hl, .inr ⟨a, rfl, fun _ => rfl⟩, fun M' => rfl⟩, fun v H' x M' _ _ r q => ?_, fun c d H' fs M' _ _ _ z => z⟩
    subst q; exact r.bl_
/-- the law's walk, from its promise -/
theorem walk3 {l : PySem.W.OpenLaw} {k : Nat} {q : Program} {loose : List Str} {XP : (Str → Option Value) → Heap → Prop} {YP : World → Heap → Prop} {d : DefRec} {K : Params → PySem.W.Frag} {x : Str}
    (hn : l.most = some 63) (hdf : d.params.defaults = []) (hr : Room k callerA)
    (hY : ∀ (w : World) (h : Heap), YP w h → (K w.params).In h)
    (F : ∀ (w : World) (mg : Str → Option Value) (h : Heap), (K w.params).In h → h.Ns mainGlobals mg → ∀ base : Heap, Pr l.prog w (K w.params) mg base d.name k [x] SLaw) :
    PySem.W.WalkO q loose XP YP l.row.toRowW d [] (fun f vs => PySem.call f vs) :=
  L2.walk_of (n := 63) (k := k) (x := x) (CX := fun _ => CX0) (sp := fun w => lift (K w.params) SLaw) hn (by decide) hdf hr hY
    (fun w mg fa h KX G hmg => by
      obtain ⟨f, fd, e, _, _, _, ⟨oc, od, osl, lk⟩, hb⟩ := (F w mg h KX G default).ex
      rw [hmg] at e
      cases e
      refine ⟨fd, fun s v => .of_eq (hb [v] rfl), fun base _ _ => ?_⟩
      obtain ⟨f2, fd2, e2, _, _, F2, ⟨oc2, od2, osl2, lk2⟩, _⟩ := (F w mg h KX G base).ex
      rw [hmg] at e2
      cases e2
      rw [lk] at lk2
      cases lk2
      exact F2)
    (fun _ _ a ns hl hO hS => law_sp hl hO hS) fun _ _ _ _ _ z => z
/-- a def stands, from what K tells -/
theorem df_mk {K : PySem.W.Frag} {h : Heap} {mg : Str → Option Value} {x : Str} {st : Stmt} {f : Addr} {oc : Value} {od an : Option Addr} {osl : Array (Option Value)} {kV doc pm cdv ct : Value} (X : K.In h) (G : h.Ns mainGlobals mg)
    (a : PySem.W.nsIn K mainGlobals x = some (some (.ref f))) (l : K.lookup f = some ⟨oc, od, .func (PySem.W.fnOf x x (defArgs st) (defBody st) (defScope st) .none kV doc pm an cdv ct), osl⟩)
    (c : PySem.W.codeIn K cdv x = true) (k : PySem.W.keepIn K (.ref f) = true) : Df K mg x st := ⟨f, _, fun_mk l c k, PySem.W.mg_of X G a⟩
/-- a module's number -/
abbrev GI (mg : Str → Option Value) (x : Str) (i : Int) : Prop := ∃ u, mg x = some u ∧ RelV (.int i) u
theorem gi_mk {K : PySem.W.Frag} {h : Heap} {mg : Str → Option Value} {x : Str} {i : Int} {u : Value} (X : K.In h) (G : h.Ns mainGlobals mg) (a : PySem.W.nsIn K mainGlobals x = some (some u)) (r : RelV (.int i) u) : GI mg x i := ⟨u, PySem.W.mg_of X G a, r⟩
theorem gn_mk {K : PySem.W.Frag} {h : Heap} {mg : Str → Option Value} {x : Str} (X : K.In h) (G : h.Ns mainGlobals mg) (a : PySem.W.nsIn K mainGlobals x = some none) : mg x = none := PySem.W.mg_none_of X G a
theorem e_gintP {X : Cx} {B : Am} {x : Str} {i : Int} {pos : Pos} (h : GI X.mg x i) (hg : Gl X x) (hd : (x == ("__debug__" : Str)) = false := by decide) : PE3 X B (.Name x pos) (dC (.int i)) := by
  obtain ⟨u, hm, r⟩ := h
  exact e_gint hg hm r hd
end T3
/-! exceptions without fields: raise X(), defs that let them out, try .. except X -/
namespace T3
open PySem PySem.Spec PyProof.Rows L2
/-- what may leave, told over data -/
structure TkX (X : Cx) (B : Am) (WD : DS → DX) : Prop where
  ex : ∃ W : WX, Takes X W ∧ ∀ cls d σ H δ M fs, Sl X.K H σ δ → Rep X.K H M → B.B H M → XR X.K H d fs → WD δ cls fs M → W cls d σ H
def WD0 : DS → DX := fun _ _ _ _ => False
theorem tk0 {X : Cx} {B : Am} : TkX X B WD0 := ⟨_, takes0, fun _ _ _ _ _ _ _ _ _ _ _ z => z⟩
def X0 (f : Hd → DK → DX → Prop) : DSp := fun ds M Q E => ds = [] ∧ f M Q E
def X1 (f : D → Hd → DK → DX → Prop) : DSp := fun ds M Q E => ∃ a, ds = [a] ∧ f a M Q E
def X2 (f : D → D → Hd → DK → DX → Prop) : DSp := fun ds M Q E => ∃ a b, ds = [a, b] ∧ f a b M Q E
def X3 (f : D → D → D → Hd → DK → DX → Prop) : DSp := fun ds M Q E => ∃ a b c, ds = [a, b, c] ∧ f a b c M Q E
theorem X0_ {f : Hd → DK → DX → Prop} {M : Hd} {Q : DK} {E : DX} : X0 f [] M Q E ↔ f M Q E := ⟨fun ⟨_, h⟩ => h, fun h => ⟨rfl, h⟩⟩
theorem X1_ {f : D → Hd → DK → DX → Prop} {a : D} {M : Hd} {Q : DK} {E : DX} : X1 f [a] M Q E ↔ f a M Q E := ⟨fun ⟨_, e, h⟩ => by cases e; exact h, fun h => ⟨_, rfl, h⟩⟩
theorem X2_ {f : D → D → Hd → DK → DX → Prop} {a b : D} {M : Hd} {Q : DK} {E : DX} : X2 f [a, b] M Q E ↔ f a b M Q E := ⟨fun ⟨_, _, e, h⟩ => by cases e; exact h, fun h => ⟨_, _, rfl, h⟩⟩
theorem X3_ {f : D → D → D → Hd → DK → DX → Prop} {a b c : D} {M : Hd} {Q : DK} {E : DX} : X3 f [a, b, c] M Q E ↔ f a b c M Q E := ⟨fun ⟨_, _, _, e, h⟩ => by cases e; exact h, fun h => ⟨_, _, _, rfl, h⟩⟩
theorem X0n {f : Hd → DK → DX → Prop} : ∀ ds M Q E, X0 f ds M Q E → ds.length = 0 := by rintro _ _ _ _ ⟨rfl, _⟩; rfl
theorem X1n {f : D → Hd → DK → DX → Prop} : ∀ ds M Q E, X1 f ds M Q E → ds.length = 1 := by rintro _ _ _ _ ⟨_, rfl, _⟩; rfl
theorem X2n {f : D → D → Hd → DK → DX → Prop} : ∀ ds M Q E, X2 f ds M Q E → ds.length = 2 := by rintro _ _ _ _ ⟨_, _, rfl, _⟩; rfl
theorem X3n {f : D → D → D → Hd → DK → DX → Prop} : ∀ ds M Q E, X3 f ds M Q E → ds.length = 3 := by rintro _ _ _ _ ⟨_, _, _, rfl, _⟩; rfl
structure PrX (P : Program) (w : World) (K : PySem.W.Frag) (mg : Str → Option Value) (base : Heap) (x : Str) (k : Nat) (ps : List Str) (S : DSp) : Prop where
  ex : ∃ f fd, mg x = some (.ref f) ∧ PySem.W.keepIn K (.ref f) = true ∧ Binds K fd ps [] ∧ FnOk P w K mg base (L2.CX P w) k f fd ps (lift K S)
def dCallX (S : DSp) (WD : DS → DX) (dr : DA) : DE := fun δ M Q => dr δ M fun xs M1 => S xs M1 Q (WD δ)
section
variable {X : Cx} {B : Am} {k : Nat} {ps : List Str} {S : DSp} {x : Str} {p pos pos' : Pos} {e : Expr} {es : List Expr} {dr : DA} {WD : DS → DX}
theorem e_callX (F : PrX X.prog X.w X.K X.mg X.base x k ps S) (hr : Room k X.A) (hg : Gl X x) (tk : TkX X B WD) (ha : PA3 X B (e :: es) dr)
    (hdb : (x == ("__debug__" : Str)) = false := by decide) (he : starEach (e :: es) X.env = (false, eval e X.env) :: starEach es X.env := by rfl) (hpl : (backTo pos (starEach es X.env)).any (·.1) = false := by rfl) :
    PE3 X B (.Call (.Name x p) (e :: es) [] pos) (dCallX S WD dr) := by
  obtain ⟨f, fd, hm, hk, hb, F⟩ := F.ex
  obtain ⟨W, tw, tr⟩ := tk.ex
  obtain ⟨t, a1, a2⟩ := ha.ex
  refine ⟨_, pe_callS F hr hg hm hk hb (fun σ => passAt tw σ) a1 hdb he hpl, fun σ H δ M Q Qd sl rep bb q kk => ?_⟩
  refine a2 σ H δ M _ _ sl rep bb q fun vs H1 xs M1 g rep1 rs _ q1 => ?_
  exact ⟨xs, M1, Qd, WD δ, rs, rep1, q1, fun v H' x M' g' => kk v H' x M' (g.trans g'),
    fun c d H' fs M' g' rep' xr z => tr c d σ H' δ M' fs ((sl.mono (rep.tx g)).mono (rep1.tx g')) rep' (B.pres _ _ _ _ g' (B.pres _ _ _ _ g bb)) xr z⟩
/-- an exception class of the program without own __init__, over ValueError -/
structure XC (K : PySem.W.Frag) (mg : Str → Option Value) (x : Str) : Prop where
  ex : ∃ C, mg x = some (.ref C) ∧ PySem.W.keepIn K (.ref C) = true ∧ PySem.W.excIn K C [.type "ValueError", .type "Exception", .type "BaseException", .type "object"] "ValueError.__new__" = true ∧
    PySem.W.subIn K (.ref C) (.type "BaseException") = some true ∧ PySem.W.typeIn K (.ref C) = some (.type "type")
theorem pmk_own0 {C : Addr} {bmB : List Value} {Bn newId initId : String} (F : ExcBaseFacts Bn newId initId bmB) (q : PySem.W.excIn X.K C bmB newId = true) (gC : X.mg x = some (.ref C)) (kC : PySem.W.keepIn X.K (.ref C) = true) (r : Raises X (.ref C)) (hg : Gl X x)
    (hdb : (x == ("__debug__" : Str)) = false := by decide) : PMk X (.Call (.Name x p) [] [] pos) (fun _ H Q => Q (.ref C) none H) := by
  intro pins s σ H Q I h
  refine wpAny_Call_Name_kw (ld_glob I hg gC ?_ hdb)
  refine PySem.W.callWith_K0 I.kIn kC ?_
  show wpAny _ _ (call (.ref C) []) _ _ _
  obtain ⟨bm, N, nm, qn, bs, hdct, sn, sub, ab, col, dd, k0, k1, k2, k3, k5, mN, hC, hN, hni, T⟩ := exc_obj I.kIn q
  refine wpAny_call_exc_subT F T hC hN hni (fun h' e hm => ?_) (Nat.zero_le _)
  exact mk_of I hm r h (I.hok.gone hm.new)
def dRaise (mg : Str → Option Value) (x : Str) (WD : DS → DX) : DSt := fun _ δ M => ∀ c, mg x = some c → WD δ c [] M
theorem s_raise0 {K : PySem.W.Frag} {mg : Str → Option Value} (hc : X.calm = true) (h : XC K mg x) (hg : Gl X x) (tk : TkX X B WD) (hK : X.K = K := by rfl) (hmg : X.mg = mg := by rfl) (hdb : (x == ("__debug__" : Str)) = false := by decide) : PS3 X B (.Raise (some (.Call (.Name x p) [] [] pos)) none pos') (dRaise mg x WD) := by
  subst hK
  subst hmg
  obtain ⟨C, m, kp, ei, sb, ty⟩ := h.ex
  obtain ⟨W, tw, tr⟩ := tk.ex
  refine ⟨_, ps_raise hc tw (pmk_own0 PySem.F.excBase_ValueError ei m kp (raises_own sb ty) hg hdb), fun σ H δ M D Dd sl rep bb q eo => ?_⟩
  exact tr _ _ _ _ δ M [] sl rep bb (.inl ⟨rfl, rfl⟩) (q _ m)
end
section
variable {P : Program} {w : World} {K : PySem.W.Frag} {mg : Str → Option Value} {base : Heap}
abbrev cxX (P : Program) (w : World) (K : PySem.W.Frag) (mg : Str → Option Value) (base : Heap) (N : List Str) (x : Str) (sc : Scope) (f : Addr) (cdv : Value) (A : Around) (outer : List Env) (s : Shared) (H : Hp) (E : XK) : Cx := cxOf (L2.CX P w) P w K mg base N x sc f cdv A outer s H E
/-- THE RULE for a def that may let exceptions out -/
theorem pr3X {x : Str} {st : Stmt} {N ps : List Str} {k : Nat} {S : DSp} {d : (DS → DX) → DSt} (D : Df K mg x st) (bi : Bi K x st ps) (Sc : FnScope N ps (defScope st)) (hn : ∀ ds M Q E, S ds M Q E → ds.length = ps.length)
    (hb : ∀ (f : Addr) (cdv : Value) (A : Around) (outer : List Env) (s : Shared) (H : Hp) (E : XK) (B : Am) (WD : DS → DX), Room k (A.deeper (envOfC x (defScope st) s.heap.objs.size f cdv)) →
      PassesOwn (model P w) (cxX P w K mg base N x (defScope st) f cdv A outer s H E).A (cxX P w K mg base N x (defScope st) f cdv A outer s H E).env (cxX P w K mg base N x (defScope st) f cdv A outer s H E).xe →
      TkX (cxX P w K mg base N x (defScope st) f cdv A outer s H E) B WD → PB3 (cxX P w K mg base N x (defScope st) f cdv A outer s H E) B (defBody st) (d WD))
    (hd : ∀ ds M Q E, S ds M Q E → ∀ H, Rep K H M → ∃ M1, Rep K H M1 ∧ (∀ a, M a = none → M1 a = none) ∧
      d (fun _ c fs M' => ∃ M2, Fgt K M' M2 ∧ E c fs M2) { nx := fun _ M' => ∃ M2, Fgt K M' M2 ∧ Q .non M2, rt := fun v M' => ∃ M2, Fgt K M' M2 ∧ Q v M2 } (startD N.length ds) M1) : PrX P w K mg base x (k + 1) ps S := by
  obtain ⟨f, fd, F, hm⟩ := D.ex
  refine ⟨f, fd, hm, F.kp, F.binds bi, F.okX Sc (fun vs H Q E h => ?_) (fun cdv A outer s H vs Q E hr h => ?_)⟩
  · obtain ⟨ds, M, Qd, Ed, rs, _, hs, _⟩ := h
    rw [rs.len]
    exact hn _ _ _ _ hs
  · obtain ⟨ds, M, Qd, Ed, rs, rep, hs, q, qx⟩ := h
    obtain ⟨M1, rep1, dom, hd⟩ := hd ds M Qd Ed hs H rep
    have g01 : Go H M H M1 := fun a u ha na => ⟨ha, dom a na⟩
    have tk : TkX (cxX P w K mg base N x (defScope st) f cdv A outer s H E) (Am.since H M1) (fun _ c fs M' => ∃ M2, Fgt K M' M2 ∧ Ed c fs M2) :=
      ⟨_, takes_of (E := E) rfl rfl rfl rfl, fun cls d σ H' δ M' fs _ rep' g xr ⟨M2, fg, z⟩ => qx _ _ _ _ M2 ((g01.trans g).trans fg.go) (fg.1 _ rep') xr z⟩
    obtain ⟨t, h1, h2⟩ := (hb f cdv A outer s H E (Am.since H M1) _ hr PassesOwn.leaving tk).ex
    refine ⟨t, h1, h2 _ H _ M1 _ _ (Sl.start rs) rep1 Go.refl hd ⟨fun σ' H' δ' M' g _ rep' ⟨M2, fg, q'⟩ => ?_, fun v H' x M' g rep' r ⟨M2, fg, q'⟩ => ?_, fun _ _ _ _ _ _ _ z => z.elim, fun _ _ _ _ _ _ _ z => z.elim⟩⟩
    · exact q _ _ _ M2 ((g01.trans g).trans fg.go) (fg.1 _ rep') R.non' q'
    · exact q _ _ _ M2 ((g01.trans g).trans fg.go) (fg.1 _ rep') r q'
end
noncomputable def XC.addr {K : PySem.W.Frag} {mg : Str → Option Value} {x : Str} (h : XC K mg x) : Addr := h.ex.choose
theorem XC.at_ {K : PySem.W.Frag} {mg : Str → Option Value} {x : Str} (h : XC K mg x) : mg x = Option.some (.ref h.addr) := h.ex.choose_spec.1
/-- what isinstance of a caught one needs -/
def XE (K : PySem.W.Frag) (mg : Str → Option Value) (x : Str) : Prop := ∀ C, mg x = Option.some (.ref C) → ExcC K C
def XI (K : PySem.W.Frag) (mg : Str → Option Value) (x y : Str) (b : Bool) : Prop := ∀ C D, mg x = Option.some (.ref C) → mg y = Option.some (.ref D) → PySem.W.kitOne K (.ref C) (.ref D) = Option.some b
theorem XC.some {K : PySem.W.Frag} {mg : Str → Option Value} {x : Str} (h : XC K mg x) : ∃ c, mg x = some c := by
  obtain ⟨C, m, _⟩ := h.ex
  exact ⟨_, m⟩
/-- a class's exceptions against a clause's class -/
def XM (K : PySem.W.Frag) (mg : Str → Option Value) (x y : Str) (b : Bool) : Prop := ∀ c cv, mg x = some c → mg y = some cv → PySem.W.exmOne K c cv = some b
theorem xc_mk {K : PySem.W.Frag} {h : Heap} {mg : Str → Option Value} {x : Str} {C : Addr} (X : K.In h) (G : h.Ns mainGlobals mg) (a : PySem.W.nsIn K mainGlobals x = some (some (.ref C))) (k : PySem.W.keepIn K (.ref C) = true)
    (e : PySem.W.excIn K C [.type "ValueError", .type "Exception", .type "BaseException", .type "object"] "ValueError.__new__" = true) (s : PySem.W.subIn K (.ref C) (.type "BaseException") = some true) (t : PySem.W.typeIn K (.ref C) = some (.type "type")) : XC K mg x :=
  ⟨C, PySem.W.mg_of X G a, k, e, s, t⟩
theorem xm_mk {K : PySem.W.Frag} {h : Heap} {mg : Str → Option Value} {x y : Str} {C C' : Addr} {b : Bool} (X : K.In h) (G : h.Ns mainGlobals mg) (a : PySem.W.nsIn K mainGlobals x = some (some (.ref C))) (a' : PySem.W.nsIn K mainGlobals y = some (some (.ref C')))
    (s : PySem.W.subIn K (.ref C') (.type "BaseException") = some true) (d : PySem.W.hasDictIn K C' = true) (t : PySem.W.typeIn K (.ref C') = some (.type "type")) (u : PySem.W.subIn K (.ref C) (.ref C') = some b) : XM K mg x y b := fun c cv e1 e2 => by
  rw [PySem.W.mg_of X G a] at e1
  rw [PySem.W.mg_of X G a'] at e2
  cases e1; cases e2
  exact PySem.W.exm_ref s d t u
/-! ### try -/
/-- the reading that a try's body stands for, at the wish W -/
def tbX (K : PySem.W.Frag) (B : Am) (db : (DS → DX) → DSt) (W : WX) : TS := fun D σ H => ∃ (δ : DS) (M : Hd) (Dd : DEnds) (WD : DS → DX), Sl K H σ δ ∧ Rep K H M ∧ B.B H M ∧ db WD Dd δ M ∧ EndOk K H M D Dd ∧
  ∀ cls d σ' H' δ' M' fs, Sl K H' σ' δ' → Rep K H' M' → Go H M H' M' → XR K H' d fs → WD δ' cls fs M' → W cls d σ' H'
/-- .. and its suite -/
def tsX (K : PySem.W.Frag) (du : Value → List (Str × D) → DSt) (a : Addr) (cls : Value) (d : Option Addr) : TS := fun En σ H => ∃ (δ : DS) (M : Hd) (Dd : DEnds) (fs : List (Str × D)), Sl K H σ δ ∧ Rep K H M ∧ XR K H d fs ∧ H a = none ∧ du cls fs Dd δ M ∧ EndOk K H M En Dd
/-- except x: (without a name) -/
def dTryO (K : PySem.W.Frag) (mg : Str → Option Value) (x : Str) (db : (DS → DX) → DSt) (du : Value → List (Str × D) → DSt) (WD : DS → DX) : DSt := fun En δ M =>
  ∃ cv, mg x = some cv ∧ db (fun δ' c fs M' => ∃ b, PySem.W.exmOne K c cv = some b ∧ (b = true → du c fs En δ' M') ∧ (b = false → WD δ' c fs M')) En δ M
section
variable {X : Cx} {B : Am} {x : Str} {np pos pos' : Pos} {body suite : List Stmt} {b₀ : Stmt} {db : (DS → DX) → DSt} {du : Value → List (Str × D) → DSt} {WD : DS → DX}
theorem s_tryO {K : PySem.W.Frag} {mg : Str → Option Value} (hs : X.stack = X.env :: X.outer) (hf : X.env.frame = some X.env.locals) (hg : Gl X x) (hm : ∃ c, mg x = some c) (tk : TkX X B WD)
    (hb : ∀ (pn : List (Addr × Obj)) (xe : Value → Shared → Prop) (B' : Am) (WD' : DS → DX), PassesOwn (model X.prog X.w) X.A X.env xe → TkX (X.tr pn xe) B' WD' → PB3 (X.tr pn xe) B' body (db WD'))
    (hu : ∀ (a : Addr) (oe : Obj) (cls : Value) (d : Option Addr) (fs : List (Str × D)) (pn : List (Addr × Obj)), Zc cls d oe → (∃ vs, oe.data = .fields vs) → PB3 (X.suite a ((a, oe) :: pn)) Am.no (b₀ :: suite) (du cls fs))
    (hK : X.K = K := by rfl) (hmg : X.mg = mg := by rfl) (hdb : (x == ("__debug__" : Str)) = false := by decide) : PS3 X B (.Try body [.ExceptHandler (some (.Name x np)) none (b₀ :: suite) pos'] [] [] pos) (dTryO K mg x db du WD) := by
  subst hK
  subst hmg
  obtain ⟨cv, hm⟩ := hm
  obtain ⟨Wo, two, tro⟩ := tk.ex
  refine ⟨_, ps_try_only (tb := tbX X.K Am.no db) (ts := tsX X.K du) (Wout := Wo) hs hf ⟨hg, hdb, .inl hm⟩ two (fun W pn xe tw hp => ?_) (fun a oe cls d pn hz hfl => ?_), fun σ H δ M D Dd sl rep bb q eo => ?_⟩
  · refine ⟨fun pins s σ H D I h => ?_⟩
    obtain ⟨δ, M, Dd, WD', sl, rep, _, hd, eo, rel⟩ := h
    have tkb : TkX (X.tr pn xe) (Am.since H M) WD' := ⟨W, tw, fun cls d σ' H' δ' M' fs sl' rep' g xr z => rel cls d σ' H' δ' M' fs sl' rep' g xr z⟩
    obtain ⟨t, h1, h2⟩ := (hb pn xe _ WD' hp tkb).ex
    exact h1.run pins s σ H D I (h2 σ H δ M D Dd sl rep Go.refl hd eo)
  · refine ⟨fun pins s σ H D I h => ?_⟩
    obtain ⟨δ, M, Dd, fs, sl, rep, xr, na, hd, eo⟩ := h
    obtain ⟨t, h1, h2⟩ := (hu a oe cls d fs pn hz hfl).ex
    exact h1.run pins s σ H D I (h2 σ H δ M D Dd sl rep trivial hd eo)
  · obtain ⟨cv', hm', q⟩ := q
    rw [hm] at hm'
    cases hm'
    refine ⟨δ, M, Dd, _, sl, rep, trivial, q, eo, fun cls d σ' H' δ' M' fs sl' rep' g xr ⟨b, e, y, z⟩ => ⟨b, e, fun hb1 a na => ?_, fun hb0 => ?_⟩⟩
    · exact ⟨δ', M', Dd, fs, sl', rep', xr, na, y hb1, eo.mono g⟩
    · exact tro cls d σ' H' δ' M' fs sl' rep' (B.pres _ _ _ _ g bb) xr (z hb0)
/-- except x as n: -/
def dTryA (K : PySem.W.Frag) (mg : Str → Option Value) (x : Str) (i : Nat) (db : (DS → DX) → DSt) (du : Addr → Value → Option Addr → List (Str × D) → DSt) (WD : DS → DX) : DSt := fun En δ M =>
  ∃ cv, mg x = some cv ∧ db (fun δ' c fs M' => ∃ b, PySem.W.exmOne K c cv = some b ∧ (b = true → ∀ a d, M' a = none → (fs = [] → d = none) →
    du a c d fs { nx := fun δ2 M2 => En.nx (δ2.set i none) M2, rt := En.rt, bk := fun δ2 M2 => En.bk (δ2.set i none) M2, ct := fun δ2 M2 => En.ct (δ2.set i none) M2 } (δ'.set i (some (.ref a))) M') ∧ (b = false → WD δ' c fs M')) En δ M
theorem Sl.gone {K : PySem.W.Frag} {H : Hp} {σ : L2.St} {δ : DS} (s : Sl K H σ δ) (i : Nat) : Sl K H (σ.set i none) (δ.set i none) := ⟨by rw [List.length_set, List.length_set]; exact s.len, fun j d e => by
  by_cases h : i = j
  · subst h
    by_cases hl : i < δ.length
    · rw [List.getElem?_set_self hl] at e; cases e
    · rw [List.getElem?_eq_none (by simpa using hl)] at e; cases e
  · rw [List.getElem?_set_ne h] at e ⊢
    exact s.at_ j d e⟩
/-- .. and its suite -/
def tsA (K : PySem.W.Frag) (i : Nat) (du : Addr → Value → Option Addr → List (Str × D) → DSt) (a : Addr) (cls : Value) (d : Option Addr) : TS := fun En σ H => ∃ (δ : DS) (M : Hd) (Dd : DEnds) (fs : List (Str × D)), Sl K H σ δ ∧ Rep K H M ∧ XR K H d fs ∧ du a cls d fs Dd δ M ∧ EndOk K H M En Dd
theorem s_tryA {K : PySem.W.Frag} {mg : Str → Option Value} (i : Nat) {n : Str} {du : Addr → Value → Option Addr → List (Str × D) → DSt} (hs : X.stack = X.env :: X.outer) (hf : X.env.frame = some X.env.locals) (hN : X.N.Nodup) (hi : X.N[i]? = some n) (hln : X.env.kindOf n = some .local) (hg : Gl X x) (hm : ∃ c, mg x = some c) (tk : TkX X B WD)
    (hb : ∀ (pn : List (Addr × Obj)) (xe : Value → Shared → Prop) (B' : Am) (WD' : DS → DX), PassesOwn (model X.prog X.w) X.A X.env xe → TkX (X.tr pn xe) B' WD' → PB3 (X.tr pn xe) B' body (db WD'))
    (hu : ∀ (a : Addr) (oe : Obj) (cls : Value) (d : Option Addr) (fs : List (Str × D)) (pn : List (Addr × Obj)), Zc cls d oe → (∃ vs, oe.data = .fields vs) → ∀ B' : Am, (∀ H M, B'.B H M → XR X.K H d fs) → PB3 (X.suite a ((a, oe) :: pn)) B' (b₀ :: suite) (du a cls d fs))
    (hK : X.K = K := by rfl) (hmg : X.mg = mg := by rfl) (hdb : (x == ("__debug__" : Str)) = false := by decide) : PS3 X B (.Try body [.ExceptHandler (some (.Name x np)) (some n) (b₀ :: suite) pos'] [] [] pos) (dTryA K mg x i db du WD) := by
  subst hK
  subst hmg
  obtain ⟨cv, hm⟩ := hm
  obtain ⟨Wo, two, tro⟩ := tk.ex
  refine ⟨_, ps_try_as (tb := tbX X.K Am.no db) (ts := tsA X.K i du) (Wout := Wo) hs hf hN hi hln ⟨hg, hdb, .inl hm⟩ two (fun W pn xe tw hp => ?_) (fun a oe cls d pn hz hfl => ?_), fun σ H δ M D Dd sl rep bb q eo => ?_⟩
  · refine ⟨fun pins s σ H D I h => ?_⟩
    obtain ⟨δ, M, Dd, WD', sl, rep, _, hd, eo, rel⟩ := h
    have tkb : TkX (X.tr pn xe) (Am.since H M) WD' := ⟨W, tw, fun cls d σ' H' δ' M' fs sl' rep' g xr z => rel cls d σ' H' δ' M' fs sl' rep' g xr z⟩
    obtain ⟨t, h1, h2⟩ := (hb pn xe _ WD' hp tkb).ex
    exact h1.run pins s σ H D I (h2 σ H δ M D Dd sl rep Go.refl hd eo)
  · refine ⟨fun pins s σ H D I h => ?_⟩
    obtain ⟨δ, M, Dd, fs, sl, rep, xr, hd, eo⟩ := h
    have stays : ∀ H' M', Go H M H' M' → Tx X.K H H' → XR X.K H' d fs := fun H' M' g tx => by
      rcases xr with z | ⟨b, ws, e, ne, h1, h2⟩
      · exact .inl z
      · exact .inr ⟨b, ws, e, ne, (g _ _ h1 (rep.xd h1)).1, h2.mono tx⟩
    let B' : Am := ⟨fun H' M' => Go H M H' M', fun _ _ _ _ g h => h.trans g⟩
    obtain ⟨t, h1, h2⟩ := (hu a oe cls d fs pn hz hfl B' (fun H' M' g => stays H' M' g (rep.tx g))).ex
    exact h1.run pins s σ H D I (h2 σ H δ M D Dd sl rep Go.refl hd eo)
  · obtain ⟨cv', hm', q⟩ := q
    rw [hm] at hm'
    cases hm'
    refine ⟨δ, M, Dd, _, sl, rep, trivial, q, eo, fun cls d σ' H' δ' M' fs sl' rep' g xr ⟨b, e, y, z⟩ => ⟨b, e, fun hb1 a na => ?_, fun hb0 => ?_⟩⟩
    · refine ⟨δ'.set i (some (.ref a)), M', _, fs, sl'.set i R.ref', rep', xr, y hb1 a d (rep'.free na) (fun e => by rcases xr with ⟨z, _⟩ | ⟨_, _, _, ne, _⟩; exact z; exact absurd e ne), ?_⟩
      have eo' := eo.mono g
      exact ⟨fun a b c e g' s' r' q' => eo'.nx _ _ _ _ g' (s'.gone i) r' q', fun a b c e g' r' rr q' => eo'.rt _ _ _ _ g' r' rr q', fun a b c e g' s' r' q' => eo'.bk _ _ _ _ g' (s'.gone i) r' q', fun a b c e g' s' r' q' => eo'.ct _ _ _ _ g' (s'.gone i) r' q'⟩
    · exact tro cls d σ' H' δ' M' fs sl' rep' (B.pres _ _ _ _ g bb) xr (z hb0)
/-- isinstance(e, C) of what is caught, C a class of the program -/
def dIsE (K : PySem.W.Frag) (a : Addr) (cls : Value) (d : Option Addr) : DRL := fun xs M Q => ∃ (D c : Addr) (b : Bool), cls = .ref D ∧ d = none ∧ ExcC K D ∧ xs = [.ref a, .ref c] ∧ PySem.W.kitOne K (.ref D) (.ref c) = some b ∧ Q (.bl b) M
theorem cd_isE {a : Addr} {oe : Obj} {cls : Value} {d : Option Addr} {pn : List (Addr × Obj)} (hz : Zc cls d oe) (hf : ∃ vs, oe.data = .fields vs) : CallD (X.suite a ((a, oe) :: pn)) (.builtin "isinstance") (dIsE X.K a cls d) := by
  refine ⟨fun vs H Q => ∃ (D c : Addr) (b : Bool), cls = .ref D ∧ d = none ∧ ExcC X.K D ∧ vs = [.ref a, .ref c] ∧ PySem.W.kitOne X.K (.ref D) (.ref c) = some b ∧ Q (.bl b) H, ?_, ?_⟩
  · intro pins s σ H xs us Q I r h
    obtain ⟨D, c, b, rfl, rfl, hc, rfl, e, q⟩ := h
    exact call_isE hc hz hf pins s σ H _ us Q I r ⟨.ref c, .ref c, b, rfl, fun u h => h, e, q⟩
  · intro H M xs vs Q Qd rep rs h q
    obtain ⟨D, c, b, e1, e2, hc, rfl, e, z⟩ := h
    obtain ⟨v1, vs1, rfl, r1, rs1⟩ := rs.ucons
    obtain ⟨v2, vs2, rfl, r2, rs2⟩ := rs1.ucons
    have := rs2.unil
    subst this
    exact ⟨D, c, b, e1, e2, hc, by rw [r1.ref_, r2.ref_], e, q _ _ _ _ Go.refl rep R.bl' z⟩
end
end T3
/-! exceptions with one field: an own class whose __init__ says super().__init__('..'); self.f = f -/
namespace T3
open PySem PySem.Spec PyProof.Rows L2
/-- what the written part says of the class's __init__ -/
structure IniC (P : Program) (K : PySem.W.Frag) (mg : Str → Option Value) (C : Addr) (f : Str) : Prop where
  T : OexC K C
  xf : XfC K C
  no : PySem.W.findIn K (.ref C) f = some none
  sup : mg "super" = none
  top : (P.main.scope.names.lookup ("super" : Str)).isSome = false
  opq : PySem.W.nsIn K cStatics "thirdparty.any" = some none
  sin : PySem.W.ks_superIn K C C "__init__" = some (some (.builtin "ValueError.__init__"))
  sub : PySem.W.subIn K (.ref C) (.type "ValueError") = some true
  mro : PySem.W.mroIn K C (.ref C) = some true
  ini : ∃ fI, PySem.W.findIn K (.ref C) "__init__" = some (some (.ref fI)) ∧ PySem.W.typeIn K (.ref fI) = some (.type "function") ∧
    ∃ (name qual : Str) (params : Arguments) (scope : Scope) (dV kV doc pm ct oc ccl cl : Value) (an od cdd cld : Option Addr) (osl ccs csl : Array (Option Value)) (cc cda : Addr) (vs : Array Value) (file : Str) (tf : Tok) (msg : Str) (p0 p1 p2 p4 p5 p6 p7 p8 p9 : Pos) (j : Nat) (p3 : Pos),
      K.lookup fI = some ⟨oc, od, .func (PySem.W.fnX name qual params [.Expr (.Call (.Attribute (.Call (.Name "super" p0) [] [] p1) "__init__" p2) [.Constant (.str msg) j p3] [] p4) p5, .Assign [.Attribute (.Name "self" p6) f p7] (.Name f p8) p9] scope [("__class__", cc)] dV kV doc pm an (.ref cda) ct), osl⟩ ∧
      PySem.W.codeIn K (.ref cda) qual = true ∧ K.lookup cda = some ⟨ccl, cdd, .fields vs, ccs⟩ ∧ vs[2]? = some (.str file tf) ∧ ((P.main.file : Str) == file) = true ∧ K.lookup cc = some ⟨cl, cld, .cell (some (.ref C)), csl⟩ ∧
      (params.posonlyargs ++ params.args).head?.map (·.arg) = some ("self" : Str) ∧ scope.names.lookup ("super" : Str) = some .globalImplicit ∧ scope.names.lookup ("__class__" : Str) = some .free ∧ scope.names.lookup ("self" : Str) = some .local ∧ scope.names.lookup f = some .local ∧
      scope.kind = .function ∧ (∀ x ∈ scope.names, x.2 ≠ .cell) ∧ scope.isCoroutine = false ∧ scope.isGenerator = false ∧ ("self" : Str) ≠ f ∧ (f == ("__debug__" : Str)) = false ∧ (p2.endLine == p4.line) = true ∧
      (∀ us : List Value, us.length = 2 → bindArgs (PySem.W.fnX name qual params [.Expr (.Call (.Attribute (.Call (.Name "super" p0) [] [] p1) "__init__" p2) [.Constant (.str msg) j p3] [] p4) p5, .Assign [.Attribute (.Name "self" p6) f p7] (.Name f p8) p9] scope [("__class__", cc)] dV kV doc pm an (.ref cda) ct) ⟨us, []⟩ = pure (([("self" : Str), f]).zip us))
/-- a method's call on one line -/
theorem he_ini {o : Expr} {name : Str} {p2 p4 : Pos} {e : Expr} {env : Env} (hmp : ∀ (o : Expr) (env : Env), methodCallPos true o env p2 p4 = (pure p4 : Sem Pos)) (hs : methodCallForm 1 (backTo p4 (starEach [e] env)) [] = true := by rfl) :
    eval (.Call (.Attribute o name p2) [e] [] p4) env = (do
      let ov ← attributeBase o name env (eval o env)
      standAt p2.atName
      let (f, first) ← holding [ov] (getMethod ov name (do return (← importBound o env).getD true))
      callWith p4 f first (backTo p4 (starEach [e] env)) []) := by
  show (do
      let ov ← attributeBase o name env (eval o env)
      standAt p2.atName
      methodCall o name p2 p4 env ov 1 (backTo p4 (starEach [e] env)) []) = _
  simp only [methodCall, hs, hmp, calleeOf, if_true]
  rfl
/-- what __init__ keeps -/
def spI (C : Addr) (f : Str) : Sp := fun vs H Q _ => ∃ (a : Addr) (y : V), vs = [.ref a, y] ∧ H a = some (exo a C none) ∧ ∀ dx, H dx = none → dx ≠ a → Q .non (upd (upd H dx (exd dx [(f, y)])) a (exo a C (some dx)))
/-- super().__init__(..) of an exception, raw -/
theorem ini_call {prog : Program} {w : World} {A : Around} {E : Value → Shared → Prop} {h : Heap} {g : Array GenState} {dr : Drawn} {tk : Nat} {os : OsState} {nm q : Str} {C N u x t0 : Addr} {bs bm : List Value} {hdct : Bool} {sn : List Str} {sub : List Value} {ab : Bool} {col : Option Bool} {dd : Option Addr} {k0 k1 k2 k3 k5 : Option Value} {rest : List Value} {Q : Value → Shared → Prop}
    (hC : h.get? C = some (excClassObj nm q C N bs bm hdct sn sub ab col dd k0 k1 k2 k3 k5 "ValueError.__new__")) (he : h.get? x = some (PySem.W.excObj C t0 none .none)) (hu : h.get? u = some (PySem.W.kxs_mw "ValueError.__init__" x)) (hz : rest.length ≤ sizeLine)
    (h0 : ∀ h', (∀ b o, b ≠ x → h.get? b = some o → h'.get? b = some o) → h'.get? x = some (PySem.W.excObj C h.objs.size none .none) → Q .none ⟨h', g, dr, tk, os⟩) :
    wpAny (model prog w) A (call (.ref u) rest) Q E ⟨h, g, dr, tk, os⟩ := by
  refine wpAny_call (codeAny_of_tree ?_)
  show wpAny _ A.in1 (callAny (.ref u) ⟨rest, []⟩) _ _ _
  simp only [callAny]
  refine wpAny_bind (wpAny_load hu ?_)
  simp only [PySem.W.kxs_mw, show (Value.type "method-wrapper" == Value.type "method" || Value.type "method-wrapper" == Value.type "builtin_function_or_method" || Value.type "method-wrapper" == Value.type "method-wrapper") = true by decide, if_true]
  refine PySem.W.KFB.if_so (by decide) ?_
  refine wpAny_bind (PySem.W.check_bound_init F.excBase_ValueError.toExcCallFacts hC he rfl ?_)
  refine wpAny_bind (wpAny_pure (wpAny_pure ?_))
  refine ⟨plainId_quiet F.excBase_ValueError.init.plain _, codeAny_builtin F.excBase_ValueError.initEntry ?_⟩
  exact PySem.W.exc_init_tree (cls := .ref C) (t0 := t0) (dv := none) (c2 := .none) (c3 := .none) (b4 := .bool false) he hz fun h' k e _ => h0 h' k e
theorem fn_ini {CX : CXT} {P : Program} {w : World} {K : PySem.W.Frag} {mg : Str → Option Value} {base : Heap} {k : Nat} {C : Addr} {f : Str} (I : IniC P K mg C f) :
    ∃ fI fd, PySem.W.findIn K (.ref C) "__init__" = some (some (.ref fI)) ∧ PySem.W.typeIn K (.ref fI) = some (.type "function") ∧ FnOk P w K mg base CX k fI fd [("self" : Str), f] (spI C f) ∧ Binds K fd [("self" : Str), f] [] := by
  obtain ⟨fI, i1, i2, name, qual, params, scope, dV, kV, doc, pm, ct, oc, ccl, cl, an, od, cdd, cld, osl, ccs, csl, cc, cda, vs, file, tf, msg, p0, p1, p2, p4, p5, p6, p7, p8, p9, j, p3, lk, hcd, lc, hvs, hfile, lcell, hp, nS, nC, nSelf, nF, hkind, hcell, hco, hgen, hne, hdb, hpos, hbind⟩ := I.ini
  refine ⟨fI, _, i1, i2, ⟨?_, ?_⟩, .all hbind⟩
  · rintro _ _ _ _ ⟨a, y, rfl, _⟩
    rfl
  intro A outer s H args us vs0 Q E hr e0 hb r hsp
  obtain ⟨a, y, rfl, ea, q⟩ := hsp
  obtain ⟨u0, us1, rfl, ru0, r1⟩ : ∃ u0 us1, us = u0 :: us1 ∧ RelV (.ref a) u0 ∧ Vals [y] us1 := by
    cases r with
    | cons x y => exact ⟨_, _, rfl, x, y⟩
  obtain ⟨u, us2, rfl, ru, r2⟩ : ∃ u us2, us1 = u :: us2 ∧ RelV y u ∧ Vals [] us2 := by
    cases r1 with
    | cons x y => exact ⟨_, _, rfl, x, y⟩
  cases r2
  obtain rfl : u0 = Value.ref a := ru0
  have KX : K.In s.heap := e0.mod.kin.keeps fun b o e => (e0.bs b o e).1
  have lim : s.heap.NoLimit := e0.mod.nolimit.keeps fun b o e => (e0.bs b o e).1
  obtain ⟨nm, qn, N, bs, bm, sn, sub, ab, col, dd, k0, k1, k2, k3, k5, lC, hbm⟩ := I.T.cls
  have hcl : PySem.W.clsIn K C = some { name := nm, bases := bs, mro := .ref C :: bm, ns := N, qualname := qn, hasDict := true, slotNames := sn, subclasses := sub, abstract := ab, collection := col, hasDel := false } := by unfold PySem.W.clsIn; rw [lC] <;> rfl
  obtain ⟨t1, ho⟩ := exo_at e0.hok ea
  obtain ⟨ar, har, hself⟩ : ∃ ar, (params.posonlyargs ++ params.args).head? = some ar ∧ ar.arg = ("self" : Str) := by
    cases z : (params.posonlyargs ++ params.args).head? with
    | none => rw [z] at hp; cases hp
    | some ar => rw [z] at hp; exact ⟨ar, rfl, Option.some.inj hp⟩
  refine PySem.ks_codeAny_call_defAt hr.depth (KX _ _ lk) rfl lim (PySem.W.codeRec_of KX hcd) rfl hb hcell (fun x hx => ?_) (fun h1 hns hk => ?_) hco hgen hkind
  · rcases List.mem_cons.mp hx with rfl | hx
    · exact nSelf
    · rcases List.mem_cons.mp hx with rfl | hx
      · exact nF
      · cases hx
  have mself : (([("self" : Str), f]).zip [Value.ref a, u]).reverse.lookup ("self" : Str) = some (.ref a) := by
    show List.lookup ("self" : Str) [(f, u), ("self", Value.ref a)] = _
    rw [List.lookup_cons, show (("self" : Str) == f) = false from by simpa using hne]
    rfl
  have mf : (([("self" : Str), f]).zip [Value.ref a, u]).reverse.lookup f = some u := by
    show List.lookup f [(f, u), ("self", Value.ref a)] = _
    rw [List.lookup_cons, show (f == f) = true from by simp]
  have X1 : K.In h1 := KX.keeps hk
  have B1 : ∀ b o, base.get? b = some o → h1.get? b = some o := fun b o e => hk b o (e0.bs b o e).1
  have C1 := X1 _ _ lC
  have ho1 := hk _ _ ho
  obtain ⟨oL, esL, epL, hL, rL⟩ := hns
  obtain ⟨mb, hb1, hb2⟩ := e0.mod.blt
  have hvS : mb "super" = some (.type "super") := (hb2 "super" (by decide)).trans (by decide +kernel)
  obtain ⟨hp0, g, dr, tk, os⟩ := s
  have hnext : interactive (callEnv (PySem.W.fnX name qual params [.Expr (.Call (.Attribute (.Call (.Name "super" p0) [] [] p1) "__init__" p2) [.Constant (.str msg) j p3] [] p4) p5, .Assign [.Attribute (.Name "self" p6) f p7] (.Name f p8) p9] scope [("__class__", cc)] dV kV doc pm an (.ref cda) ct) hp0.objs.size fI) = false := by
    unfold interactive
    rw [show (callEnv (PySem.W.fnX name qual params [.Expr (.Call (.Attribute (.Call (.Name "super" p0) [] [] p1) "__init__" p2) [.Constant (.str msg) j p3] [] p4) p5, .Assign [.Attribute (.Name "self" p6) f p7] (.Name f p8) p9] scope [("__class__", cc)] dV kV doc pm an (.ref cda) ct) hp0.objs.size fI).scope.kind = ScopeKind.function from hkind]
    rfl
  have hmp : ∀ (o : Expr) (env : Env), methodCallPos true o env p2 p4 = (pure p4 : Sem Pos) := fun o env => by
    unfold methodCallPos
    rw [hpos]
    rfl
  refine PySem.ks_wpAt_execs_cons (PySem.ks_wpAt_Expr_any (PySem.ks_wpAt_MethodCall (pl := do return (← importBound (.Call (.Name "super" p0) [] [] p1) _).getD true) (he := he_ini hmp) (PySem.ks_wpAt_super_base (f := fI) (cc := cda) nS nC rfl rfl (hk _ _ (KX _ _ lk)) rfl har rfl (hk _ _ (KX _ _ lc)) rfl hvs hfile I.top ?_)) hnext (by rfl))
  refine PySem.W.ks_loadName_global hkind nS (Calls.loadGlobal_builtin (e0.mod.glob.keeps B1) I.sup (hb1.keeps B1) hvS ⟨rfl, ?_⟩)
  refine wpAny_loadName_free hkind nC (show List.lookup ("__class__" : Str) [(("__class__" : Str), cc)] = some cc from rfl) ⟨_, hk _ _ (KX _ _ lcell), rfl⟩ ?_
  rw [hself]
  refine wpAny_loadName_local hkind nSelf ⟨oL, esL, epL, hL, rL⟩ mself ?_
  refine PySem.ks_wpAny_isType_cls C1 rfl ⟨rfl, ?_⟩
  refine PySem.ks_wpAny_call_super C1 rfl ho1 rfl (fun c e => by cases e) (PySem.W.looks_mroIn X1 I.mro) (fun h2 hso k2 => ?_)
  have X2 := X1.keeps k2
  have ho2 := k2 _ _ ho1
  have C2 := k2 _ _ C1
  have I2 : PySem.W.InstAt h2 a _ C none := ⟨ho2, rfl, rfl, trivial⟩
  have hI2 : PySem.W.Looks (model P w) h2 (isInstance (.ref a) (.type "ValueError")) true := I2.type.andThen (PySem.W.looks_subIn X2 I.sub)
  have hC2 : PySem.W.Looks (model P w) h2 (mroOf (.ref C)) (.ref C :: bm) := (PySem.W.looks_clsIn X2 hcl).andThen .now
  have hal : PySem.W.alongIn K "__init__" (((Value.ref C :: bm).dropWhile (· != .ref C)).drop 1) = some (some (.builtin "ValueError.__init__")) := by
    have z := I.sin
    unfold PySem.W.ks_superIn at z
    rw [hcl] at z
    exact z
  refine PySem.W.kxs_getMethod PySem.W.kxs_ValueError hso (PySem.W.looks_opaque X2 I.opq) hC2 rfl X2 hal hI2 (PySem.W.ks_ne X2 I2 hcl) rfl ?_
  show wpAny _ _ (callWith _ (.ref h2.objs.size) [] (backTo _ ((false, eval (.Constant (.str msg) j p3) _) :: starEach [] _)) []) _ _ _
  refine PySem.W.kxs_callWith (i := "ValueError.__init__") (x := a) rfl (Calls.evalArgs_plain (Calls.spliced_cons (wpAny_Constant_str (k := j) (pos := p3) (Calls.spliced_nil ⟨Heap.get?_push_size _ rfl, ?_⟩))))
  have kp : ∀ b o, h2.get? b = some o → (h2.push (PySem.W.kxs_mw "ValueError.__init__" a)).get? b = some o := fun b o e => Heap.get?_push_of_some _ e
  refine ini_call (kp _ _ C2) (kp _ _ ho2) (Heap.get?_push_size _ rfl) (by simp [sizeLine_eq]) fun h4 k4 e4 => ?_
  have X4 : K.In h4 := fun b o e => by
    by_cases hb : b = a
    · subst hb
      have z := KX _ _ e
      exact absurd (e0.bs b o (e0.mod.kin _ _ e)).2 (by rw [ea]; exact Option.some_ne_none _)
    · exact k4 b o hb (kp _ _ (X2 _ _ e))
  have La : hp0.objs.size ≠ a := Nat.ne_of_gt (Heap.lt_size ho)
  have hL4 : h4.get? hp0.objs.size = some oL := k4 _ _ La (kp _ _ (k2 _ _ hL))
  refine PySem.ks_wpAt_execs_cons (wpAt_of_wpAny (plainObj_wpAny_Assign_Attribute (wpAny_Name (wpAny_loadName_local hkind nF ⟨oL, esL, epL, hL4, rL⟩ mf (wpAny_Name (wpAny_loadName_local hkind nSelf ⟨oL, esL, epL, hL4, rL⟩ mself ?_) (by decide))) hdb) (by rfl)))
  refine PySem.W.set_plain X4 (show PySem.W.InstAt h4 a _ C none from ⟨e4, rfl, rfl, trivial⟩) I.T.sa (PySem.HandSPX.exc_osa X4 e4 hcl (show PySem.HandSPX.refsVE (.ref C :: bm) = true from hbm) rfl I.no (fun h5 tk5 dx k5 dn dne hx hn => ?_))
  refine wpAt_of_wpAny (wpAny_execs_nil ?_)
  show CE outer P w H _ Q .none _
  have kk : ∀ b o, b ≠ a → hp0.get? b = some o → h5.get? b = some o := fun b o hb e => k5 b o hb (k4 b o hb (kp _ _ (k2 _ _ (hk _ _ e))))
  have hsz : hp0.objs.size ≤ dx := Nat.le_trans (Nat.le_of_lt (Heap.lt_size hL4)) dn
  have hnd : H dx = none := e0.hok.fresh hsz
  have nd : ∀ {b : Addr} {o : Obj}, hp0.get? b = some o → b ≠ dx := fun {b o} e => Nat.ne_of_lt (Nat.lt_of_lt_of_le (Heap.lt_size e) hsz)
  have na : ∀ {b : Addr}, H b = none → b ≠ a := fun {b} n z => by
    rw [z, ea] at n
    cases n
  refine ⟨.non, _, rfl, e0.bare, ?_, fun b o e => ?_, rfl, q dx hnd dne⟩
  · exact {
      keep := fun b o e n _ _ => kk b o (na n) e
      slot := fun b o e n _ _ => ⟨o.slots, kk b o (na n) e⟩
      free := fun b o e n _ => by rw [upd_ne (na n), upd_ne (nd e)]; exact n
      there := fun b o e _ => by
        by_cases hb : b = a
        · exact ⟨_, by rw [hb]; exact hx⟩
        · exact ⟨o, kk b o hb e⟩
      tups := fun b xs e => by rw [upd_ne (at_ne ea e exo_tup), upd_ne (ne_of_none e hnd)]; exact e
      frzs := fun b o v e => by rw [upd_ne (at_ne ea e exo_frz), upd_ne (ne_of_none e hnd)]; exact e
      tbls := fun b ps e => ⟨#[], by rw [upd_ne (at_ne ea e exo_tbl), upd_ne (ne_of_none e hnd), e]; simp⟩ }
  · by_cases hb : b = a
    · subst hb
      rw [upd_same] at e
      cases e
      exact exo_ok hx
    · rw [upd_ne hb] at e
      by_cases hd : b = dx
      · subst hd
        rw [upd_same] at e
        cases e
        exact exd_ok hn (relO_put (fs := []) ru fun g => True.intro)
      · rw [upd_ne hd] at e
        exact (e0.hok b o e).stay (fun c v hc z => kk c v (by
            rcases hc with hc | hc
            · rw [hc]
              exact hb
            · exact at_ne ea hc exo_own) z)
          (fun c hc => by rw [upd_ne (at_ne ea hc exo_own), upd_ne (ne_of_none hc hnd)]; exact hc) (fun c xs hc => by rw [upd_ne (at_ne ea hc exo_tup), upd_ne (ne_of_none hc hnd)]; exact hc)
/-- an exception class with the field f -/
structure XF (P : Program) (K : PySem.W.Frag) (mg : Str → Option Value) (x f : Str) : Prop where
  ex : ∃ C, mg x = some (.ref C) ∧ IniC P K mg C f
theorem XF.some {P : Program} {K : PySem.W.Frag} {mg : Str → Option Value} {x f : Str} (h : XF P K mg x f) : ∃ c, mg x = some c := by
  obtain ⟨C, m, _⟩ := h.ex
  exact ⟨_, m⟩
/-- its fields can be read -/
def XfOk (K : PySem.W.Frag) (cls : Value) (n : Str) : Prop := ∃ C, cls = .ref C ∧ XfC K C ∧ PySem.W.findIn K (.ref C) n = some none
theorem XF.ok {P : Program} {K : PySem.W.Frag} {mg : Str → Option Value} {x f : Str} (h : XF P K mg x f) {c : Value} (hc : mg x = Option.some c) : XfOk K c f := by
  obtain ⟨C, m, I⟩ := h.ex
  rw [m] at hc
  cases hc
  exact ⟨C, rfl, I.xf, I.no⟩
/-- raise C(e) -/
def dRaise1 (mg : Str → Option Value) (x f : Str) (dr : DA) (WD : DS → DX) : DSt := fun _ δ M => dr δ M fun xs M1 => ∃ y, xs = [y] ∧ ∀ c, mg x = some c → WD δ c [(f, y)] M1
section
variable {X : Cx} {B : Am} {x f : Str} {p pos pos' : Pos} {e : Expr} {es : List Expr} {dr : DA} {WD : DS → DX}
theorem s_raise1 {P : Program} {K : PySem.W.Frag} {mg : Str → Option Value} (hc : X.calm = true) (h : XF P K mg x f) (hg : Gl X x) (hr : Room 1 X.A) (tk : TkX X B WD) (ha : PA3 X B (e :: es) dr) (hP : X.prog = P := by rfl) (hK : X.K = K := by rfl) (hmg : X.mg = mg := by rfl) (hdb : (x == ("__debug__" : Str)) = false := by decide)
    (he : starEach (e :: es) X.env = (false, eval e X.env) :: starEach es X.env := by rfl) (hpl : (backTo pos (starEach es X.env)).any (·.1) = false := by rfl) : PS3 X B (.Raise (some (.Call (.Name x p) (e :: es) [] pos)) none pos') (dRaise1 mg x f dr WD) := by
  subst hP
  subst hK
  subst hmg
  obtain ⟨C, m, I⟩ := h.ex
  obtain ⟨W, tw, tr⟩ := tk.ex
  obtain ⟨ta, a1, a2⟩ := ha.ex
  obtain ⟨fI, fd, i1, i2, FN, bi⟩ := fn_ini (CX := fun _ _ _ _ _ _ => False) (P := X.prog) (w := X.w) (base := X.base) (k := 0) I
  refine ⟨_, ps_raise hc tw (pmk_oex (ds := []) (dvs := []) I.T i1 i2 FN hr bi .nil (fun _ _ _ _ _ _ _ z => z.elim) hg m a1 hdb he hpl), fun σ H δ M D Dd sl rep bb q eo => ?_⟩
  refine a2 σ H δ M _ _ sl rep bb q fun vs H1 xs M1 g rep1 rs _ q1 => ?_
  obtain ⟨y, rfl, q1⟩ := q1
  obtain ⟨v, vs', rfl, rv, rs1⟩ := rs.ucons
  have := rs1.unil
  subst this
  refine ⟨by simp, fun a na => ⟨a, v, rfl, upd_same, fun dx nd ne => ⟨rfl, dx, [(f, v)], upd_same, by rw [upd_ne ne, upd_same], by rw [upd_ne ne] at nd; exact nd, ?_⟩⟩⟩
  rw [upd_ne ne] at nd
  have eu : upd (del (upd (upd (upd H1 a (exo a C none)) dx (exd dx [(f, v)])) a (exo a C (some dx))) a) dx (.xd [(f, v)]) = upd H1 dx (.xd [(f, v)]) := by
    funext b
    by_cases hb : b = dx
    · subst hb; rw [upd_same, upd_same]
    · rw [upd_ne hb, upd_ne hb]
      by_cases ha : b = a
      · subst ha; rw [del_same, na]
      · rw [del_ne ha, upd_ne ha, upd_ne hb, upd_ne ha]
  rw [eu]
  exact tr _ _ _ _ δ M1 [(f, y)] ((sl.mono (rep.tx g)).mono (tx_new nd)) (rep1.tup nd) (B.pres _ _ _ _ (go_tup nd) (B.pres _ _ _ _ g bb)) (.inr ⟨dx, [(f, v)], rfl, by simp, upd_same, .cons ⟨rfl, rv.mono (tx_new nd)⟩ .nil⟩) (q1 _ m)
theorem RK.look {K : PySem.W.Frag} {H : Hp} {n : Str} {y : D} : ∀ {fs : List (Str × D)} {ws : List (Str × V)}, RK K H fs ws → fs.lookup n = some y → ∃ w, ws.lookup n = some w ∧ R K H y w
  | _, _, .nil, h => by cases h
  | (k, d) :: fs, (k', v) :: ws, .cons r t, h => by
    obtain ⟨e, rv⟩ := r
    have e' : k = k' := e
    subst e'
    rw [List.lookup_cons] at h ⊢
    by_cases hn : (n == k) = true
    · rw [hn] at h ⊢
      cases h
      exact ⟨v, rfl, rv⟩
    · have hn' : (n == k) = false := by simpa using hn
      rw [hn'] at h ⊢
      exact RK.look t h
/-- e.n of what is caught -/
def dExF (K : PySem.W.Frag) (a : Addr) (cls : Value) (fs : List (Str × D)) (n : Str) (de : DE) : DE := fun δ M Q => de δ M fun x M1 => x = .ref a ∧ XfOk K cls n ∧ ∃ y, fs.lookup n = some y ∧ Q y M1
theorem e_exf {K : PySem.W.Frag} {a : Addr} {oe : Obj} {cls : Value} {d : Option Addr} {fs : List (Str × D)} {pn : List (Addr × Obj)} {n : Str} {de : DE} (hz : Zc cls d oe) (hf : ∃ vs, oe.data = .fields vs) (hB : ∀ H M, B.B H M → XR X.K H d fs) (he : PE3 (X.suite a ((a, oe) :: pn)) B e de)
    (hb : attributeBase e n X.env (eval e X.env) = eval e X.env := by rfl) (hK : X.K = K := by rfl) : PE3 (X.suite a ((a, oe) :: pn)) B (.Attribute e n pos) (dExF K a cls fs n de) := by
  subst hK
  obtain ⟨te, h1, h2⟩ := he.ex
  by_cases hC : XfOk X.K cls n
  · obtain ⟨C, rfl, T, hno⟩ := hC
    refine ⟨_, pe_xf T hno hz hf h1 hb, fun σ H δ M Q Qd sl rep bb q kk => ?_⟩
    refine h2 σ H δ M _ _ sl rep bb q fun v H1 x M1 g rep1 r q1 => ?_
    obtain ⟨rfl, _, y, hl, q2⟩ := q1
    rcases hB H1 M1 (B.pres _ _ _ _ g bb) with ⟨_, z⟩ | ⟨b, ws, ed, _, hb1, rk⟩
    · rw [z] at hl; cases hl
    · obtain ⟨w, hw, rw'⟩ := RK.look rk hl
      exact ⟨r.ref_, rfl, b, ws, w, ed, hb1, hw, kk w H1 y M1 g rep1 rw' q2⟩
  · refine ⟨fun σ H Q => te σ H fun _ _ => False, ⟨fun pins s σ H Q I h => attr_of hb (thn (h1.run pins s σ H _ I h) fun u s1 ⟨x, H1, I1, rx, z⟩ => z.elim)⟩, fun σ H δ M Q Qd sl rep bb q kk => ?_⟩
    refine h2 σ H δ M _ _ sl rep bb q fun v H1 x M1 g rep1 r q1 => ?_
    exact hC q1.2.1
/-- a class of the program, as a value -/
def dCls (mg : Str → Option Value) (x : Str) : DE := fun _ M Q => ∀ C, mg x = some (.ref C) → Q (.ref C) M
theorem e_clsX {mg : Str → Option Value} (h : ∃ C, mg x = some (.ref C)) (hg : Gl X x) (hmg : X.mg = mg := by rfl) (hd : (x == ("__debug__" : Str)) = false := by decide) : PE3 X B (.Name x pos) (dCls mg x) := by
  subst hmg
  obtain ⟨C, hm⟩ := h
  exact ⟨_, pe_glob (v := .ref C) hg hm rfl hd, fun σ H δ M Q Qd sl rep _ h' q => q _ H _ M Go.refl rep R.ref' (h' C hm)⟩
end
theorem XC.cls {K : PySem.W.Frag} {mg : Str → Option Value} {x : Str} (h : XC K mg x) : ∃ C, mg x = Option.some (.ref C) := ⟨_, h.at_⟩
theorem XF.cls {P : Program} {K : PySem.W.Frag} {mg : Str → Option Value} {x f : Str} (h : XF P K mg x f) : ∃ C, mg x = Option.some (.ref C) := by
  obtain ⟨C, m, _⟩ := h.ex
  exact ⟨_, m⟩
/-- isinstance(e, z) of what is caught: b -/
def IsE (K : PySem.W.Frag) (cls : Value) (z : D) (b : Bool) : Prop := ∃ D0, cls = .ref D0 ∧ ExcC K D0 ∧ ((∃ c, z = .ref c ∧ PySem.W.kitOne K (.ref D0) (.ref c) = some b) ∨ ∃ n, z = .ty n ∧ PySem.W.kitOne K (.ref D0) (.type n) = some b)
def dIsX (K : PySem.W.Frag) (a : Addr) (cls : Value) (d : Option Addr) : DRL := fun xs M Q => ∃ (z : D) (b : Bool), xs = [.ref a, z] ∧ d = none ∧ IsE K cls z b ∧ Q (.bl b) M
theorem cd_isX {K : PySem.W.Frag} {X : Cx} {a : Addr} {oe : Obj} {cls : Value} {d : Option Addr} {pn : List (Addr × Obj)} (hz : Zc cls d oe) (hf : ∃ vs, oe.data = .fields vs) (hK : X.K = K := by rfl) : CallD (X.suite a ((a, oe) :: pn)) (.builtin "isinstance") (dIsX K a cls d) := by
  subst hK
  refine ⟨fun vs H Q => ∃ (D0 : Addr) (c : V) (cv : Value) (b : Bool), cls = .ref D0 ∧ d = none ∧ ExcC X.K D0 ∧ vs = [.ref a, c] ∧ (∀ u, RelV c u → u = cv) ∧ PySem.W.kitOne X.K (.ref D0) cv = some b ∧ Q (.bl b) H, ?_, ?_⟩
  · intro pins s σ H xs us Q I r h
    obtain ⟨D0, c, cv, b, rfl, rfl, hc, rfl, hu, e, q⟩ := h
    exact call_isE hc hz hf pins s σ H _ us Q I r ⟨c, cv, b, rfl, hu, e, q⟩
  · intro H M xs vs Q Qd rep rs h q
    obtain ⟨z, b, rfl, e2, ⟨D0, e1, hc, hk⟩, qq⟩ := h
    obtain ⟨v1, vs1, rfl, r1, rs1⟩ := rs.ucons
    obtain ⟨v2, vs2, rfl, r2, rs2⟩ := rs1.ucons
    have := rs2.unil
    subst this
    rcases hk with ⟨c, rfl, hk⟩ | ⟨n, rfl, hk⟩
    · exact ⟨D0, .ref c, .ref c, b, e1, e2, hc, by rw [r1.ref_, r2.ref_], fun u h => h, hk, q _ _ _ _ Go.refl rep R.bl' qq⟩
    · exact ⟨D0, .ty n, .type n, b, e1, e2, hc, by rw [r1.ref_, r2.ty_], fun u h => h, hk, q _ _ _ _ Go.refl rep R.bl' qq⟩
/-- the facts of it -/
def XIc (K : PySem.W.Frag) (mg : Str → Option Value) (x y : Str) (b : Bool) : Prop := ∀ c C, mg x = some c → mg y = some (.ref C) → IsE K c (.ref C) b
def XIt (K : PySem.W.Frag) (mg : Str → Option Value) (x : Str) (n : String) (b : Bool) : Prop := ∀ c, mg x = some c → IsE K c (.ty n) b
section
variable {K : PySem.W.Frag} {h : Heap} {mg : Str → Option Value} {x y : Str} {C C' : Addr} {b : Bool}
def excCB (K : PySem.W.Frag) (C : Addr) : Bool := decide (PySem.W.findIn K (.ref C) "__getattribute__" = some (some (.builtin "BaseException.__getattribute__"))) && (decide (PySem.W.findIn K (.ref C) "__getattr__" = some none) && (decide (PySem.W.subIn K (.ref C) (.type "BaseException") = some true) && (PySem.W.hasDictIn K C &&
  (decide (PySem.W.findIn K (.ref C) "__class__" = some (some (.builtin "object.__class__"))) && (decide (PySem.W.specialIn K (.builtin "object.__class__") "__get__" = some (some (.builtin "getset_descriptor.__get__"))) && (decide (PySem.W.takesIn K (.builtin "object.__class__") = some true) && decide (PySem.W.mroIn K C (.type "object") = some true)))))))
theorem excCB_ok (h : excCB K C = true) : ExcC K C := by
  obtain ⟨h1, h⟩ := Bool.and_eq_true_iff.mp h
  obtain ⟨h2, h⟩ := Bool.and_eq_true_iff.mp h
  obtain ⟨h3, h⟩ := Bool.and_eq_true_iff.mp h
  obtain ⟨h4, h⟩ := Bool.and_eq_true_iff.mp h
  obtain ⟨h5, h⟩ := Bool.and_eq_true_iff.mp h
  obtain ⟨h6, h⟩ := Bool.and_eq_true_iff.mp h
  obtain ⟨h7, h8⟩ := Bool.and_eq_true_iff.mp h
  exact ⟨of_decide_eq_true h1, of_decide_eq_true h2, of_decide_eq_true h3, h4, of_decide_eq_true h5, of_decide_eq_true h6, of_decide_eq_true h7, of_decide_eq_true h8⟩
theorem xi_mk (X : K.In h) (G : h.Ns mainGlobals mg) (a : PySem.W.nsIn K mainGlobals x = some (some (.ref C))) (a' : PySem.W.nsIn K mainGlobals y = some (some (.ref C'))) (e : excCB K C = true) (k : PySem.W.kitOne K (.ref C) (.ref C') = some b) : XIc K mg x y b := fun c D0 e1 e2 => by
  rw [PySem.W.mg_of X G a] at e1
  rw [PySem.W.mg_of X G a'] at e2
  cases e1; cases e2
  exact ⟨C, rfl, excCB_ok e, .inl ⟨_, rfl, k⟩⟩
theorem xt_mk {n : String} (X : K.In h) (G : h.Ns mainGlobals mg) (a : PySem.W.nsIn K mainGlobals x = some (some (.ref C))) (e : excCB K C = true) (k : PySem.W.kitOne K (.ref C) (.type n) = some b) : XIt K mg x n b := fun c e1 => by
  rw [PySem.W.mg_of X G a] at e1
  cases e1
  exact ⟨C, rfl, excCB_ok e, .inr ⟨_, rfl, k⟩⟩
end
theorem exOne {a : D} {R : D → Prop} : (∃ y, [a] = [y] ∧ R y) ↔ R a := ⟨fun ⟨_, e, h⟩ => by cases e; exact h, fun h => ⟨_, rfl, h⟩⟩
theorem dTryA_g {K : PySem.W.Frag} {mg : Str → Option Value} {x : Str} {i : Nat} {db : (DS → DX) → DSt} {du : Addr → Value → Option Addr → List (Str × D) → DSt} {WD : DS → DX} {En : DEnds} {δ : DS} {M : Hd}
    (h : ∀ (F : DS → Hd → Prop) (DB : (DS → DX) → DSt) (U : Addr → Value → Option Addr → List (Str × D) → DSt), (∀ δ M, F δ M ↔ En.nx δ M) → DB = db → U = du → dTryA K mg x i DB U WD { En with nx := F } δ M) : dTryA K mg x i db du WD En δ M := h En.nx db du (fun _ _ => Iff.rfl) rfl rfl
theorem dSetC {i : Nat} {d : D} {En : DEnds} {δ : DS} {M : Hd} : dSet i (dC d) En δ M ↔ En.nx (δ.set i (some d)) M := Iff.rfl
/-- the facts of a class with a field, one by one -/
theorem xf_mk {P : Program} {K : PySem.W.Frag} {h : Heap} {mg : Str → Option Value} {x f : Str} {C fI cc cda : Addr} {nm q : Str} {N : Addr} {bs bm : List Value} {sn : List Str} {sub : List Value} {ab : Bool} {col : Option Bool} {dd : Option Addr} {k0 k1 k2 k3 k5 : Option Value}
    {name qual : Str} {params : Arguments} {scope : Scope} {dV kV doc pm ct oc ccl cl : Value} {an od cdd cld : Option Addr} {osl ccs csl : Array (Option Value)} {vs : Array Value} {file : Str} {tf : Tok} {msg : Str} {p0 p1 p2 p4 p5 p6 p7 p8 p9 : Pos} {j : Nat} {p3 : Pos}
    (X : K.In h) (G : h.Ns mainGlobals mg)
    (a : PySem.W.nsIn K mainGlobals x = some (some (.ref C)))
    (lC : K.lookup C = some (excClassObj nm q C N bs bm true sn sub ab col dd k0 k1 k2 k3 k5 "ValueError.__new__"))
    (hb : PySem.HandSPX.refsVE bm = true)
    (sa : PySem.W.findIn K (.ref C) "__setattr__" = some (some (.builtin "object.__setattr__")))
    (sb : PySem.W.subIn K (.ref C) (.type "BaseException") = some true)
    (ty : PySem.W.typeIn K (.ref C) = some (.type "type"))
    (kp : PySem.W.keepIn K (.ref C) = true)
    (ga : PySem.W.findIn K (.ref C) "__getattribute__" = some (some (.builtin "BaseException.__getattribute__")))
    (gg : PySem.W.findIn K (.ref C) "__getattr__" = some none)
    (hd : PySem.W.hasDictIn K C = true)
    (no : PySem.W.findIn K (.ref C) f = some none)
    (su : PySem.W.nsIn K mainGlobals "super" = some none)
    (top : (P.main.scope.names.lookup ("super" : Str)).isSome = false)
    (opq : PySem.W.nsIn K cStatics "thirdparty.any" = some none)
    (sin : PySem.W.ks_superIn K C C "__init__" = some (some (.builtin "ValueError.__init__")))
    (sve : PySem.W.subIn K (.ref C) (.type "ValueError") = some true)
    (mro : PySem.W.mroIn K C (.ref C) = some true)
    (i1 : PySem.W.findIn K (.ref C) "__init__" = some (some (.ref fI)))
    (i2 : PySem.W.typeIn K (.ref fI) = some (.type "function"))
    (lf : K.lookup fI = some ⟨oc, od, .func (PySem.W.fnX name qual params [.Expr (.Call (.Attribute (.Call (.Name "super" p0) [] [] p1) "__init__" p2) [.Constant (.str msg) j p3] [] p4) p5, .Assign [.Attribute (.Name "self" p6) f p7] (.Name f p8) p9] scope [("__class__", cc)] dV kV doc pm an (.ref cda) ct), osl⟩)
    (cd : PySem.W.codeIn K (.ref cda) qual = true)
    (lcd : K.lookup cda = some ⟨ccl, cdd, .fields vs, ccs⟩)
    (hvs : vs[2]? = some (.str file tf))
    (hfi : ((P.main.file : Str) == file) = true)
    (lcc : K.lookup cc = some ⟨cl, cld, .cell (some (.ref C)), csl⟩)
    (z0 : (params.posonlyargs ++ params.args).head?.map (·.arg) = some ("self" : Str))
    (z1 : scope.names.lookup ("super" : Str) = some .globalImplicit)
    (z2 : scope.names.lookup ("__class__" : Str) = some .free)
    (z3 : scope.names.lookup ("self" : Str) = some .local)
    (z4 : scope.names.lookup f = some .local)
    (z5 : scope.kind = .function)
    (z6 : ∀ x ∈ scope.names, x.2 ≠ .cell)
    (z7 : scope.isCoroutine = false)
    (z8 : scope.isGenerator = false)
    (z9 : ("self" : Str) ≠ f)
    (zA : (f == ("__debug__" : Str)) = false)
    (zB : (p2.endLine == p4.line) = true)
    (zC : ∀ us : List Value, us.length = 2 → bindArgs (PySem.W.fnX name qual params [.Expr (.Call (.Attribute (.Call (.Name "super" p0) [] [] p1) "__init__" p2) [.Constant (.str msg) j p3] [] p4) p5, .Assign [.Attribute (.Name "self" p6) f p7] (.Name f p8) p9] scope [("__class__", cc)] dV kV doc pm an (.ref cda) ct) ⟨us, []⟩ = pure (([("self" : Str), f]).zip us)) : XF P K mg x f :=
  ⟨C, PySem.W.mg_of X G a, ⟨⟨⟨nm, q, N, bs, bm, sn, sub, ab, col, dd, k0, k1, k2, k3, k5, lC, hb⟩, sa, sb, ty, kp⟩, ⟨ga, gg, sb, hd⟩, no, PySem.W.mg_none_of X G su, top, opq, sin, sve, mro,
    fI, i1, i2, name, qual, params, scope, dV, kV, doc, pm, ct, oc, ccl, cl, an, od, cdd, cld, osl, ccs, csl, cc, cda, vs, file, tf, msg, p0, p1, p2, p4, p5, p6, p7, p8, p9, j, p3, lf, cd, lcd, hvs, hfi, lcc, z0, z1, z2, z3, z4, z5, z6, z7, z8, z9, zA, zB, zC⟩⟩
end T3
namespace T3
open PySem PySem.Spec PyProof.Rows L2
/-! ### loops and comprehensions, read -/
theorem forN {xs : List D} (I : Nat → DS → Hd → Prop) {δ : DS} {M1 : Hd} {Z : (List D → DS → Hd → Prop) → List D → D → DS → Hd → Prop} {F : DS → Hd → Prop}
    (h0 : I 0 δ M1)
    (step : ∀ i x δ' M' pre P', xs[i]? = some x → I i δ' M' → (∀ δ M, I (i + 1) δ M → P' (pre ++ [x]) δ M) → Z P' pre x δ' M')
    (fin : ∀ δ' M', I xs.length δ' M' → F δ' M') :
    ∃ P : List D → DS → Hd → Prop, P [] δ M1 ∧ (∀ pre x post δ' M', xs = pre ++ x :: post → P pre δ' M' → Z P pre x δ' M') ∧ ∀ δ' M', P xs δ' M' → F δ' M' :=
  ⟨fun pre δ M => I pre.length δ M, h0, fun pre x post δ' M' e p => step pre.length x δ' M' pre _ (by rw [e]; simp) p fun δ M h => by rw [List.length_append]; exact h, fin⟩
theorem forL {α : Type} (f : α → D) (xs : List α) (I : List α → DS → Hd → Prop) {δ : DS} {M1 : Hd} {Z : (List D → DS → Hd → Prop) → List D → D → DS → Hd → Prop} {F : DS → Hd → Prop} {ds : List D}
    (hd : ds = xs.map f) (h0 : I [] δ M1)
    (step : ∀ l a r δ' M' pre P', xs = l ++ a :: r → I l δ' M' → (∀ δ M, I (l ++ [a]) δ M → P' (pre ++ [f a]) δ M) → Z P' pre (f a) δ' M')
    (fin : ∀ δ' M', I xs δ' M' → F δ' M') :
    ∃ P : List D → DS → Hd → Prop, P [] δ M1 ∧ (∀ pre x post δ' M', ds = pre ++ x :: post → P pre δ' M' → Z P pre x δ' M') ∧ ∀ δ' M', P ds δ' M' → F δ' M' := by
  subst hd
  refine ⟨fun pre δ M => I (xs.take pre.length) δ M, h0, fun pre x post δ' M' e p => ?_, fun δ' M' p => fin δ' M' (by simpa using p)⟩
  obtain ⟨l, r, e1, e2, e3⟩ := List.map_eq_append_iff.mp e
  obtain ⟨a, r, rfl, rfl, e5⟩ := List.map_eq_cons_iff.mp e3
  subst e1; subst e2
  have p : I l δ' M' := by simpa using p
  refine step l a r δ' M' (l.map f) _ rfl p fun δ M h => ?_
  have : (l ++ a :: r).take (l.map f ++ [f a]).length = l ++ [a] := by
    rw [List.length_append, List.length_map, List.length_singleton, List.take_length_add_append]
    simp
  rw [this]
  exact h
theorem lcN {xs : List D} (I : Nat → List D → Hd → Prop) {M1 : Hd} {Z : (List D → List D → Hd → Prop) → List D → D → List D → Hd → Prop} {F : List D → Hd → Prop}
    (h0 : I 0 [] M1)
    (step : ∀ i x acc M' pre P', xs[i]? = some x → I i acc M' → (∀ δ M, I (i + 1) δ M → P' (pre ++ [x]) δ M) → Z P' pre x acc M')
    (fin : ∀ acc M', I xs.length acc M' → F acc M') :
    ∃ P : List D → List D → Hd → Prop, P [] [] M1 ∧ (∀ pre x post acc M', xs = pre ++ x :: post → P pre acc M' → Z P pre x acc M') ∧ ∀ acc M', P xs acc M' → F acc M' :=
  ⟨fun pre δ M => I pre.length δ M, h0, fun pre x post δ' M' e p => step pre.length x δ' M' pre _ (by rw [e]; simp) p fun δ M h => by rw [List.length_append]; exact h, fin⟩
/-- what is built out of the parts alone -/
theorem lcF {α : Type} (f g : α → D) (q : α → Bool) (xs : List α) {M1 : Hd} {Z : (List D → List D → Hd → Prop) → List D → D → List D → Hd → Prop} {F : List D → Hd → Prop} {ds : List D}
    (hd : ds = xs.map f)
    (step : ∀ l a r pre acc P', xs = l ++ a :: r → (q a = true → P' (pre ++ [f a]) (acc ++ [g a]) M1) → (q a = false → P' (pre ++ [f a]) acc M1) → Z P' pre (f a) acc M1)
    (fin : F ((xs.filter q).map g) M1) :
    ∃ P : List D → List D → Hd → Prop, P [] [] M1 ∧ (∀ pre x post acc M', ds = pre ++ x :: post → P pre acc M' → Z P pre x acc M') ∧ ∀ acc M', P ds acc M' → F acc M' := by
  subst hd
  refine ⟨fun pre acc M => acc = ((xs.take pre.length).filter q).map g ∧ M = M1, ⟨rfl, rfl⟩, ?_, ?_⟩
  · rintro pre x post acc M' e ⟨rfl, rfl⟩
    obtain ⟨l, r, e1, e2, e3⟩ := List.map_eq_append_iff.mp e
    obtain ⟨a, r, rfl, rfl, e5⟩ := List.map_eq_cons_iff.mp e3
    subst e1; subst e2
    have e0 : (l ++ a :: r).take (l.map f).length = l := by simp
    have e1 : (l ++ a :: r).take (l.map f ++ [f a]).length = l ++ [a] := by
      rw [List.length_append, List.length_map, List.length_singleton, List.take_length_add_append]
      simp
    rw [e0]
    refine step l a r (l.map f) _ _ rfl (fun hq => ⟨?_, rfl⟩) (fun hq => ⟨?_, rfl⟩)
    · rw [e1, List.filter_append, List.filter_cons, if_pos hq, List.filter_nil, List.map_append]; rfl
    · rw [e1, List.filter_append, List.filter_cons, if_neg (by rw [hq]; simp), List.filter_nil, List.append_nil]
  · rintro acc M' ⟨rfl, rfl⟩
    have : xs.take (xs.map f).length = xs := by rw [List.length_map, List.take_length]
    rw [this]
    exact fin
theorem lcM {α : Type} (f g : α → D) (xs : List α) {M1 : Hd} {Z : (List D → List D → Hd → Prop) → List D → D → List D → Hd → Prop} {F : List D → Hd → Prop} {ds : List D}
    (hd : ds = xs.map f)
    (step : ∀ l a r pre acc P', xs = l ++ a :: r → P' (pre ++ [f a]) (acc ++ [g a]) M1 → Z P' pre (f a) acc M1)
    (fin : F (xs.map g) M1) :
    ∃ P : List D → List D → Hd → Prop, P [] [] M1 ∧ (∀ pre x post acc M', ds = pre ++ x :: post → P pre acc M' → Z P pre x acc M') ∧ ∀ acc M', P ds acc M' → F acc M' :=
  lcF f g (fun _ => true) xs hd (fun l a r pre acc P' e h _ => step l a r pre acc P' e (h rfl)) (by rw [List.filter_eq_self.mpr fun _ _ => rfl]; exact fin)
/-- a dict of the parts alone -/
theorem dcM {α : Type} (f : α → D) (kf : α → Key) (g : α → D) (xs : List α) {M1 : Hd} {Z : (List D → List (Key × D) → Hd → Prop) → List D → D → List (Key × D) → Hd → Prop} {F : List (Key × D) → Hd → Prop} {ds : List D}
    (hd : ds = xs.map f)
    (step : ∀ l a r pre acc P', xs = l ++ a :: r → P' (pre ++ [f a]) (putKD acc (kf a) (g a)) M1 → Z P' pre (f a) acc M1)
    (fin : F (xs.foldl (fun acc a => putKD acc (kf a) (g a)) []) M1) :
    ∃ P : List D → List (Key × D) → Hd → Prop, P [] [] M1 ∧ (∀ pre x post acc M', ds = pre ++ x :: post → P pre acc M' → Z P pre x acc M') ∧ ∀ acc M', P ds acc M' → F acc M' := by
  subst hd
  refine ⟨fun pre acc M => acc = (xs.take pre.length).foldl (fun acc a => putKD acc (kf a) (g a)) [] ∧ M = M1, ⟨rfl, rfl⟩, ?_, ?_⟩
  · rintro pre x post acc M' e ⟨rfl, rfl⟩
    obtain ⟨l, r, e1, e2, e3⟩ := List.map_eq_append_iff.mp e
    obtain ⟨a, r, rfl, rfl, e5⟩ := List.map_eq_cons_iff.mp e3
    subst e1; subst e2
    have e0 : (l ++ a :: r).take (l.map f).length = l := by simp
    have e1 : (l ++ a :: r).take (l.map f ++ [f a]).length = l ++ [a] := by
      rw [List.length_append, List.length_map, List.length_singleton, List.take_length_add_append]
      simp
    rw [e0]
    refine step l a r (l.map f) _ _ rfl ⟨?_, rfl⟩
    rw [e1, List.foldl_append]; rfl
  · rintro acc M' ⟨rfl, rfl⟩
    have : xs.take (xs.map f).length = xs := by rw [List.length_map, List.take_length]
    rw [this]
    exact fin
theorem dFor_g {di : DI} {g : Tg} {tb : DSt} {En : DEnds} {δ : DS} {M : Hd} (h : ∀ (F : DS → Hd → Prop) (T : DSt), (∀ δ M, F δ M ↔ En.nx δ M) → T = tb → dFor di g T { En with nx := F } δ M) : dFor di g tb En δ M := h En.nx tb (fun _ _ => Iff.rfl) rfl
theorem dWhile_g {c : DT} {tb : DSt} {En : DEnds} {δ : DS} {M : Hd} (h : ∀ (F : DS → Hd → Prop) (C : DT) (T : DSt), (∀ δ M, F δ M ↔ En.nx δ M) → C = c → T = tb → dWhile C T { En with nx := F } δ M) : dWhile c tb En δ M := h En.nx c tb (fun _ _ => Iff.rfl) rfl rfl
theorem dLc_g {di : DI} {g : Tg} {dt : DT} {de : DE} {vs : List Nat} {δ : DS} {M : Hd} {Q : DK} (h : ∀ (F : DK) (T : DT) (U : DE), (∀ x M, F x M ↔ Q x M) → T = dt → U = de → dLc di g T U vs δ M F) : dLc di g dt de vs δ M Q := h Q dt de (fun _ _ => Iff.rfl) rfl rfl
theorem dDc_g {di : DI} {g : Tg} {dt : DT} {dk dv : DE} {vs : List Nat} {δ : DS} {M : Hd} {Q : DK} (h : ∀ (F : DK) (T : DT) (U V : DE), (∀ x M, F x M ↔ Q x M) → T = dt → U = dk → V = dv → dDc di g T U V vs δ M F) : dDc di g dt dk dv vs δ M Q := h Q dt dk dv (fun _ _ => Iff.rfl) rfl rfl rfl
theorem LS_up {M : Hd} {p : Addr} {l xs : List D} : LS (up M p (.lst l)) p xs ↔ xs = l := by
  unfold LS
  rw [up_same]
  simp [eq_comm]
theorem ls_lst {M : Hd} {p : Addr} {l xs : List D} (h : M p = some (.lst l)) : LS M p xs ↔ xs = l := by
  unfold LS
  rw [h]
  simp [eq_comm]
theorem ls_fz {M : Hd} {p : Addr} {l xs : List D} (h : M p = some (.fz l)) : LS M p xs ↔ xs = l := by
  unfold LS
  rw [h]
  simp [eq_comm]
/-! ### isinstance, reckoned -/
theorem mt_int : "int" ∈ ["int", "bool", "str", "tuple", "list", "dict"] := by decide
theorem st_int_int : subT "int" "int" = true := by decide
theorem st_bool_int : subT "bool" "int" = true := by decide
theorem st_str_int : subT "str" "int" = false := by decide
theorem st_tuple_int : subT "tuple" "int" = false := by decide
theorem st_list_int : subT "list" "int" = false := by decide
theorem st_dict_int : subT "dict" "int" = false := by decide
theorem mt_bool : "bool" ∈ ["int", "bool", "str", "tuple", "list", "dict"] := by decide
theorem st_int_bool : subT "int" "bool" = false := by decide
theorem st_bool_bool : subT "bool" "bool" = true := by decide
theorem st_str_bool : subT "str" "bool" = false := by decide
theorem st_tuple_bool : subT "tuple" "bool" = false := by decide
theorem st_list_bool : subT "list" "bool" = false := by decide
theorem st_dict_bool : subT "dict" "bool" = false := by decide
theorem mt_str : "str" ∈ ["int", "bool", "str", "tuple", "list", "dict"] := by decide
theorem st_int_str : subT "int" "str" = false := by decide
theorem st_bool_str : subT "bool" "str" = false := by decide
theorem st_str_str : subT "str" "str" = true := by decide
theorem st_tuple_str : subT "tuple" "str" = false := by decide
theorem st_list_str : subT "list" "str" = false := by decide
theorem st_dict_str : subT "dict" "str" = false := by decide
theorem mt_tuple : "tuple" ∈ ["int", "bool", "str", "tuple", "list", "dict"] := by decide
theorem st_int_tuple : subT "int" "tuple" = false := by decide
theorem st_bool_tuple : subT "bool" "tuple" = false := by decide
theorem st_str_tuple : subT "str" "tuple" = false := by decide
theorem st_tuple_tuple : subT "tuple" "tuple" = true := by decide
theorem st_list_tuple : subT "list" "tuple" = false := by decide
theorem st_dict_tuple : subT "dict" "tuple" = false := by decide
theorem mt_list : "list" ∈ ["int", "bool", "str", "tuple", "list", "dict"] := by decide
theorem st_int_list : subT "int" "list" = false := by decide
theorem st_bool_list : subT "bool" "list" = false := by decide
theorem st_str_list : subT "str" "list" = false := by decide
theorem st_tuple_list : subT "tuple" "list" = false := by decide
theorem st_list_list : subT "list" "list" = true := by decide
theorem st_dict_list : subT "dict" "list" = false := by decide
theorem mt_dict : "dict" ∈ ["int", "bool", "str", "tuple", "list", "dict"] := by decide
theorem st_int_dict : subT "int" "dict" = false := by decide
theorem st_bool_dict : subT "bool" "dict" = false := by decide
theorem st_str_dict : subT "str" "dict" = false := by decide
theorem st_tuple_dict : subT "tuple" "dict" = false := by decide
theorem st_list_dict : subT "list" "dict" = false := by decide
theorem st_dict_dict : subT "dict" "dict" = true := by decide
theorem up_comm {M : Hd} {a b : Addr} {o u : O} (h : a ≠ b) : up (up M a o) b u = up (up M b u) a o := by
  funext c
  unfold up
  by_cases h1 : c = b
  · subst h1
    have : ¬ c = a := fun z => h z.symm
    simp [this]
  · simp [h1]
/-! ### the slots, looked up at once -/
theorem dVar0 {a : D} {δ : DS} {M : Hd} {Q : DK} : dVar 0 (some a :: δ) M Q ↔ Q a M := ⟨fun ⟨_, e, h⟩ => by cases e; exact h, fun h => ⟨a, rfl, h⟩⟩
theorem dAug0 {a : D} {δ : DS} {M : Hd} {de : DE} {rd : DR2} {En : DEnds} : dAug 0 de rd En (some a :: δ) M ↔ de (some a :: δ) M fun y M1 => rd a y M1 fun z M2 => En.nx (some z :: δ) M2 := ⟨fun ⟨_, e, h⟩ => by cases e; exact h, fun h => ⟨a, rfl, h⟩⟩
theorem dSet0 {y : Option D} {δ : DS} {M : Hd} {de : DE} {En : DEnds} : dSet 0 de En (y :: δ) M ↔ de (y :: δ) M fun z M1 => En.nx (some z :: δ) M1 := Iff.rfl
theorem dTgN0 {y : Option D} {z : D} {δ : DS} {Q : DS → Prop} : dTg (.nm 0) z (y :: δ) Q ↔ Q (some z :: δ) := Iff.rfl
theorem dTgW0 {y : Option D} {z : D} {δ : DS} {Q : DS → Prop} : dTg (.nm 0) z (wipeD (y :: δ) [0]) Q ↔ Q (some z :: δ) := Iff.rfl
theorem dVar1 {x0 : Option D} {a : D} {δ : DS} {M : Hd} {Q : DK} : dVar 1 (x0 :: some a :: δ) M Q ↔ Q a M := ⟨fun ⟨_, e, h⟩ => by cases e; exact h, fun h => ⟨a, rfl, h⟩⟩
theorem dAug1 {x0 : Option D} {a : D} {δ : DS} {M : Hd} {de : DE} {rd : DR2} {En : DEnds} : dAug 1 de rd En (x0 :: some a :: δ) M ↔ de (x0 :: some a :: δ) M fun y M1 => rd a y M1 fun z M2 => En.nx (x0 :: some z :: δ) M2 := ⟨fun ⟨_, e, h⟩ => by cases e; exact h, fun h => ⟨a, rfl, h⟩⟩
theorem dSet1 {x0 : Option D} {y : Option D} {δ : DS} {M : Hd} {de : DE} {En : DEnds} : dSet 1 de En (x0 :: y :: δ) M ↔ de (x0 :: y :: δ) M fun z M1 => En.nx (x0 :: some z :: δ) M1 := Iff.rfl
theorem dTgN1 {x0 : Option D} {y : Option D} {z : D} {δ : DS} {Q : DS → Prop} : dTg (.nm 1) z (x0 :: y :: δ) Q ↔ Q (x0 :: some z :: δ) := Iff.rfl
theorem dTgW1 {x0 : Option D} {y : Option D} {z : D} {δ : DS} {Q : DS → Prop} : dTg (.nm 1) z (wipeD (x0 :: y :: δ) [1]) Q ↔ Q (x0 :: some z :: δ) := Iff.rfl
theorem dVar2 {x0 x1 : Option D} {a : D} {δ : DS} {M : Hd} {Q : DK} : dVar 2 (x0 :: x1 :: some a :: δ) M Q ↔ Q a M := ⟨fun ⟨_, e, h⟩ => by cases e; exact h, fun h => ⟨a, rfl, h⟩⟩
theorem dAug2 {x0 x1 : Option D} {a : D} {δ : DS} {M : Hd} {de : DE} {rd : DR2} {En : DEnds} : dAug 2 de rd En (x0 :: x1 :: some a :: δ) M ↔ de (x0 :: x1 :: some a :: δ) M fun y M1 => rd a y M1 fun z M2 => En.nx (x0 :: x1 :: some z :: δ) M2 := ⟨fun ⟨_, e, h⟩ => by cases e; exact h, fun h => ⟨a, rfl, h⟩⟩
theorem dSet2 {x0 x1 : Option D} {y : Option D} {δ : DS} {M : Hd} {de : DE} {En : DEnds} : dSet 2 de En (x0 :: x1 :: y :: δ) M ↔ de (x0 :: x1 :: y :: δ) M fun z M1 => En.nx (x0 :: x1 :: some z :: δ) M1 := Iff.rfl
theorem dTgN2 {x0 x1 : Option D} {y : Option D} {z : D} {δ : DS} {Q : DS → Prop} : dTg (.nm 2) z (x0 :: x1 :: y :: δ) Q ↔ Q (x0 :: x1 :: some z :: δ) := Iff.rfl
theorem dTgW2 {x0 x1 : Option D} {y : Option D} {z : D} {δ : DS} {Q : DS → Prop} : dTg (.nm 2) z (wipeD (x0 :: x1 :: y :: δ) [2]) Q ↔ Q (x0 :: x1 :: some z :: δ) := Iff.rfl
theorem dVar3 {x0 x1 x2 : Option D} {a : D} {δ : DS} {M : Hd} {Q : DK} : dVar 3 (x0 :: x1 :: x2 :: some a :: δ) M Q ↔ Q a M := ⟨fun ⟨_, e, h⟩ => by cases e; exact h, fun h => ⟨a, rfl, h⟩⟩
theorem dAug3 {x0 x1 x2 : Option D} {a : D} {δ : DS} {M : Hd} {de : DE} {rd : DR2} {En : DEnds} : dAug 3 de rd En (x0 :: x1 :: x2 :: some a :: δ) M ↔ de (x0 :: x1 :: x2 :: some a :: δ) M fun y M1 => rd a y M1 fun z M2 => En.nx (x0 :: x1 :: x2 :: some z :: δ) M2 := ⟨fun ⟨_, e, h⟩ => by cases e; exact h, fun h => ⟨a, rfl, h⟩⟩
theorem dSet3 {x0 x1 x2 : Option D} {y : Option D} {δ : DS} {M : Hd} {de : DE} {En : DEnds} : dSet 3 de En (x0 :: x1 :: x2 :: y :: δ) M ↔ de (x0 :: x1 :: x2 :: y :: δ) M fun z M1 => En.nx (x0 :: x1 :: x2 :: some z :: δ) M1 := Iff.rfl
theorem dTgN3 {x0 x1 x2 : Option D} {y : Option D} {z : D} {δ : DS} {Q : DS → Prop} : dTg (.nm 3) z (x0 :: x1 :: x2 :: y :: δ) Q ↔ Q (x0 :: x1 :: x2 :: some z :: δ) := Iff.rfl
theorem dTgW3 {x0 x1 x2 : Option D} {y : Option D} {z : D} {δ : DS} {Q : DS → Prop} : dTg (.nm 3) z (wipeD (x0 :: x1 :: x2 :: y :: δ) [3]) Q ↔ Q (x0 :: x1 :: x2 :: some z :: δ) := Iff.rfl
theorem dVar4 {x0 x1 x2 x3 : Option D} {a : D} {δ : DS} {M : Hd} {Q : DK} : dVar 4 (x0 :: x1 :: x2 :: x3 :: some a :: δ) M Q ↔ Q a M := ⟨fun ⟨_, e, h⟩ => by cases e; exact h, fun h => ⟨a, rfl, h⟩⟩
theorem dAug4 {x0 x1 x2 x3 : Option D} {a : D} {δ : DS} {M : Hd} {de : DE} {rd : DR2} {En : DEnds} : dAug 4 de rd En (x0 :: x1 :: x2 :: x3 :: some a :: δ) M ↔ de (x0 :: x1 :: x2 :: x3 :: some a :: δ) M fun y M1 => rd a y M1 fun z M2 => En.nx (x0 :: x1 :: x2 :: x3 :: some z :: δ) M2 := ⟨fun ⟨_, e, h⟩ => by cases e; exact h, fun h => ⟨a, rfl, h⟩⟩
theorem dSet4 {x0 x1 x2 x3 : Option D} {y : Option D} {δ : DS} {M : Hd} {de : DE} {En : DEnds} : dSet 4 de En (x0 :: x1 :: x2 :: x3 :: y :: δ) M ↔ de (x0 :: x1 :: x2 :: x3 :: y :: δ) M fun z M1 => En.nx (x0 :: x1 :: x2 :: x3 :: some z :: δ) M1 := Iff.rfl
theorem dTgN4 {x0 x1 x2 x3 : Option D} {y : Option D} {z : D} {δ : DS} {Q : DS → Prop} : dTg (.nm 4) z (x0 :: x1 :: x2 :: x3 :: y :: δ) Q ↔ Q (x0 :: x1 :: x2 :: x3 :: some z :: δ) := Iff.rfl
theorem dTgW4 {x0 x1 x2 x3 : Option D} {y : Option D} {z : D} {δ : DS} {Q : DS → Prop} : dTg (.nm 4) z (wipeD (x0 :: x1 :: x2 :: x3 :: y :: δ) [4]) Q ↔ Q (x0 :: x1 :: x2 :: x3 :: some z :: δ) := Iff.rfl
theorem dVar5 {x0 x1 x2 x3 x4 : Option D} {a : D} {δ : DS} {M : Hd} {Q : DK} : dVar 5 (x0 :: x1 :: x2 :: x3 :: x4 :: some a :: δ) M Q ↔ Q a M := ⟨fun ⟨_, e, h⟩ => by cases e; exact h, fun h => ⟨a, rfl, h⟩⟩
theorem dAug5 {x0 x1 x2 x3 x4 : Option D} {a : D} {δ : DS} {M : Hd} {de : DE} {rd : DR2} {En : DEnds} : dAug 5 de rd En (x0 :: x1 :: x2 :: x3 :: x4 :: some a :: δ) M ↔ de (x0 :: x1 :: x2 :: x3 :: x4 :: some a :: δ) M fun y M1 => rd a y M1 fun z M2 => En.nx (x0 :: x1 :: x2 :: x3 :: x4 :: some z :: δ) M2 := ⟨fun ⟨_, e, h⟩ => by cases e; exact h, fun h => ⟨a, rfl, h⟩⟩
theorem dSet5 {x0 x1 x2 x3 x4 : Option D} {y : Option D} {δ : DS} {M : Hd} {de : DE} {En : DEnds} : dSet 5 de En (x0 :: x1 :: x2 :: x3 :: x4 :: y :: δ) M ↔ de (x0 :: x1 :: x2 :: x3 :: x4 :: y :: δ) M fun z M1 => En.nx (x0 :: x1 :: x2 :: x3 :: x4 :: some z :: δ) M1 := Iff.rfl
theorem dTgN5 {x0 x1 x2 x3 x4 : Option D} {y : Option D} {z : D} {δ : DS} {Q : DS → Prop} : dTg (.nm 5) z (x0 :: x1 :: x2 :: x3 :: x4 :: y :: δ) Q ↔ Q (x0 :: x1 :: x2 :: x3 :: x4 :: some z :: δ) := Iff.rfl
theorem dTgW5 {x0 x1 x2 x3 x4 : Option D} {y : Option D} {z : D} {δ : DS} {Q : DS → Prop} : dTg (.nm 5) z (wipeD (x0 :: x1 :: x2 :: x3 :: x4 :: y :: δ) [5]) Q ↔ Q (x0 :: x1 :: x2 :: x3 :: x4 :: some z :: δ) := Iff.rfl
theorem dVar6 {x0 x1 x2 x3 x4 x5 : Option D} {a : D} {δ : DS} {M : Hd} {Q : DK} : dVar 6 (x0 :: x1 :: x2 :: x3 :: x4 :: x5 :: some a :: δ) M Q ↔ Q a M := ⟨fun ⟨_, e, h⟩ => by cases e; exact h, fun h => ⟨a, rfl, h⟩⟩
theorem dAug6 {x0 x1 x2 x3 x4 x5 : Option D} {a : D} {δ : DS} {M : Hd} {de : DE} {rd : DR2} {En : DEnds} : dAug 6 de rd En (x0 :: x1 :: x2 :: x3 :: x4 :: x5 :: some a :: δ) M ↔ de (x0 :: x1 :: x2 :: x3 :: x4 :: x5 :: some a :: δ) M fun y M1 => rd a y M1 fun z M2 => En.nx (x0 :: x1 :: x2 :: x3 :: x4 :: x5 :: some z :: δ) M2 := ⟨fun ⟨_, e, h⟩ => by cases e; exact h, fun h => ⟨a, rfl, h⟩⟩
theorem dSet6 {x0 x1 x2 x3 x4 x5 : Option D} {y : Option D} {δ : DS} {M : Hd} {de : DE} {En : DEnds} : dSet 6 de En (x0 :: x1 :: x2 :: x3 :: x4 :: x5 :: y :: δ) M ↔ de (x0 :: x1 :: x2 :: x3 :: x4 :: x5 :: y :: δ) M fun z M1 => En.nx (x0 :: x1 :: x2 :: x3 :: x4 :: x5 :: some z :: δ) M1 := Iff.rfl
theorem dTgN6 {x0 x1 x2 x3 x4 x5 : Option D} {y : Option D} {z : D} {δ : DS} {Q : DS → Prop} : dTg (.nm 6) z (x0 :: x1 :: x2 :: x3 :: x4 :: x5 :: y :: δ) Q ↔ Q (x0 :: x1 :: x2 :: x3 :: x4 :: x5 :: some z :: δ) := Iff.rfl
theorem dTgW6 {x0 x1 x2 x3 x4 x5 : Option D} {y : Option D} {z : D} {δ : DS} {Q : DS → Prop} : dTg (.nm 6) z (wipeD (x0 :: x1 :: x2 :: x3 :: x4 :: x5 :: y :: δ) [6]) Q ↔ Q (x0 :: x1 :: x2 :: x3 :: x4 :: x5 :: some z :: δ) := Iff.rfl
theorem dVar7 {x0 x1 x2 x3 x4 x5 x6 : Option D} {a : D} {δ : DS} {M : Hd} {Q : DK} : dVar 7 (x0 :: x1 :: x2 :: x3 :: x4 :: x5 :: x6 :: some a :: δ) M Q ↔ Q a M := ⟨fun ⟨_, e, h⟩ => by cases e; exact h, fun h => ⟨a, rfl, h⟩⟩
theorem dAug7 {x0 x1 x2 x3 x4 x5 x6 : Option D} {a : D} {δ : DS} {M : Hd} {de : DE} {rd : DR2} {En : DEnds} : dAug 7 de rd En (x0 :: x1 :: x2 :: x3 :: x4 :: x5 :: x6 :: some a :: δ) M ↔ de (x0 :: x1 :: x2 :: x3 :: x4 :: x5 :: x6 :: some a :: δ) M fun y M1 => rd a y M1 fun z M2 => En.nx (x0 :: x1 :: x2 :: x3 :: x4 :: x5 :: x6 :: some z :: δ) M2 := ⟨fun ⟨_, e, h⟩ => by cases e; exact h, fun h => ⟨a, rfl, h⟩⟩
theorem dSet7 {x0 x1 x2 x3 x4 x5 x6 : Option D} {y : Option D} {δ : DS} {M : Hd} {de : DE} {En : DEnds} : dSet 7 de En (x0 :: x1 :: x2 :: x3 :: x4 :: x5 :: x6 :: y :: δ) M ↔ de (x0 :: x1 :: x2 :: x3 :: x4 :: x5 :: x6 :: y :: δ) M fun z M1 => En.nx (x0 :: x1 :: x2 :: x3 :: x4 :: x5 :: x6 :: some z :: δ) M1 := Iff.rfl
theorem dTgN7 {x0 x1 x2 x3 x4 x5 x6 : Option D} {y : Option D} {z : D} {δ : DS} {Q : DS → Prop} : dTg (.nm 7) z (x0 :: x1 :: x2 :: x3 :: x4 :: x5 :: x6 :: y :: δ) Q ↔ Q (x0 :: x1 :: x2 :: x3 :: x4 :: x5 :: x6 :: some z :: δ) := Iff.rfl
theorem dTgW7 {x0 x1 x2 x3 x4 x5 x6 : Option D} {y : Option D} {z : D} {δ : DS} {Q : DS → Prop} : dTg (.nm 7) z (wipeD (x0 :: x1 :: x2 :: x3 :: x4 :: x5 :: x6 :: y :: δ) [7]) Q ↔ Q (x0 :: x1 :: x2 :: x3 :: x4 :: x5 :: x6 :: some z :: δ) := Iff.rfl
theorem dVar8 {x0 x1 x2 x3 x4 x5 x6 x7 : Option D} {a : D} {δ : DS} {M : Hd} {Q : DK} : dVar 8 (x0 :: x1 :: x2 :: x3 :: x4 :: x5 :: x6 :: x7 :: some a :: δ) M Q ↔ Q a M := ⟨fun ⟨_, e, h⟩ => by cases e; exact h, fun h => ⟨a, rfl, h⟩⟩
theorem dAug8 {x0 x1 x2 x3 x4 x5 x6 x7 : Option D} {a : D} {δ : DS} {M : Hd} {de : DE} {rd : DR2} {En : DEnds} : dAug 8 de rd En (x0 :: x1 :: x2 :: x3 :: x4 :: x5 :: x6 :: x7 :: some a :: δ) M ↔ de (x0 :: x1 :: x2 :: x3 :: x4 :: x5 :: x6 :: x7 :: some a :: δ) M fun y M1 => rd a y M1 fun z M2 => En.nx (x0 :: x1 :: x2 :: x3 :: x4 :: x5 :: x6 :: x7 :: some z :: δ) M2 := ⟨fun ⟨_, e, h⟩ => by cases e; exact h, fun h => ⟨a, rfl, h⟩⟩
theorem dSet8 {x0 x1 x2 x3 x4 x5 x6 x7 : Option D} {y : Option D} {δ : DS} {M : Hd} {de : DE} {En : DEnds} : dSet 8 de En (x0 :: x1 :: x2 :: x3 :: x4 :: x5 :: x6 :: x7 :: y :: δ) M ↔ de (x0 :: x1 :: x2 :: x3 :: x4 :: x5 :: x6 :: x7 :: y :: δ) M fun z M1 => En.nx (x0 :: x1 :: x2 :: x3 :: x4 :: x5 :: x6 :: x7 :: some z :: δ) M1 := Iff.rfl
theorem dTgN8 {x0 x1 x2 x3 x4 x5 x6 x7 : Option D} {y : Option D} {z : D} {δ : DS} {Q : DS → Prop} : dTg (.nm 8) z (x0 :: x1 :: x2 :: x3 :: x4 :: x5 :: x6 :: x7 :: y :: δ) Q ↔ Q (x0 :: x1 :: x2 :: x3 :: x4 :: x5 :: x6 :: x7 :: some z :: δ) := Iff.rfl
theorem dTgW8 {x0 x1 x2 x3 x4 x5 x6 x7 : Option D} {y : Option D} {z : D} {δ : DS} {Q : DS → Prop} : dTg (.nm 8) z (wipeD (x0 :: x1 :: x2 :: x3 :: x4 :: x5 :: x6 :: x7 :: y :: δ) [8]) Q ↔ Q (x0 :: x1 :: x2 :: x3 :: x4 :: x5 :: x6 :: x7 :: some z :: δ) := Iff.rfl
theorem dVar9 {x0 x1 x2 x3 x4 x5 x6 x7 x8 : Option D} {a : D} {δ : DS} {M : Hd} {Q : DK} : dVar 9 (x0 :: x1 :: x2 :: x3 :: x4 :: x5 :: x6 :: x7 :: x8 :: some a :: δ) M Q ↔ Q a M := ⟨fun ⟨_, e, h⟩ => by cases e; exact h, fun h => ⟨a, rfl, h⟩⟩
theorem dAug9 {x0 x1 x2 x3 x4 x5 x6 x7 x8 : Option D} {a : D} {δ : DS} {M : Hd} {de : DE} {rd : DR2} {En : DEnds} : dAug 9 de rd En (x0 :: x1 :: x2 :: x3 :: x4 :: x5 :: x6 :: x7 :: x8 :: some a :: δ) M ↔ de (x0 :: x1 :: x2 :: x3 :: x4 :: x5 :: x6 :: x7 :: x8 :: some a :: δ) M fun y M1 => rd a y M1 fun z M2 => En.nx (x0 :: x1 :: x2 :: x3 :: x4 :: x5 :: x6 :: x7 :: x8 :: some z :: δ) M2 := ⟨fun ⟨_, e, h⟩ => by cases e; exact h, fun h => ⟨a, rfl, h⟩⟩
theorem dSet9 {x0 x1 x2 x3 x4 x5 x6 x7 x8 : Option D} {y : Option D} {δ : DS} {M : Hd} {de : DE} {En : DEnds} : dSet 9 de En (x0 :: x1 :: x2 :: x3 :: x4 :: x5 :: x6 :: x7 :: x8 :: y :: δ) M ↔ de (x0 :: x1 :: x2 :: x3 :: x4 :: x5 :: x6 :: x7 :: x8 :: y :: δ) M fun z M1 => En.nx (x0 :: x1 :: x2 :: x3 :: x4 :: x5 :: x6 :: x7 :: x8 :: some z :: δ) M1 := Iff.rfl
theorem dTgN9 {x0 x1 x2 x3 x4 x5 x6 x7 x8 : Option D} {y : Option D} {z : D} {δ : DS} {Q : DS → Prop} : dTg (.nm 9) z (x0 :: x1 :: x2 :: x3 :: x4 :: x5 :: x6 :: x7 :: x8 :: y :: δ) Q ↔ Q (x0 :: x1 :: x2 :: x3 :: x4 :: x5 :: x6 :: x7 :: x8 :: some z :: δ) := Iff.rfl
theorem dTgW9 {x0 x1 x2 x3 x4 x5 x6 x7 x8 : Option D} {y : Option D} {z : D} {δ : DS} {Q : DS → Prop} : dTg (.nm 9) z (wipeD (x0 :: x1 :: x2 :: x3 :: x4 :: x5 :: x6 :: x7 :: x8 :: y :: δ) [9]) Q ↔ Q (x0 :: x1 :: x2 :: x3 :: x4 :: x5 :: x6 :: x7 :: x8 :: some z :: δ) := Iff.rfl
theorem dVar10 {x0 x1 x2 x3 x4 x5 x6 x7 x8 x9 : Option D} {a : D} {δ : DS} {M : Hd} {Q : DK} : dVar 10 (x0 :: x1 :: x2 :: x3 :: x4 :: x5 :: x6 :: x7 :: x8 :: x9 :: some a :: δ) M Q ↔ Q a M := ⟨fun ⟨_, e, h⟩ => by cases e; exact h, fun h => ⟨a, rfl, h⟩⟩
theorem dAug10 {x0 x1 x2 x3 x4 x5 x6 x7 x8 x9 : Option D} {a : D} {δ : DS} {M : Hd} {de : DE} {rd : DR2} {En : DEnds} : dAug 10 de rd En (x0 :: x1 :: x2 :: x3 :: x4 :: x5 :: x6 :: x7 :: x8 :: x9 :: some a :: δ) M ↔ de (x0 :: x1 :: x2 :: x3 :: x4 :: x5 :: x6 :: x7 :: x8 :: x9 :: some a :: δ) M fun y M1 => rd a y M1 fun z M2 => En.nx (x0 :: x1 :: x2 :: x3 :: x4 :: x5 :: x6 :: x7 :: x8 :: x9 :: some z :: δ) M2 := ⟨fun ⟨_, e, h⟩ => by cases e; exact h, fun h => ⟨a, rfl, h⟩⟩
theorem dSet10 {x0 x1 x2 x3 x4 x5 x6 x7 x8 x9 : Option D} {y : Option D} {δ : DS} {M : Hd} {de : DE} {En : DEnds} : dSet 10 de En (x0 :: x1 :: x2 :: x3 :: x4 :: x5 :: x6 :: x7 :: x8 :: x9 :: y :: δ) M ↔ de (x0 :: x1 :: x2 :: x3 :: x4 :: x5 :: x6 :: x7 :: x8 :: x9 :: y :: δ) M fun z M1 => En.nx (x0 :: x1 :: x2 :: x3 :: x4 :: x5 :: x6 :: x7 :: x8 :: x9 :: some z :: δ) M1 := Iff.rfl
theorem dTgN10 {x0 x1 x2 x3 x4 x5 x6 x7 x8 x9 : Option D} {y : Option D} {z : D} {δ : DS} {Q : DS → Prop} : dTg (.nm 10) z (x0 :: x1 :: x2 :: x3 :: x4 :: x5 :: x6 :: x7 :: x8 :: x9 :: y :: δ) Q ↔ Q (x0 :: x1 :: x2 :: x3 :: x4 :: x5 :: x6 :: x7 :: x8 :: x9 :: some z :: δ) := Iff.rfl
theorem dTgW10 {x0 x1 x2 x3 x4 x5 x6 x7 x8 x9 : Option D} {y : Option D} {z : D} {δ : DS} {Q : DS → Prop} : dTg (.nm 10) z (wipeD (x0 :: x1 :: x2 :: x3 :: x4 :: x5 :: x6 :: x7 :: x8 :: x9 :: y :: δ) [10]) Q ↔ Q (x0 :: x1 :: x2 :: x3 :: x4 :: x5 :: x6 :: x7 :: x8 :: x9 :: some z :: δ) := Iff.rfl
theorem dVar11 {x0 x1 x2 x3 x4 x5 x6 x7 x8 x9 x10 : Option D} {a : D} {δ : DS} {M : Hd} {Q : DK} : dVar 11 (x0 :: x1 :: x2 :: x3 :: x4 :: x5 :: x6 :: x7 :: x8 :: x9 :: x10 :: some a :: δ) M Q ↔ Q a M := ⟨fun ⟨_, e, h⟩ => by cases e; exact h, fun h => ⟨a, rfl, h⟩⟩
theorem dAug11 {x0 x1 x2 x3 x4 x5 x6 x7 x8 x9 x10 : Option D} {a : D} {δ : DS} {M : Hd} {de : DE} {rd : DR2} {En : DEnds} : dAug 11 de rd En (x0 :: x1 :: x2 :: x3 :: x4 :: x5 :: x6 :: x7 :: x8 :: x9 :: x10 :: some a :: δ) M ↔ de (x0 :: x1 :: x2 :: x3 :: x4 :: x5 :: x6 :: x7 :: x8 :: x9 :: x10 :: some a :: δ) M fun y M1 => rd a y M1 fun z M2 => En.nx (x0 :: x1 :: x2 :: x3 :: x4 :: x5 :: x6 :: x7 :: x8 :: x9 :: x10 :: some z :: δ) M2 := ⟨fun ⟨_, e, h⟩ => by cases e; exact h, fun h => ⟨a, rfl, h⟩⟩
theorem dSet11 {x0 x1 x2 x3 x4 x5 x6 x7 x8 x9 x10 : Option D} {y : Option D} {δ : DS} {M : Hd} {de : DE} {En : DEnds} : dSet 11 de En (x0 :: x1 :: x2 :: x3 :: x4 :: x5 :: x6 :: x7 :: x8 :: x9 :: x10 :: y :: δ) M ↔ de (x0 :: x1 :: x2 :: x3 :: x4 :: x5 :: x6 :: x7 :: x8 :: x9 :: x10 :: y :: δ) M fun z M1 => En.nx (x0 :: x1 :: x2 :: x3 :: x4 :: x5 :: x6 :: x7 :: x8 :: x9 :: x10 :: some z :: δ) M1 := Iff.rfl
theorem dTgN11 {x0 x1 x2 x3 x4 x5 x6 x7 x8 x9 x10 : Option D} {y : Option D} {z : D} {δ : DS} {Q : DS → Prop} : dTg (.nm 11) z (x0 :: x1 :: x2 :: x3 :: x4 :: x5 :: x6 :: x7 :: x8 :: x9 :: x10 :: y :: δ) Q ↔ Q (x0 :: x1 :: x2 :: x3 :: x4 :: x5 :: x6 :: x7 :: x8 :: x9 :: x10 :: some z :: δ) := Iff.rfl
theorem dTgW11 {x0 x1 x2 x3 x4 x5 x6 x7 x8 x9 x10 : Option D} {y : Option D} {z : D} {δ : DS} {Q : DS → Prop} : dTg (.nm 11) z (wipeD (x0 :: x1 :: x2 :: x3 :: x4 :: x5 :: x6 :: x7 :: x8 :: x9 :: x10 :: y :: δ) [11]) Q ↔ Q (x0 :: x1 :: x2 :: x3 :: x4 :: x5 :: x6 :: x7 :: x8 :: x9 :: x10 :: some z :: δ) := Iff.rfl
theorem dVar12 {x0 x1 x2 x3 x4 x5 x6 x7 x8 x9 x10 x11 : Option D} {a : D} {δ : DS} {M : Hd} {Q : DK} : dVar 12 (x0 :: x1 :: x2 :: x3 :: x4 :: x5 :: x6 :: x7 :: x8 :: x9 :: x10 :: x11 :: some a :: δ) M Q ↔ Q a M := ⟨fun ⟨_, e, h⟩ => by cases e; exact h, fun h => ⟨a, rfl, h⟩⟩
theorem dAug12 {x0 x1 x2 x3 x4 x5 x6 x7 x8 x9 x10 x11 : Option D} {a : D} {δ : DS} {M : Hd} {de : DE} {rd : DR2} {En : DEnds} : dAug 12 de rd En (x0 :: x1 :: x2 :: x3 :: x4 :: x5 :: x6 :: x7 :: x8 :: x9 :: x10 :: x11 :: some a :: δ) M ↔ de (x0 :: x1 :: x2 :: x3 :: x4 :: x5 :: x6 :: x7 :: x8 :: x9 :: x10 :: x11 :: some a :: δ) M fun y M1 => rd a y M1 fun z M2 => En.nx (x0 :: x1 :: x2 :: x3 :: x4 :: x5 :: x6 :: x7 :: x8 :: x9 :: x10 :: x11 :: some z :: δ) M2 := ⟨fun ⟨_, e, h⟩ => by cases e; exact h, fun h => ⟨a, rfl, h⟩⟩
theorem dSet12 {x0 x1 x2 x3 x4 x5 x6 x7 x8 x9 x10 x11 : Option D} {y : Option D} {δ : DS} {M : Hd} {de : DE} {En : DEnds} : dSet 12 de En (x0 :: x1 :: x2 :: x3 :: x4 :: x5 :: x6 :: x7 :: x8 :: x9 :: x10 :: x11 :: y :: δ) M ↔ de (x0 :: x1 :: x2 :: x3 :: x4 :: x5 :: x6 :: x7 :: x8 :: x9 :: x10 :: x11 :: y :: δ) M fun z M1 => En.nx (x0 :: x1 :: x2 :: x3 :: x4 :: x5 :: x6 :: x7 :: x8 :: x9 :: x10 :: x11 :: some z :: δ) M1 := Iff.rfl
theorem dTgN12 {x0 x1 x2 x3 x4 x5 x6 x7 x8 x9 x10 x11 : Option D} {y : Option D} {z : D} {δ : DS} {Q : DS → Prop} : dTg (.nm 12) z (x0 :: x1 :: x2 :: x3 :: x4 :: x5 :: x6 :: x7 :: x8 :: x9 :: x10 :: x11 :: y :: δ) Q ↔ Q (x0 :: x1 :: x2 :: x3 :: x4 :: x5 :: x6 :: x7 :: x8 :: x9 :: x10 :: x11 :: some z :: δ) := Iff.rfl
theorem dTgW12 {x0 x1 x2 x3 x4 x5 x6 x7 x8 x9 x10 x11 : Option D} {y : Option D} {z : D} {δ : DS} {Q : DS → Prop} : dTg (.nm 12) z (wipeD (x0 :: x1 :: x2 :: x3 :: x4 :: x5 :: x6 :: x7 :: x8 :: x9 :: x10 :: x11 :: y :: δ) [12]) Q ↔ Q (x0 :: x1 :: x2 :: x3 :: x4 :: x5 :: x6 :: x7 :: x8 :: x9 :: x10 :: x11 :: some z :: δ) := Iff.rfl
theorem dVar13 {x0 x1 x2 x3 x4 x5 x6 x7 x8 x9 x10 x11 x12 : Option D} {a : D} {δ : DS} {M : Hd} {Q : DK} : dVar 13 (x0 :: x1 :: x2 :: x3 :: x4 :: x5 :: x6 :: x7 :: x8 :: x9 :: x10 :: x11 :: x12 :: some a :: δ) M Q ↔ Q a M := ⟨fun ⟨_, e, h⟩ => by cases e; exact h, fun h => ⟨a, rfl, h⟩⟩
theorem dAug13 {x0 x1 x2 x3 x4 x5 x6 x7 x8 x9 x10 x11 x12 : Option D} {a : D} {δ : DS} {M : Hd} {de : DE} {rd : DR2} {En : DEnds} : dAug 13 de rd En (x0 :: x1 :: x2 :: x3 :: x4 :: x5 :: x6 :: x7 :: x8 :: x9 :: x10 :: x11 :: x12 :: some a :: δ) M ↔ de (x0 :: x1 :: x2 :: x3 :: x4 :: x5 :: x6 :: x7 :: x8 :: x9 :: x10 :: x11 :: x12 :: some a :: δ) M fun y M1 => rd a y M1 fun z M2 => En.nx (x0 :: x1 :: x2 :: x3 :: x4 :: x5 :: x6 :: x7 :: x8 :: x9 :: x10 :: x11 :: x12 :: some z :: δ) M2 := ⟨fun ⟨_, e, h⟩ => by cases e; exact h, fun h => ⟨a, rfl, h⟩⟩
theorem dSet13 {x0 x1 x2 x3 x4 x5 x6 x7 x8 x9 x10 x11 x12 : Option D} {y : Option D} {δ : DS} {M : Hd} {de : DE} {En : DEnds} : dSet 13 de En (x0 :: x1 :: x2 :: x3 :: x4 :: x5 :: x6 :: x7 :: x8 :: x9 :: x10 :: x11 :: x12 :: y :: δ) M ↔ de (x0 :: x1 :: x2 :: x3 :: x4 :: x5 :: x6 :: x7 :: x8 :: x9 :: x10 :: x11 :: x12 :: y :: δ) M fun z M1 => En.nx (x0 :: x1 :: x2 :: x3 :: x4 :: x5 :: x6 :: x7 :: x8 :: x9 :: x10 :: x11 :: x12 :: some z :: δ) M1 := Iff.rfl
theorem dTgN13 {x0 x1 x2 x3 x4 x5 x6 x7 x8 x9 x10 x11 x12 : Option D} {y : Option D} {z : D} {δ : DS} {Q : DS → Prop} : dTg (.nm 13) z (x0 :: x1 :: x2 :: x3 :: x4 :: x5 :: x6 :: x7 :: x8 :: x9 :: x10 :: x11 :: x12 :: y :: δ) Q ↔ Q (x0 :: x1 :: x2 :: x3 :: x4 :: x5 :: x6 :: x7 :: x8 :: x9 :: x10 :: x11 :: x12 :: some z :: δ) := Iff.rfl
theorem dTgW13 {x0 x1 x2 x3 x4 x5 x6 x7 x8 x9 x10 x11 x12 : Option D} {y : Option D} {z : D} {δ : DS} {Q : DS → Prop} : dTg (.nm 13) z (wipeD (x0 :: x1 :: x2 :: x3 :: x4 :: x5 :: x6 :: x7 :: x8 :: x9 :: x10 :: x11 :: x12 :: y :: δ) [13]) Q ↔ Q (x0 :: x1 :: x2 :: x3 :: x4 :: x5 :: x6 :: x7 :: x8 :: x9 :: x10 :: x11 :: x12 :: some z :: δ) := Iff.rfl
theorem dVar14 {x0 x1 x2 x3 x4 x5 x6 x7 x8 x9 x10 x11 x12 x13 : Option D} {a : D} {δ : DS} {M : Hd} {Q : DK} : dVar 14 (x0 :: x1 :: x2 :: x3 :: x4 :: x5 :: x6 :: x7 :: x8 :: x9 :: x10 :: x11 :: x12 :: x13 :: some a :: δ) M Q ↔ Q a M := ⟨fun ⟨_, e, h⟩ => by cases e; exact h, fun h => ⟨a, rfl, h⟩⟩
theorem dAug14 {x0 x1 x2 x3 x4 x5 x6 x7 x8 x9 x10 x11 x12 x13 : Option D} {a : D} {δ : DS} {M : Hd} {de : DE} {rd : DR2} {En : DEnds} : dAug 14 de rd En (x0 :: x1 :: x2 :: x3 :: x4 :: x5 :: x6 :: x7 :: x8 :: x9 :: x10 :: x11 :: x12 :: x13 :: some a :: δ) M ↔ de (x0 :: x1 :: x2 :: x3 :: x4 :: x5 :: x6 :: x7 :: x8 :: x9 :: x10 :: x11 :: x12 :: x13 :: some a :: δ) M fun y M1 => rd a y M1 fun z M2 => En.nx (x0 :: x1 :: x2 :: x3 :: x4 :: x5 :: x6 :: x7 :: x8 :: x9 :: x10 :: x11 :: x12 :: x13 :: some z :: δ) M2 := ⟨fun ⟨_, e, h⟩ => by cases e; exact h, fun h => ⟨a, rfl, h⟩⟩
theorem dSet14 {x0 x1 x2 x3 x4 x5 x6 x7 x8 x9 x10 x11 x12 x13 : Option D} {y : Option D} {δ : DS} {M : Hd} {de : DE} {En : DEnds} : dSet 14 de En (x0 :: x1 :: x2 :: x3 :: x4 :: x5 :: x6 :: x7 :: x8 :: x9 :: x10 :: x11 :: x12 :: x13 :: y :: δ) M ↔ de (x0 :: x1 :: x2 :: x3 :: x4 :: x5 :: x6 :: x7 :: x8 :: x9 :: x10 :: x11 :: x12 :: x13 :: y :: δ) M fun z M1 => En.nx (x0 :: x1 :: x2 :: x3 :: x4 :: x5 :: x6 :: x7 :: x8 :: x9 :: x10 :: x11 :: x12 :: x13 :: some z :: δ) M1 := Iff.rfl
theorem dTgN14 {x0 x1 x2 x3 x4 x5 x6 x7 x8 x9 x10 x11 x12 x13 : Option D} {y : Option D} {z : D} {δ : DS} {Q : DS → Prop} : dTg (.nm 14) z (x0 :: x1 :: x2 :: x3 :: x4 :: x5 :: x6 :: x7 :: x8 :: x9 :: x10 :: x11 :: x12 :: x13 :: y :: δ) Q ↔ Q (x0 :: x1 :: x2 :: x3 :: x4 :: x5 :: x6 :: x7 :: x8 :: x9 :: x10 :: x11 :: x12 :: x13 :: some z :: δ) := Iff.rfl
theorem dTgW14 {x0 x1 x2 x3 x4 x5 x6 x7 x8 x9 x10 x11 x12 x13 : Option D} {y : Option D} {z : D} {δ : DS} {Q : DS → Prop} : dTg (.nm 14) z (wipeD (x0 :: x1 :: x2 :: x3 :: x4 :: x5 :: x6 :: x7 :: x8 :: x9 :: x10 :: x11 :: x12 :: x13 :: y :: δ) [14]) Q ↔ Q (x0 :: x1 :: x2 :: x3 :: x4 :: x5 :: x6 :: x7 :: x8 :: x9 :: x10 :: x11 :: x12 :: x13 :: some z :: δ) := Iff.rfl
theorem dVar15 {x0 x1 x2 x3 x4 x5 x6 x7 x8 x9 x10 x11 x12 x13 x14 : Option D} {a : D} {δ : DS} {M : Hd} {Q : DK} : dVar 15 (x0 :: x1 :: x2 :: x3 :: x4 :: x5 :: x6 :: x7 :: x8 :: x9 :: x10 :: x11 :: x12 :: x13 :: x14 :: some a :: δ) M Q ↔ Q a M := ⟨fun ⟨_, e, h⟩ => by cases e; exact h, fun h => ⟨a, rfl, h⟩⟩
theorem dAug15 {x0 x1 x2 x3 x4 x5 x6 x7 x8 x9 x10 x11 x12 x13 x14 : Option D} {a : D} {δ : DS} {M : Hd} {de : DE} {rd : DR2} {En : DEnds} : dAug 15 de rd En (x0 :: x1 :: x2 :: x3 :: x4 :: x5 :: x6 :: x7 :: x8 :: x9 :: x10 :: x11 :: x12 :: x13 :: x14 :: some a :: δ) M ↔ de (x0 :: x1 :: x2 :: x3 :: x4 :: x5 :: x6 :: x7 :: x8 :: x9 :: x10 :: x11 :: x12 :: x13 :: x14 :: some a :: δ) M fun y M1 => rd a y M1 fun z M2 => En.nx (x0 :: x1 :: x2 :: x3 :: x4 :: x5 :: x6 :: x7 :: x8 :: x9 :: x10 :: x11 :: x12 :: x13 :: x14 :: some z :: δ) M2 := ⟨fun ⟨_, e, h⟩ => by cases e; exact h, fun h => ⟨a, rfl, h⟩⟩
theorem dSet15 {x0 x1 x2 x3 x4 x5 x6 x7 x8 x9 x10 x11 x12 x13 x14 : Option D} {y : Option D} {δ : DS} {M : Hd} {de : DE} {En : DEnds} : dSet 15 de En (x0 :: x1 :: x2 :: x3 :: x4 :: x5 :: x6 :: x7 :: x8 :: x9 :: x10 :: x11 :: x12 :: x13 :: x14 :: y :: δ) M ↔ de (x0 :: x1 :: x2 :: x3 :: x4 :: x5 :: x6 :: x7 :: x8 :: x9 :: x10 :: x11 :: x12 :: x13 :: x14 :: y :: δ) M fun z M1 => En.nx (x0 :: x1 :: x2 :: x3 :: x4 :: x5 :: x6 :: x7 :: x8 :: x9 :: x10 :: x11 :: x12 :: x13 :: x14 :: some z :: δ) M1 := Iff.rfl
theorem dTgN15 {x0 x1 x2 x3 x4 x5 x6 x7 x8 x9 x10 x11 x12 x13 x14 : Option D} {y : Option D} {z : D} {δ : DS} {Q : DS → Prop} : dTg (.nm 15) z (x0 :: x1 :: x2 :: x3 :: x4 :: x5 :: x6 :: x7 :: x8 :: x9 :: x10 :: x11 :: x12 :: x13 :: x14 :: y :: δ) Q ↔ Q (x0 :: x1 :: x2 :: x3 :: x4 :: x5 :: x6 :: x7 :: x8 :: x9 :: x10 :: x11 :: x12 :: x13 :: x14 :: some z :: δ) := Iff.rfl
theorem dTgW15 {x0 x1 x2 x3 x4 x5 x6 x7 x8 x9 x10 x11 x12 x13 x14 : Option D} {y : Option D} {z : D} {δ : DS} {Q : DS → Prop} : dTg (.nm 15) z (wipeD (x0 :: x1 :: x2 :: x3 :: x4 :: x5 :: x6 :: x7 :: x8 :: x9 :: x10 :: x11 :: x12 :: x13 :: x14 :: y :: δ) [15]) Q ↔ Q (x0 :: x1 :: x2 :: x3 :: x4 :: x5 :: x6 :: x7 :: x8 :: x9 :: x10 :: x11 :: x12 :: x13 :: x14 :: some z :: δ) := Iff.rfl
theorem dVar16 {x0 x1 x2 x3 x4 x5 x6 x7 x8 x9 x10 x11 x12 x13 x14 x15 : Option D} {a : D} {δ : DS} {M : Hd} {Q : DK} : dVar 16 (x0 :: x1 :: x2 :: x3 :: x4 :: x5 :: x6 :: x7 :: x8 :: x9 :: x10 :: x11 :: x12 :: x13 :: x14 :: x15 :: some a :: δ) M Q ↔ Q a M := ⟨fun ⟨_, e, h⟩ => by cases e; exact h, fun h => ⟨a, rfl, h⟩⟩
theorem dAug16 {x0 x1 x2 x3 x4 x5 x6 x7 x8 x9 x10 x11 x12 x13 x14 x15 : Option D} {a : D} {δ : DS} {M : Hd} {de : DE} {rd : DR2} {En : DEnds} : dAug 16 de rd En (x0 :: x1 :: x2 :: x3 :: x4 :: x5 :: x6 :: x7 :: x8 :: x9 :: x10 :: x11 :: x12 :: x13 :: x14 :: x15 :: some a :: δ) M ↔ de (x0 :: x1 :: x2 :: x3 :: x4 :: x5 :: x6 :: x7 :: x8 :: x9 :: x10 :: x11 :: x12 :: x13 :: x14 :: x15 :: some a :: δ) M fun y M1 => rd a y M1 fun z M2 => En.nx (x0 :: x1 :: x2 :: x3 :: x4 :: x5 :: x6 :: x7 :: x8 :: x9 :: x10 :: x11 :: x12 :: x13 :: x14 :: x15 :: some z :: δ) M2 := ⟨fun ⟨_, e, h⟩ => by cases e; exact h, fun h => ⟨a, rfl, h⟩⟩
theorem dSet16 {x0 x1 x2 x3 x4 x5 x6 x7 x8 x9 x10 x11 x12 x13 x14 x15 : Option D} {y : Option D} {δ : DS} {M : Hd} {de : DE} {En : DEnds} : dSet 16 de En (x0 :: x1 :: x2 :: x3 :: x4 :: x5 :: x6 :: x7 :: x8 :: x9 :: x10 :: x11 :: x12 :: x13 :: x14 :: x15 :: y :: δ) M ↔ de (x0 :: x1 :: x2 :: x3 :: x4 :: x5 :: x6 :: x7 :: x8 :: x9 :: x10 :: x11 :: x12 :: x13 :: x14 :: x15 :: y :: δ) M fun z M1 => En.nx (x0 :: x1 :: x2 :: x3 :: x4 :: x5 :: x6 :: x7 :: x8 :: x9 :: x10 :: x11 :: x12 :: x13 :: x14 :: x15 :: some z :: δ) M1 := Iff.rfl
theorem dTgN16 {x0 x1 x2 x3 x4 x5 x6 x7 x8 x9 x10 x11 x12 x13 x14 x15 : Option D} {y : Option D} {z : D} {δ : DS} {Q : DS → Prop} : dTg (.nm 16) z (x0 :: x1 :: x2 :: x3 :: x4 :: x5 :: x6 :: x7 :: x8 :: x9 :: x10 :: x11 :: x12 :: x13 :: x14 :: x15 :: y :: δ) Q ↔ Q (x0 :: x1 :: x2 :: x3 :: x4 :: x5 :: x6 :: x7 :: x8 :: x9 :: x10 :: x11 :: x12 :: x13 :: x14 :: x15 :: some z :: δ) := Iff.rfl
theorem dTgW16 {x0 x1 x2 x3 x4 x5 x6 x7 x8 x9 x10 x11 x12 x13 x14 x15 : Option D} {y : Option D} {z : D} {δ : DS} {Q : DS → Prop} : dTg (.nm 16) z (wipeD (x0 :: x1 :: x2 :: x3 :: x4 :: x5 :: x6 :: x7 :: x8 :: x9 :: x10 :: x11 :: x12 :: x13 :: x14 :: x15 :: y :: δ) [16]) Q ↔ Q (x0 :: x1 :: x2 :: x3 :: x4 :: x5 :: x6 :: x7 :: x8 :: x9 :: x10 :: x11 :: x12 :: x13 :: x14 :: x15 :: some z :: δ) := Iff.rfl
theorem dVar17 {x0 x1 x2 x3 x4 x5 x6 x7 x8 x9 x10 x11 x12 x13 x14 x15 x16 : Option D} {a : D} {δ : DS} {M : Hd} {Q : DK} : dVar 17 (x0 :: x1 :: x2 :: x3 :: x4 :: x5 :: x6 :: x7 :: x8 :: x9 :: x10 :: x11 :: x12 :: x13 :: x14 :: x15 :: x16 :: some a :: δ) M Q ↔ Q a M := ⟨fun ⟨_, e, h⟩ => by cases e; exact h, fun h => ⟨a, rfl, h⟩⟩
theorem dAug17 {x0 x1 x2 x3 x4 x5 x6 x7 x8 x9 x10 x11 x12 x13 x14 x15 x16 : Option D} {a : D} {δ : DS} {M : Hd} {de : DE} {rd : DR2} {En : DEnds} : dAug 17 de rd En (x0 :: x1 :: x2 :: x3 :: x4 :: x5 :: x6 :: x7 :: x8 :: x9 :: x10 :: x11 :: x12 :: x13 :: x14 :: x15 :: x16 :: some a :: δ) M ↔ de (x0 :: x1 :: x2 :: x3 :: x4 :: x5 :: x6 :: x7 :: x8 :: x9 :: x10 :: x11 :: x12 :: x13 :: x14 :: x15 :: x16 :: some a :: δ) M fun y M1 => rd a y M1 fun z M2 => En.nx (x0 :: x1 :: x2 :: x3 :: x4 :: x5 :: x6 :: x7 :: x8 :: x9 :: x10 :: x11 :: x12 :: x13 :: x14 :: x15 :: x16 :: some z :: δ) M2 := ⟨fun ⟨_, e, h⟩ => by cases e; exact h, fun h => ⟨a, rfl, h⟩⟩
theorem dSet17 {x0 x1 x2 x3 x4 x5 x6 x7 x8 x9 x10 x11 x12 x13 x14 x15 x16 : Option D} {y : Option D} {δ : DS} {M : Hd} {de : DE} {En : DEnds} : dSet 17 de En (x0 :: x1 :: x2 :: x3 :: x4 :: x5 :: x6 :: x7 :: x8 :: x9 :: x10 :: x11 :: x12 :: x13 :: x14 :: x15 :: x16 :: y :: δ) M ↔ de (x0 :: x1 :: x2 :: x3 :: x4 :: x5 :: x6 :: x7 :: x8 :: x9 :: x10 :: x11 :: x12 :: x13 :: x14 :: x15 :: x16 :: y :: δ) M fun z M1 => En.nx (x0 :: x1 :: x2 :: x3 :: x4 :: x5 :: x6 :: x7 :: x8 :: x9 :: x10 :: x11 :: x12 :: x13 :: x14 :: x15 :: x16 :: some z :: δ) M1 := Iff.rfl
theorem dTgN17 {x0 x1 x2 x3 x4 x5 x6 x7 x8 x9 x10 x11 x12 x13 x14 x15 x16 : Option D} {y : Option D} {z : D} {δ : DS} {Q : DS → Prop} : dTg (.nm 17) z (x0 :: x1 :: x2 :: x3 :: x4 :: x5 :: x6 :: x7 :: x8 :: x9 :: x10 :: x11 :: x12 :: x13 :: x14 :: x15 :: x16 :: y :: δ) Q ↔ Q (x0 :: x1 :: x2 :: x3 :: x4 :: x5 :: x6 :: x7 :: x8 :: x9 :: x10 :: x11 :: x12 :: x13 :: x14 :: x15 :: x16 :: some z :: δ) := Iff.rfl
theorem dTgW17 {x0 x1 x2 x3 x4 x5 x6 x7 x8 x9 x10 x11 x12 x13 x14 x15 x16 : Option D} {y : Option D} {z : D} {δ : DS} {Q : DS → Prop} : dTg (.nm 17) z (wipeD (x0 :: x1 :: x2 :: x3 :: x4 :: x5 :: x6 :: x7 :: x8 :: x9 :: x10 :: x11 :: x12 :: x13 :: x14 :: x15 :: x16 :: y :: δ) [17]) Q ↔ Q (x0 :: x1 :: x2 :: x3 :: x4 :: x5 :: x6 :: x7 :: x8 :: x9 :: x10 :: x11 :: x12 :: x13 :: x14 :: x15 :: x16 :: some z :: δ) := Iff.rfl
theorem dVar18 {x0 x1 x2 x3 x4 x5 x6 x7 x8 x9 x10 x11 x12 x13 x14 x15 x16 x17 : Option D} {a : D} {δ : DS} {M : Hd} {Q : DK} : dVar 18 (x0 :: x1 :: x2 :: x3 :: x4 :: x5 :: x6 :: x7 :: x8 :: x9 :: x10 :: x11 :: x12 :: x13 :: x14 :: x15 :: x16 :: x17 :: some a :: δ) M Q ↔ Q a M := ⟨fun ⟨_, e, h⟩ => by cases e; exact h, fun h => ⟨a, rfl, h⟩⟩
theorem dAug18 {x0 x1 x2 x3 x4 x5 x6 x7 x8 x9 x10 x11 x12 x13 x14 x15 x16 x17 : Option D} {a : D} {δ : DS} {M : Hd} {de : DE} {rd : DR2} {En : DEnds} : dAug 18 de rd En (x0 :: x1 :: x2 :: x3 :: x4 :: x5 :: x6 :: x7 :: x8 :: x9 :: x10 :: x11 :: x12 :: x13 :: x14 :: x15 :: x16 :: x17 :: some a :: δ) M ↔ de (x0 :: x1 :: x2 :: x3 :: x4 :: x5 :: x6 :: x7 :: x8 :: x9 :: x10 :: x11 :: x12 :: x13 :: x14 :: x15 :: x16 :: x17 :: some a :: δ) M fun y M1 => rd a y M1 fun z M2 => En.nx (x0 :: x1 :: x2 :: x3 :: x4 :: x5 :: x6 :: x7 :: x8 :: x9 :: x10 :: x11 :: x12 :: x13 :: x14 :: x15 :: x16 :: x17 :: some z :: δ) M2 := ⟨fun ⟨_, e, h⟩ => by cases e; exact h, fun h => ⟨a, rfl, h⟩⟩
theorem dSet18 {x0 x1 x2 x3 x4 x5 x6 x7 x8 x9 x10 x11 x12 x13 x14 x15 x16 x17 : Option D} {y : Option D} {δ : DS} {M : Hd} {de : DE} {En : DEnds} : dSet 18 de En (x0 :: x1 :: x2 :: x3 :: x4 :: x5 :: x6 :: x7 :: x8 :: x9 :: x10 :: x11 :: x12 :: x13 :: x14 :: x15 :: x16 :: x17 :: y :: δ) M ↔ de (x0 :: x1 :: x2 :: x3 :: x4 :: x5 :: x6 :: x7 :: x8 :: x9 :: x10 :: x11 :: x12 :: x13 :: x14 :: x15 :: x16 :: x17 :: y :: δ) M fun z M1 => En.nx (x0 :: x1 :: x2 :: x3 :: x4 :: x5 :: x6 :: x7 :: x8 :: x9 :: x10 :: x11 :: x12 :: x13 :: x14 :: x15 :: x16 :: x17 :: some z :: δ) M1 := Iff.rfl
theorem dTgN18 {x0 x1 x2 x3 x4 x5 x6 x7 x8 x9 x10 x11 x12 x13 x14 x15 x16 x17 : Option D} {y : Option D} {z : D} {δ : DS} {Q : DS → Prop} : dTg (.nm 18) z (x0 :: x1 :: x2 :: x3 :: x4 :: x5 :: x6 :: x7 :: x8 :: x9 :: x10 :: x11 :: x12 :: x13 :: x14 :: x15 :: x16 :: x17 :: y :: δ) Q ↔ Q (x0 :: x1 :: x2 :: x3 :: x4 :: x5 :: x6 :: x7 :: x8 :: x9 :: x10 :: x11 :: x12 :: x13 :: x14 :: x15 :: x16 :: x17 :: some z :: δ) := Iff.rfl
theorem dTgW18 {x0 x1 x2 x3 x4 x5 x6 x7 x8 x9 x10 x11 x12 x13 x14 x15 x16 x17 : Option D} {y : Option D} {z : D} {δ : DS} {Q : DS → Prop} : dTg (.nm 18) z (wipeD (x0 :: x1 :: x2 :: x3 :: x4 :: x5 :: x6 :: x7 :: x8 :: x9 :: x10 :: x11 :: x12 :: x13 :: x14 :: x15 :: x16 :: x17 :: y :: δ) [18]) Q ↔ Q (x0 :: x1 :: x2 :: x3 :: x4 :: x5 :: x6 :: x7 :: x8 :: x9 :: x10 :: x11 :: x12 :: x13 :: x14 :: x15 :: x16 :: x17 :: some z :: δ) := Iff.rfl
theorem dVar19 {x0 x1 x2 x3 x4 x5 x6 x7 x8 x9 x10 x11 x12 x13 x14 x15 x16 x17 x18 : Option D} {a : D} {δ : DS} {M : Hd} {Q : DK} : dVar 19 (x0 :: x1 :: x2 :: x3 :: x4 :: x5 :: x6 :: x7 :: x8 :: x9 :: x10 :: x11 :: x12 :: x13 :: x14 :: x15 :: x16 :: x17 :: x18 :: some a :: δ) M Q ↔ Q a M := ⟨fun ⟨_, e, h⟩ => by cases e; exact h, fun h => ⟨a, rfl, h⟩⟩
theorem dAug19 {x0 x1 x2 x3 x4 x5 x6 x7 x8 x9 x10 x11 x12 x13 x14 x15 x16 x17 x18 : Option D} {a : D} {δ : DS} {M : Hd} {de : DE} {rd : DR2} {En : DEnds} : dAug 19 de rd En (x0 :: x1 :: x2 :: x3 :: x4 :: x5 :: x6 :: x7 :: x8 :: x9 :: x10 :: x11 :: x12 :: x13 :: x14 :: x15 :: x16 :: x17 :: x18 :: some a :: δ) M ↔ de (x0 :: x1 :: x2 :: x3 :: x4 :: x5 :: x6 :: x7 :: x8 :: x9 :: x10 :: x11 :: x12 :: x13 :: x14 :: x15 :: x16 :: x17 :: x18 :: some a :: δ) M fun y M1 => rd a y M1 fun z M2 => En.nx (x0 :: x1 :: x2 :: x3 :: x4 :: x5 :: x6 :: x7 :: x8 :: x9 :: x10 :: x11 :: x12 :: x13 :: x14 :: x15 :: x16 :: x17 :: x18 :: some z :: δ) M2 := ⟨fun ⟨_, e, h⟩ => by cases e; exact h, fun h => ⟨a, rfl, h⟩⟩
theorem dSet19 {x0 x1 x2 x3 x4 x5 x6 x7 x8 x9 x10 x11 x12 x13 x14 x15 x16 x17 x18 : Option D} {y : Option D} {δ : DS} {M : Hd} {de : DE} {En : DEnds} : dSet 19 de En (x0 :: x1 :: x2 :: x3 :: x4 :: x5 :: x6 :: x7 :: x8 :: x9 :: x10 :: x11 :: x12 :: x13 :: x14 :: x15 :: x16 :: x17 :: x18 :: y :: δ) M ↔ de (x0 :: x1 :: x2 :: x3 :: x4 :: x5 :: x6 :: x7 :: x8 :: x9 :: x10 :: x11 :: x12 :: x13 :: x14 :: x15 :: x16 :: x17 :: x18 :: y :: δ) M fun z M1 => En.nx (x0 :: x1 :: x2 :: x3 :: x4 :: x5 :: x6 :: x7 :: x8 :: x9 :: x10 :: x11 :: x12 :: x13 :: x14 :: x15 :: x16 :: x17 :: x18 :: some z :: δ) M1 := Iff.rfl
theorem dTgN19 {x0 x1 x2 x3 x4 x5 x6 x7 x8 x9 x10 x11 x12 x13 x14 x15 x16 x17 x18 : Option D} {y : Option D} {z : D} {δ : DS} {Q : DS → Prop} : dTg (.nm 19) z (x0 :: x1 :: x2 :: x3 :: x4 :: x5 :: x6 :: x7 :: x8 :: x9 :: x10 :: x11 :: x12 :: x13 :: x14 :: x15 :: x16 :: x17 :: x18 :: y :: δ) Q ↔ Q (x0 :: x1 :: x2 :: x3 :: x4 :: x5 :: x6 :: x7 :: x8 :: x9 :: x10 :: x11 :: x12 :: x13 :: x14 :: x15 :: x16 :: x17 :: x18 :: some z :: δ) := Iff.rfl
theorem dTgW19 {x0 x1 x2 x3 x4 x5 x6 x7 x8 x9 x10 x11 x12 x13 x14 x15 x16 x17 x18 : Option D} {y : Option D} {z : D} {δ : DS} {Q : DS → Prop} : dTg (.nm 19) z (wipeD (x0 :: x1 :: x2 :: x3 :: x4 :: x5 :: x6 :: x7 :: x8 :: x9 :: x10 :: x11 :: x12 :: x13 :: x14 :: x15 :: x16 :: x17 :: x18 :: y :: δ) [19]) Q ↔ Q (x0 :: x1 :: x2 :: x3 :: x4 :: x5 :: x6 :: x7 :: x8 :: x9 :: x10 :: x11 :: x12 :: x13 :: x14 :: x15 :: x16 :: x17 :: x18 :: some z :: δ) := Iff.rfl
theorem dTg_t2 {i j : Nat} {a b : D} {δ : DS} {Q : DS → Prop} : dTg (.t2 i j) (.tup [a, b]) δ Q ↔ dTg (.nm i) a δ fun δ => dTg (.nm j) b δ Q := Iff.rfl
theorem dTg_t3 {i j k : Nat} {a b c : D} {δ : DS} {Q : DS → Prop} : dTg (.t3 i j k) (.tup [a, b, c]) δ Q ↔ dTg (.nm i) a δ fun δ => dTg (.nm j) b δ fun δ => dTg (.nm k) c δ Q := Iff.rfl
theorem dFlag_bl {b : Bool} {M : Hd} {Q : Bool → Hd → Prop} : dFlag (.bl b) M Q ↔ Q b M := ⟨fun ⟨_, e, h⟩ => by cases e; exact h, fun h => ⟨b, rfl, h⟩⟩
theorem exBl {b : Bool} {R : Bool → Prop} : (∃ k, D.bl b = D.bl k ∧ R k) ↔ R b := ⟨fun ⟨_, e, h⟩ => by cases e; exact h, fun h => ⟨b, rfl, h⟩⟩
theorem exInt {b : Int} {R : Int → Prop} : (∃ k, D.int b = D.int k ∧ R k) ↔ R b := ⟨fun ⟨_, e, h⟩ => by cases e; exact h, fun h => ⟨b, rfl, h⟩⟩
theorem exRef {b : Addr} {R : Addr → Prop} : (∃ k, D.ref b = D.ref k ∧ R k) ↔ R b := ⟨fun ⟨_, e, h⟩ => by cases e; exact h, fun h => ⟨b, rfl, h⟩⟩
/-! ### the heap, looked up at once -/
section
variable {M : Hd} {p q : Addr} {l xs : List D} {o : O}
theorem exLSu {R : List D → Prop} : (∃ xs, LS (up M p (.lst l)) p xs ∧ R xs) ↔ R l := ⟨fun ⟨_, a, b⟩ => by rw [← LS_up.mp a]; exact b, fun h => ⟨l, LS_up.mpr rfl, h⟩⟩
theorem exLS (h : M p = some (.lst l)) {R : List D → Prop} : (∃ xs, LS M p xs ∧ R xs) ↔ R l := ⟨fun ⟨_, a, b⟩ => by rw [← (ls_lst h).mp a]; exact b, fun z => ⟨l, (ls_lst h).mpr rfl, z⟩⟩
theorem exLSz (h : M p = some (.fz l)) {R : List D → Prop} : (∃ xs, LS M p xs ∧ R xs) ↔ R l := ⟨fun ⟨_, a, b⟩ => by rw [← (ls_fz h).mp a]; exact b, fun z => ⟨l, (ls_fz h).mpr rfl, z⟩⟩
theorem LS_ne (h : q ≠ p) : LS (up M p o) q xs ↔ LS M q xs := by unfold LS; rw [up_ne h]
theorem DK_ne (h : q ≠ p) {kvs : List (Key × D)} : DK_ (up M p o) q kvs ↔ DK_ M q kvs := by unfold DK_; rw [up_ne h]
theorem exLSn (h : q ≠ p) {R : List D → Prop} : (∃ xs, LS (up M p o) q xs ∧ R xs) ↔ ∃ xs, LS M q xs ∧ R xs := by
  constructor <;> rintro ⟨xs, a, b⟩
  · exact ⟨xs, (LS_ne h).mp a, b⟩
  · exact ⟨xs, (LS_ne h).mpr a, b⟩
theorem exDKu {R : List (Key × D) → Prop} : (∃ kvs, DK_ (up M p (.lst l)) p kvs ∧ R kvs) ↔ False := by
  constructor
  · rintro ⟨kvs, a | a, _⟩ <;> rw [up_same] at a <;> cases a
  · exact False.elim
theorem exDKh (h : M p = some (.lst l)) {R : List (Key × D) → Prop} : (∃ kvs, DK_ M p kvs ∧ R kvs) ↔ False := by
  constructor
  · rintro ⟨kvs, a | a, _⟩ <;> rw [h] at a <;> cases a
  · exact False.elim
theorem exDKz (h : M p = some (.fz l)) {R : List (Key × D) → Prop} : (∃ kvs, DK_ M p kvs ∧ R kvs) ↔ False := by
  constructor
  · rintro ⟨kvs, a | a, _⟩ <;> rw [h] at a <;> cases a
  · exact False.elim
theorem exDKn (h : q ≠ p) {R : List (Key × D) → Prop} : (∃ kvs, DK_ (up M p o) q kvs ∧ R kvs) ↔ ∃ kvs, DK_ M q kvs ∧ R kvs := by
  constructor <;> rintro ⟨xs, a, b⟩
  · exact ⟨xs, (DK_ne h).mp a, b⟩
  · exact ⟨xs, (DK_ne h).mpr a, b⟩
theorem exDKd {kvs : List (Key × D)} {R : List (Key × D) → Prop} : (∃ ks, DK_ (up M p (.dK kvs)) p ks ∧ R ks) ↔ R kvs := by
  constructor
  · rintro ⟨ks, a | a, b⟩ <;> rw [up_same] at a <;> cases a
    exact b
  · exact fun h => ⟨kvs, .inl up_same, h⟩
theorem exLSd {kvs : List (Key × D)} {R : List D → Prop} : (∃ xs, LS (up M p (.dK kvs)) p xs ∧ R xs) ↔ False := by
  constructor
  · rintro ⟨ks, a | a, b⟩ <;> rw [up_same] at a <;> cases a
  · exact False.elim
theorem exLu {R : List D → Prop} : (∃ xs, up M p (.lst l) p = some (.lst xs) ∧ R xs) ↔ R l := by
  rw [up_same]
  exact ⟨fun ⟨_, a, b⟩ => by cases a; exact b, fun h => ⟨l, rfl, h⟩⟩
theorem exLh (h : M p = some (.lst l)) {R : List D → Prop} : (∃ xs, M p = some (.lst xs) ∧ R xs) ↔ R l := by
  rw [h]
  exact ⟨fun ⟨_, a, b⟩ => by cases a; exact b, fun h => ⟨l, rfl, h⟩⟩
theorem exLn (h : q ≠ p) {R : List D → Prop} : (∃ xs, up M p o q = some (.lst xs) ∧ R xs) ↔ ∃ xs, M q = some (.lst xs) ∧ R xs := by rw [up_ne h]
theorem dIxRh (h : M p = some (.lst l)) {i : Int} {Q : D → Prop} : dIxR p (.int i) M Q ↔ ∃ v, atI l i = some v ∧ Q v := by
  unfold dIxR
  constructor
  · rintro (⟨xs, j, v, e, a, b, c⟩ | ⟨kvs, k, v, _, a, _⟩ | ⟨kvs, k, v, e, _⟩)
    · cases e
      rw [(ls_lst h).mp a] at b
      exact ⟨v, b, c⟩
    · exact absurd (show ∃ kvs, DK_ M p kvs ∧ True from ⟨kvs, a, trivial⟩) (exDKh h).mp
    · cases e
  · rintro ⟨v, b, c⟩
    exact .inl ⟨l, i, v, rfl, .inl h, b, c⟩
theorem dIxRz (h : M p = some (.fz l)) {i : Int} {Q : D → Prop} : dIxR p (.int i) M Q ↔ ∃ v, atI l i = some v ∧ Q v := by
  unfold dIxR
  constructor
  · rintro (⟨xs, j, v, e, a, b, c⟩ | ⟨kvs, k, v, _, a, _⟩ | ⟨kvs, k, v, e, _⟩)
    · cases e
      rw [(ls_fz h).mp a] at b
      exact ⟨v, b, c⟩
    · exact absurd (show ∃ kvs, DK_ M p kvs ∧ True from ⟨kvs, a, trivial⟩) (exDKz h).mp
    · cases e
  · rintro ⟨v, b, c⟩
    exact .inl ⟨l, i, v, rfl, .inr h, b, c⟩
theorem dIxRu {i : Int} {Q : D → Prop} : dIxR p (.int i) (up M p (.lst l)) Q ↔ ∃ v, atI l i = some v ∧ Q v := dIxRh up_same
theorem dIxRn (h : q ≠ p) {y : D} {Q : D → Prop} : dIxR q y (up M p o) Q ↔ dIxR q y M Q := by
  unfold dIxR LS DK_
  rw [up_ne h]
theorem dPuth (h : M p = some (.lst l)) {i : Int} {v : D} {Q : Hd → Prop} : dPut (.ref p) (.int i) v M Q ↔ ∃ j, ixN l.length i = some j ∧ Q (up M p (.lst (l.set j v))) := by
  unfold dPut
  constructor
  · rintro ⟨p', e, h2⟩
    cases e
    rcases h2 with ⟨xs, k, j, e, a, b, c⟩ | ⟨kvs, k, _, a, _⟩ | ⟨kvs, k, e, _⟩
    · cases e
      rw [h] at a
      cases a
      exact ⟨j, b, c⟩
    · rw [h] at a; cases a
    · cases e
  · rintro ⟨j, b, c⟩
    exact ⟨p, rfl, .inl ⟨l, i, j, rfl, h, b, c⟩⟩
theorem dPutu {i : Int} {v : D} {Q : Hd → Prop} : dPut (.ref p) (.int i) v (up M p (.lst l)) Q ↔ ∃ j, ixN l.length i = some j ∧ Q (up M p (.lst (l.set j v))) := by
  rw [dPuth up_same]
  simp only [up_up]
theorem dGetAh (h : M p = some (.lst l)) {i : Int} {Q : DK} : dGetA (.ref p) (.int i) M Q ↔ 0 ≤ i ∧ ∃ v, l[i.toNat]? = some v ∧ Q v M := by
  unfold dGetA
  constructor
  · rintro ⟨p', e, ⟨xs, j, v, e2, a, b, c, d⟩ | ⟨kvs, k, v, _, a, _⟩⟩
    · cases e; cases e2
      rw [(ls_lst h).mp a] at c
      exact ⟨b, v, c, d⟩
    · cases e
      exact absurd (show ∃ kvs, DK_ M p kvs ∧ True from ⟨kvs, a, trivial⟩) (exDKh h).mp
  · rintro ⟨b, v, c, d⟩
    exact ⟨p, rfl, .inl ⟨l, i, v, rfl, .inl h, b, c, d⟩⟩
theorem dGetAu {i : Int} {Q : DK} : dGetA (.ref p) (.int i) (up M p (.lst l)) Q ↔ 0 ≤ i ∧ ∃ v, l[i.toNat]? = some v ∧ Q v (up M p (.lst l)) := dGetAh up_same
theorem exAtM {α : Type} {f : α → D} {ys : List α} {i : Int} {R : D → Prop} : (∃ v, atI (ys.map f) i = some v ∧ R v) ↔ ∃ a, atI ys i = some a ∧ R (f a) := by
  unfold atI
  rw [List.length_map]
  cases ixN ys.length i with
  | none => simp
  | some j =>
    simp only [List.getElem?_map]
    constructor
    · rintro ⟨v, e, h⟩
      obtain ⟨a, ha, rfl⟩ := Option.map_eq_some_iff.mp e
      exact ⟨a, ha, h⟩
    · rintro ⟨a, e, h⟩
      have e' : ys[j]? = some a := e
      exact ⟨f a, by show Option.map f ys[j]? = _; rw [e']; rfl, h⟩
theorem atI_lt {α : Type} {ys : List α} {i : Int} (h0 : 0 ≤ i) (h1 : i < ys.length) : ∃ a, atI ys i = some a ∧ ys[i.toNat]? = some a := by
  obtain ⟨j, rfl⟩ := Int.eq_ofNat_of_zero_le h0
  have hj : j < ys.length := by omega
  exact ⟨ys[j], atI_nat (List.getElem?_eq_getElem hj), by simp [hj]⟩
theorem ixN_lt {n : Nat} {i : Int} (h0 : 0 ≤ i) (h1 : i < n) : ixN n i = some i.toNat := by
  unfold ixN
  obtain ⟨j, rfl⟩ := Int.eq_ofNat_of_zero_le h0
  have hj : j < n := by omega
  simp [hj]
theorem dPutn (h : q ≠ p) {i : Int} {v : D} {Q : Hd → Prop} : dPut (.ref q) (.int i) v (up (up M q (.lst l)) p o) Q ↔ ∃ j, ixN l.length i = some j ∧ Q (up (up M q (.lst (l.set j v))) p o) := by
  rw [up_comm h, dPutu]
  simp only [up_comm h]
theorem dEq_int {i j : Int} {Q : DK} : dEq (.int i) (.int j) M Q ↔ Q (.bl (decide (i = j))) M := Iff.rfl
theorem dNe_int {i j : Int} {Q : DK} : dNe (.int i) (.int j) M Q ↔ Q (.bl (!decide (i = j))) M := Iff.rfl
theorem dEq_bl {i j : Bool} {Q : DK} : dEq (.bl i) (.bl j) M Q ↔ Q (.bl (decide (i = j))) M := Iff.rfl
theorem dNe_bl {i j : Bool} {Q : DK} : dNe (.bl i) (.bl j) M Q ↔ Q (.bl (!decide (i = j))) M := Iff.rfl
theorem dEq_str {i j : Str} {Q : DK} : dEq (.str i) (.str j) M Q ↔ Q (.bl (decide (i = j))) M := Iff.rfl
theorem dNe_str {i j : Str} {Q : DK} : dNe (.str i) (.str j) M Q ↔ Q (.bl (!decide (i = j))) M := Iff.rfl
theorem dAdd_tup {xs ys : List D} {Q : DK} : dAdd (.tup xs) (.tup ys) M Q ↔ xs.length + ys.length ≤ sizeLine ∧ Q (.tup (xs ++ ys)) M := Iff.rfl
theorem dAdd_ref {Q : DK} : dAdd (.ref p) (.ref q) M Q ↔ ∃ xs, M p = some (.lst xs) ∧ ∃ ys, M q = some (.lst ys) ∧ xs.length + ys.length ≤ sizeLine ∧ ∀ l, M l = none → Q (.ref l) (up M l (.lst (xs ++ ys))) :=
  ⟨fun ⟨xs, ys, a, b, c⟩ => ⟨xs, a, ys, b, c⟩, fun ⟨xs, a, ys, b, c⟩ => ⟨xs, ys, a, b, c⟩⟩
theorem dAdd_int {i j : Int} {Q : DK} : dAdd (.int i) (.int j) M Q ↔ Q (.int (i + j)) M := Iff.rfl
theorem exAt10 {a : D} {R : D → Prop} : (∃ v, atI [a] 0 = some v ∧ R v) ↔ R a := ⟨fun ⟨_, e, h⟩ => by cases e; exact h, fun h => ⟨_, rfl, h⟩⟩
theorem exIx10 {a : D} {R : Nat → Prop} : (∃ j, ixN [a].length 0 = some j ∧ R j) ↔ R 0 := ⟨fun ⟨_, e, h⟩ => by cases e; exact h, fun h => ⟨_, rfl, h⟩⟩
theorem exAt20 {a b : D} {R : D → Prop} : (∃ v, atI [a, b] 0 = some v ∧ R v) ↔ R a := ⟨fun ⟨_, e, h⟩ => by cases e; exact h, fun h => ⟨_, rfl, h⟩⟩
theorem exIx20 {a b : D} {R : Nat → Prop} : (∃ j, ixN [a, b].length 0 = some j ∧ R j) ↔ R 0 := ⟨fun ⟨_, e, h⟩ => by cases e; exact h, fun h => ⟨_, rfl, h⟩⟩
theorem exAt21 {a b : D} {R : D → Prop} : (∃ v, atI [a, b] 1 = some v ∧ R v) ↔ R b := ⟨fun ⟨_, e, h⟩ => by cases e; exact h, fun h => ⟨_, rfl, h⟩⟩
theorem exIx21 {a b : D} {R : Nat → Prop} : (∃ j, ixN [a, b].length 1 = some j ∧ R j) ↔ R 1 := ⟨fun ⟨_, e, h⟩ => by cases e; exact h, fun h => ⟨_, rfl, h⟩⟩
theorem exAt30 {a b c : D} {R : D → Prop} : (∃ v, atI [a, b, c] 0 = some v ∧ R v) ↔ R a := ⟨fun ⟨_, e, h⟩ => by cases e; exact h, fun h => ⟨_, rfl, h⟩⟩
theorem exIx30 {a b c : D} {R : Nat → Prop} : (∃ j, ixN [a, b, c].length 0 = some j ∧ R j) ↔ R 0 := ⟨fun ⟨_, e, h⟩ => by cases e; exact h, fun h => ⟨_, rfl, h⟩⟩
theorem exAt31 {a b c : D} {R : D → Prop} : (∃ v, atI [a, b, c] 1 = some v ∧ R v) ↔ R b := ⟨fun ⟨_, e, h⟩ => by cases e; exact h, fun h => ⟨_, rfl, h⟩⟩
theorem exIx31 {a b c : D} {R : Nat → Prop} : (∃ j, ixN [a, b, c].length 1 = some j ∧ R j) ↔ R 1 := ⟨fun ⟨_, e, h⟩ => by cases e; exact h, fun h => ⟨_, rfl, h⟩⟩
theorem exAt32 {a b c : D} {R : D → Prop} : (∃ v, atI [a, b, c] 2 = some v ∧ R v) ↔ R c := ⟨fun ⟨_, e, h⟩ => by cases e; exact h, fun h => ⟨_, rfl, h⟩⟩
theorem exIx32 {a b c : D} {R : Nat → Prop} : (∃ j, ixN [a, b, c].length 2 = some j ∧ R j) ↔ R 2 := ⟨fun ⟨_, e, h⟩ => by cases e; exact h, fun h => ⟨_, rfl, h⟩⟩
theorem exAt40 {a b c d : D} {R : D → Prop} : (∃ v, atI [a, b, c, d] 0 = some v ∧ R v) ↔ R a := ⟨fun ⟨_, e, h⟩ => by cases e; exact h, fun h => ⟨_, rfl, h⟩⟩
theorem exIx40 {a b c d : D} {R : Nat → Prop} : (∃ j, ixN [a, b, c, d].length 0 = some j ∧ R j) ↔ R 0 := ⟨fun ⟨_, e, h⟩ => by cases e; exact h, fun h => ⟨_, rfl, h⟩⟩
theorem exAt41 {a b c d : D} {R : D → Prop} : (∃ v, atI [a, b, c, d] 1 = some v ∧ R v) ↔ R b := ⟨fun ⟨_, e, h⟩ => by cases e; exact h, fun h => ⟨_, rfl, h⟩⟩
theorem exIx41 {a b c d : D} {R : Nat → Prop} : (∃ j, ixN [a, b, c, d].length 1 = some j ∧ R j) ↔ R 1 := ⟨fun ⟨_, e, h⟩ => by cases e; exact h, fun h => ⟨_, rfl, h⟩⟩
theorem exAt42 {a b c d : D} {R : D → Prop} : (∃ v, atI [a, b, c, d] 2 = some v ∧ R v) ↔ R c := ⟨fun ⟨_, e, h⟩ => by cases e; exact h, fun h => ⟨_, rfl, h⟩⟩
theorem exIx42 {a b c d : D} {R : Nat → Prop} : (∃ j, ixN [a, b, c, d].length 2 = some j ∧ R j) ↔ R 2 := ⟨fun ⟨_, e, h⟩ => by cases e; exact h, fun h => ⟨_, rfl, h⟩⟩
theorem exAt43 {a b c d : D} {R : D → Prop} : (∃ v, atI [a, b, c, d] 3 = some v ∧ R v) ↔ R d := ⟨fun ⟨_, e, h⟩ => by cases e; exact h, fun h => ⟨_, rfl, h⟩⟩
theorem exIx43 {a b c d : D} {R : Nat → Prop} : (∃ j, ixN [a, b, c, d].length 3 = some j ∧ R j) ↔ R 3 := ⟨fun ⟨_, e, h⟩ => by cases e; exact h, fun h => ⟨_, rfl, h⟩⟩
theorem exAt50 {a b c d e : D} {R : D → Prop} : (∃ v, atI [a, b, c, d, e] 0 = some v ∧ R v) ↔ R a := ⟨fun ⟨_, e, h⟩ => by cases e; exact h, fun h => ⟨_, rfl, h⟩⟩
theorem exIx50 {a b c d e : D} {R : Nat → Prop} : (∃ j, ixN [a, b, c, d, e].length 0 = some j ∧ R j) ↔ R 0 := ⟨fun ⟨_, e, h⟩ => by cases e; exact h, fun h => ⟨_, rfl, h⟩⟩
theorem exAt51 {a b c d e : D} {R : D → Prop} : (∃ v, atI [a, b, c, d, e] 1 = some v ∧ R v) ↔ R b := ⟨fun ⟨_, e, h⟩ => by cases e; exact h, fun h => ⟨_, rfl, h⟩⟩
theorem exIx51 {a b c d e : D} {R : Nat → Prop} : (∃ j, ixN [a, b, c, d, e].length 1 = some j ∧ R j) ↔ R 1 := ⟨fun ⟨_, e, h⟩ => by cases e; exact h, fun h => ⟨_, rfl, h⟩⟩
theorem exAt52 {a b c d e : D} {R : D → Prop} : (∃ v, atI [a, b, c, d, e] 2 = some v ∧ R v) ↔ R c := ⟨fun ⟨_, e, h⟩ => by cases e; exact h, fun h => ⟨_, rfl, h⟩⟩
theorem exIx52 {a b c d e : D} {R : Nat → Prop} : (∃ j, ixN [a, b, c, d, e].length 2 = some j ∧ R j) ↔ R 2 := ⟨fun ⟨_, e, h⟩ => by cases e; exact h, fun h => ⟨_, rfl, h⟩⟩
theorem exAt53 {a b c d e : D} {R : D → Prop} : (∃ v, atI [a, b, c, d, e] 3 = some v ∧ R v) ↔ R d := ⟨fun ⟨_, e, h⟩ => by cases e; exact h, fun h => ⟨_, rfl, h⟩⟩
theorem exIx53 {a b c d e : D} {R : Nat → Prop} : (∃ j, ixN [a, b, c, d, e].length 3 = some j ∧ R j) ↔ R 3 := ⟨fun ⟨_, e, h⟩ => by cases e; exact h, fun h => ⟨_, rfl, h⟩⟩
theorem exAt54 {a b c d e : D} {R : D → Prop} : (∃ v, atI [a, b, c, d, e] 4 = some v ∧ R v) ↔ R e := ⟨fun ⟨_, e, h⟩ => by cases e; exact h, fun h => ⟨_, rfl, h⟩⟩
theorem exIx54 {a b c d e : D} {R : Nat → Prop} : (∃ j, ixN [a, b, c, d, e].length 4 = some j ∧ R j) ↔ R 4 := ⟨fun ⟨_, e, h⟩ => by cases e; exact h, fun h => ⟨_, rfl, h⟩⟩
theorem exAt60 {a b c d e f : D} {R : D → Prop} : (∃ v, atI [a, b, c, d, e, f] 0 = some v ∧ R v) ↔ R a := ⟨fun ⟨_, e, h⟩ => by cases e; exact h, fun h => ⟨_, rfl, h⟩⟩
theorem exIx60 {a b c d e f : D} {R : Nat → Prop} : (∃ j, ixN [a, b, c, d, e, f].length 0 = some j ∧ R j) ↔ R 0 := ⟨fun ⟨_, e, h⟩ => by cases e; exact h, fun h => ⟨_, rfl, h⟩⟩
theorem exAt61 {a b c d e f : D} {R : D → Prop} : (∃ v, atI [a, b, c, d, e, f] 1 = some v ∧ R v) ↔ R b := ⟨fun ⟨_, e, h⟩ => by cases e; exact h, fun h => ⟨_, rfl, h⟩⟩
theorem exIx61 {a b c d e f : D} {R : Nat → Prop} : (∃ j, ixN [a, b, c, d, e, f].length 1 = some j ∧ R j) ↔ R 1 := ⟨fun ⟨_, e, h⟩ => by cases e; exact h, fun h => ⟨_, rfl, h⟩⟩
theorem exAt62 {a b c d e f : D} {R : D → Prop} : (∃ v, atI [a, b, c, d, e, f] 2 = some v ∧ R v) ↔ R c := ⟨fun ⟨_, e, h⟩ => by cases e; exact h, fun h => ⟨_, rfl, h⟩⟩
theorem exIx62 {a b c d e f : D} {R : Nat → Prop} : (∃ j, ixN [a, b, c, d, e, f].length 2 = some j ∧ R j) ↔ R 2 := ⟨fun ⟨_, e, h⟩ => by cases e; exact h, fun h => ⟨_, rfl, h⟩⟩
theorem exAt63 {a b c d e f : D} {R : D → Prop} : (∃ v, atI [a, b, c, d, e, f] 3 = some v ∧ R v) ↔ R d := ⟨fun ⟨_, e, h⟩ => by cases e; exact h, fun h => ⟨_, rfl, h⟩⟩
theorem exIx63 {a b c d e f : D} {R : Nat → Prop} : (∃ j, ixN [a, b, c, d, e, f].length 3 = some j ∧ R j) ↔ R 3 := ⟨fun ⟨_, e, h⟩ => by cases e; exact h, fun h => ⟨_, rfl, h⟩⟩
theorem exAt64 {a b c d e f : D} {R : D → Prop} : (∃ v, atI [a, b, c, d, e, f] 4 = some v ∧ R v) ↔ R e := ⟨fun ⟨_, e, h⟩ => by cases e; exact h, fun h => ⟨_, rfl, h⟩⟩
theorem exIx64 {a b c d e f : D} {R : Nat → Prop} : (∃ j, ixN [a, b, c, d, e, f].length 4 = some j ∧ R j) ↔ R 4 := ⟨fun ⟨_, e, h⟩ => by cases e; exact h, fun h => ⟨_, rfl, h⟩⟩
theorem exAt65 {a b c d e f : D} {R : D → Prop} : (∃ v, atI [a, b, c, d, e, f] 5 = some v ∧ R v) ↔ R f := ⟨fun ⟨_, e, h⟩ => by cases e; exact h, fun h => ⟨_, rfl, h⟩⟩
theorem exIx65 {a b c d e f : D} {R : Nat → Prop} : (∃ j, ixN [a, b, c, d, e, f].length 5 = some j ∧ R j) ↔ R 5 := ⟨fun ⟨_, e, h⟩ => by cases e; exact h, fun h => ⟨_, rfl, h⟩⟩
end
/-! ### dicts, reckoned -/
theorem valD_nil {κ : Type} [DecidableEq κ] (k : κ) : valD ([] : List (κ × D)) k = none := rfl
theorem valD_cons {κ : Type} [DecidableEq κ] (a : κ × D) (l : List (κ × D)) (k : κ) : valD (a :: l) k = if a.1 = k then some a.2 else valD l k := by
  unfold valD
  rw [List.find?_cons]
  by_cases h : a.1 = k
  · simp [h]
  · simp [h]
theorem valD_none {κ : Type} [DecidableEq κ] : ∀ (l : List (κ × D)) (k : κ), (l.any fun kv => decide (kv.1 = k)) = false → valD l k = none
  | [], _, _ => rfl
  | a :: l, k, h => by
    rw [List.any_cons, Bool.or_eq_false_iff] at h
    rw [valD_cons, if_neg (of_decide_eq_false h.1)]
    exact valD_none l k h.2
theorem valD_app {κ : Type} [DecidableEq κ] : ∀ (l m : List (κ × D)) (k : κ), valD (l ++ m) k = (valD l k).or (valD m k)
  | [], m, k => by simp [valD_nil]
  | a :: l, m, k => by
    rw [List.cons_append, valD_cons, valD_cons, valD_app l m k]
    split <;> simp
theorem valD_map_ne {κ : Type} [DecidableEq κ] (k j : κ) (v : D) (h : ¬ j = k) : ∀ l : List (κ × D), valD (l.map fun kv => if kv.1 = k then (kv.1, v) else kv) j = valD l j
  | [] => rfl
  | b :: l => by
    rw [List.map_cons, valD_cons, valD_cons, valD_map_ne k j v h l]
    by_cases hb : b.1 = k
    · have : ¬ b.1 = j := fun z => h (z.symm.trans hb)
      rw [if_pos hb, if_neg this, if_neg this]
    · rw [if_neg hb]
theorem valD_map_eq {κ : Type} [DecidableEq κ] (k : κ) (v : D) : ∀ l : List (κ × D), (l.any fun kv => decide (kv.1 = k)) = true → valD (l.map fun kv => if kv.1 = k then (kv.1, v) else kv) k = some v
  | [], h => by simp at h
  | b :: l, h => by
    rw [List.map_cons, valD_cons]
    by_cases hb : b.1 = k
    · rw [if_pos hb, if_pos hb]
    · rw [if_neg hb, if_neg hb]
      exact valD_map_eq k v l (by simpa [hb] using h)
theorem valD_put {κ : Type} [DecidableEq κ] (l : List (κ × D)) (k j : κ) (v : D) : valD (putKD l k v) j = if j = k then some v else valD l j := by
  unfold putKD
  by_cases h : (l.any fun kv => decide (kv.1 = k)) = true
  · rw [if_pos h]
    by_cases hj : j = k
    · subst hj
      rw [if_pos rfl, valD_map_eq j v l h]
    · rw [if_neg hj, valD_map_ne k j v hj]
  · rw [if_neg h, valD_app, valD_cons, valD_nil]
    by_cases hj : j = k
    · subst hj
      rw [valD_none l j (Bool.eq_false_iff.mpr h)]
      simp
    · have : ¬ k = j := fun z => hj z.symm
      simp [hj, this]
theorem valD_fold {α κ : Type} [DecidableEq κ] (kf : α → κ) (g : α → D) : ∀ (xs : List α) (acc : List (κ × D)) (k : κ), (valD (xs.foldl (fun acc a => putKD acc (kf a) (g a)) acc) k).isSome = true ↔ (∃ x ∈ xs, kf x = k) ∨ (valD acc k).isSome = true
  | [], acc, k => by simp
  | a :: xs, acc, k => by
    rw [List.foldl_cons, valD_fold kf g xs, valD_put]
    by_cases h : k = kf a
    · subst h; simp
    · have h' : ¬ kf a = k := fun z => h z.symm
      simp [h, h']
/-! ### plans as data -/
def nD (n : Nat) : D := .int n
def rwD (r : List Nat) : D := .tup (r.map nD)
def plD (p : List (List Nat)) : D := .tup (p.map rwD)
theorem exGetM {α : Type} {f : α → D} {ys : List α} {i : Nat} {R : D → Prop} : (∃ v, (ys.map f)[i]? = some v ∧ R v) ↔ ∃ a, ys[i]? = some a ∧ R (f a) := by
  rw [List.getElem?_map]
  constructor
  · rintro ⟨v, e, h⟩
    obtain ⟨a, ha, rfl⟩ := Option.map_eq_some_iff.mp e
    exact ⟨a, ha, h⟩
  · rintro ⟨a, e, h⟩
    exact ⟨f a, by rw [e]; rfl, h⟩
theorem sumN (xs : List Nat) : (xs.map fun n : Nat => (n : Int)).sum = ((xs.sum : Nat) : Int) := by
  induction xs with
  | nil => rfl
  | cons x xs ih => simp [ih]
theorem nD_ints (xs : List Nat) : (xs.map fun n : Nat => (n : Int)).map D.int = xs.map nD := by
  rw [List.map_map]
  rfl
theorem nD_inv : ∀ {ns : List Int} {xs : List Nat}, ns.map D.int = xs.map nD → ns = xs.map fun n : Nat => (n : Int)
  | [], [], _ => rfl
  | [], _ :: _, h => by simp at h
  | _ :: _, [], h => by simp at h
  | n :: ns, x :: xs, h => by
    rw [List.map_cons, List.map_cons, List.cons.injEq] at h
    have h1 : n = (x : Int) := D.int.inj h.1
    rw [List.map_cons, nD_inv h.2, h1]
theorem exSumU {M : Hd} {p : Addr} {xs : List Nat} {R : List Int → Prop} : (∃ ns : List Int, LS (up M p (.lst (xs.map nD))) p (ns.map D.int) ∧ R ns) ↔ R (xs.map fun n : Nat => (n : Int)) := by
  constructor
  · rintro ⟨ns, a, b⟩
    rw [← nD_inv (LS_up.mp a)]
    exact b
  · exact fun h => ⟨_, by rw [nD_ints]; exact LS_up.mpr rfl, h⟩
theorem exSumH {M : Hd} {p : Addr} {xs : List Nat} (h : M p = some (.lst (xs.map nD))) {R : List Int → Prop} : (∃ ns : List Int, LS M p (ns.map D.int) ∧ R ns) ↔ R (xs.map fun n : Nat => (n : Int)) := by
  constructor
  · rintro ⟨ns, a, b⟩
    rw [← nD_inv ((ls_lst h).mp a)]
    exact b
  · exact fun z => ⟨_, by rw [nD_ints]; exact (ls_lst h).mpr rfl, z⟩
theorem down0 (n : Nat) : downD ((n : Int) - 1) (-1) = ((List.range n).reverse).map nD := by
  unfold downD
  have : ((n : Int) - 1 - -1).toNat = n := by omega
  rw [this]
  refine List.ext_getElem (by simp) fun i h1 h2 => ?_
  have hi : i < n := by simpa using h1
  simp only [List.getElem_map, List.getElem_range, List.getElem_reverse, List.length_range]
  show D.int _ = D.int _
  congr 1
  omega
theorem rng0 (n : Nat) : rngD 0 n = (List.range n).map nD := by
  unfold rngD
  have : ((n : Int) - 0).toNat = n := by omega
  rw [this]
  refine List.map_congr_left fun i _ => ?_
  show D.int (0 + (i : Int)) = D.int i
  rw [Int.zero_add]
theorem enum_map {α : Type} (f : α → D) (xs : List α) : enumD (xs.map f) = xs.zipIdx.map fun p => .tup [nD p.2, f p.1] := by
  unfold enumD
  rw [List.zipIdx_map, List.map_map]
  rfl
theorem snb {M : Hd} {p : Addr} {o : O} {Q : Hd → Prop} (h : M p = none) (b : Q M) (ho : ∀ c, o ≠ .own c := by intro _ z; cases z) : ∃ M2, Sub (up M p o) M2 ∧ Q M2 := ⟨M, Sub.new h ho, b⟩
theorem snb2 {M : Hd} {p q : Addr} {o u : O} {Q : Hd → Prop} (h : M p = none) (h2 : up M p o q = none) (b : Q M) (ho : ∀ c, o ≠ .own c := by intro _ z; cases z) (hu : ∀ c, u ≠ .own c := by intro _ z; cases z) : ∃ M2, Sub (up (up M p o) q u) M2 ∧ Q M2 := ⟨M, (Sub.new h2 hu).trans (Sub.new h ho), b⟩
theorem Sub.dn {K : PySem.W.Frag} {M M' : Hd} (a : Sub M M') {Q : Hd → Prop} (b : Q M') : ∃ M2, Fgt K M M2 ∧ Q M2 := ⟨M', a.fgt, b⟩
theorem dn0 {K : PySem.W.Frag} {M : Hd} {Q : Hd → Prop} (b : Q M) : ∃ M2, Fgt K M M2 ∧ Q M2 := ⟨M, Fgt.refl, b⟩
theorem sb0 {M : Hd} {Q : Hd → Prop} (b : Q M) : ∃ M2, Sub M M2 ∧ Q M2 := ⟨M, Sub.refl, b⟩
end T3
namespace T3
open PySem PySem.Spec PyProof.Rows L2
theorem drawn {k : Nat} {x : Int} (hk : 0 < k) : ∃ v, v < k ∧ D.int (x % (k : Int)) = nD v := by
  have h0 : 0 ≤ x % (k : Int) := Int.emod_nonneg _ (by omega)
  have h1 : x % (k : Int) < k := Int.emod_lt_of_pos _ (by omega)
  refine ⟨(x % (k : Int)).toNat, by omega, ?_⟩
  show D.int _ = D.int _
  rw [Int.toNat_of_nonneg h0]
theorem cm_l {i j : Int} (h0 : -(18446744073709551616) < i) (h1 : i < 18446744073709551616) : CMul i j := .inl ⟨h0, h1⟩
theorem cm_r {i j : Int} (h0 : -(18446744073709551616) < j) (h1 : j < 18446744073709551616) : CMul i j := .inr ⟨h0, h1⟩
theorem cd_k {i : Int} {k : Nat} (h : 0 < k) (h2 : k < 1073741824) : CDiv i k := ⟨by omega, by omega⟩
/-! ### what is drawn from: a list of numbers, or a list that holds one and numbers, hidden -/
def FlatI (p : Addr) (G : List Int → Prop) : Hp → Prop := fun H => ∃ ns, G ns ∧ H p = some (.lst (ns.map V.int))
def PairI (p r : Addr) (G : List Int → List Int → Prop) : Hp → Prop := fun H => ∃ ns ms, G ns ms ∧ H r = some (.lst (ns.map V.int)) ∧ H p = some (.lst (.ref r :: ms.map V.int))
def Flat (G : List Int → Prop) (M : Hd) (p : Addr) : Prop := M p = some (.ext (FlatI p G) [])
def Duo (G : List Int → List Int → Prop) (M : Hd) (p : Addr) : Prop := ∃ r, M p = some (.ext (PairI p r G) [r]) ∧ M r = some (.own p)
theorem Rs.ints' {K : PySem.W.Frag} {H : Hp} {ns : List Int} : Rs K H (ns.map D.int) (ns.map V.int) := Rs.of_ints ns
section
variable {K : PySem.W.Frag} {H : Hp} {M : Hd} {p r : Addr}
theorem flat_open {G : List Int → Prop} (rep : Rep K H M) (h : Flat G M p) : ∃ ns, G ns ∧ Rep K H (up M p (.lst (ns.map D.int))) := by
  obtain ⟨⟨ns, g, e⟩, _⟩ := rep p _ h
  refine ⟨ns, g, fun a o q => ?_⟩
  by_cases ha : a = p
  · subst ha
    rw [up_same] at q; cases q
    exact ⟨_, e, Rs.of_ints ns⟩
  · rw [up_ne ha] at q
    refine (rep a o q).stay Tx.refl (fun _ _ _ z => z) fun b c hb => ?_
    have : b ≠ p := by rintro rfl; rw [h] at hb; cases hb
    rw [up_ne this]; exact hb
theorem flat_close {G : List Int → Prop} {ns : List Int} (h : Flat G M p) (g : G ns) : Fgt K (up M p (.lst (ns.map D.int))) M := by
  refine ⟨fun H rep a o q => ?_, fun a e => ?_⟩
  · by_cases ha : a = p
    · subst ha
      have h' : M a = _ := h
      rw [h'] at q; cases q
      obtain ⟨vs, e, rs⟩ := rep a _ up_same
      have := rs.ints
      subst this
      exact ⟨⟨ns, g, e⟩, ⟨_, e, trivial⟩, fun b hb => by simp at hb, fun H2 _ hk => ⟨ns, g, hk a _ (.inl rfl) e⟩⟩
    · have q' : up M p (.lst (ns.map D.int)) a = some o := by rw [up_ne ha]; exact q
      refine (rep a o q').stay Tx.refl (fun _ _ _ z => z) fun b c hb => ?_
      by_cases hb' : b = p
      · subst hb'; rw [up_same] at hb; cases hb
      · rw [up_ne hb'] at hb; exact hb
  · by_cases ha : a = p
    · subst ha; rw [up_same] at e; cases e
    · rw [up_ne ha] at e; exact e
/-- a new one, hidden at once -/
theorem flat_new {G : List Int → Prop} {ns : List Int} (g : G ns) : Fgt K (up M p (.lst (ns.map D.int))) (up M p (.ext (FlatI p G) [])) := by
  have := flat_close (K := K) (M := up M p (.ext (FlatI p G) [])) (p := p) (G := G) (ns := ns) up_same g
  rwa [up_up] at this
theorem duo_open {G : List Int → List Int → Prop} (rep : Rep K H M) (h : Duo G M p) : ∃ r ns ms, r ≠ p ∧ M r = some (.own p) ∧ M p = some (.ext (PairI p r G) [r]) ∧ G ns ms ∧ Rep K H (up (up M r (.lst (ns.map D.int))) p (.lst (.ref r :: ms.map D.int))) := by
  obtain ⟨r, h1, h2⟩ := h
  obtain ⟨⟨ns, ms, g, e1, e2⟩, _⟩ := rep p _ h1
  have ne : r ≠ p := by rintro rfl; rw [h1] at h2; cases h2
  refine ⟨r, ns, ms, ne, h2, h1, g, fun a o q => ?_⟩
  by_cases ha : a = p
  · subst ha
    rw [up_same] at q; cases q
    exact ⟨_, e2, .cons R.ref' (Rs.of_ints ms)⟩
  · rw [up_ne ha] at q
    by_cases hr : a = r
    · subst hr
      rw [up_same] at q; cases q
      exact ⟨_, e1, Rs.of_ints ns⟩
    · rw [up_ne hr] at q
      cases o with
      | ext I own =>
        obtain ⟨i1, i2, i3, i4⟩ := rep a _ q
        refine ⟨i1, i2, fun b hb => ?_, i4⟩
        have mb := i3 b hb
        have n1 : b ≠ p := by rintro rfl; rw [h1] at mb; cases mb
        have n2 : b ≠ r := by
          rintro rfl
          rw [h2] at mb
          cases mb
          exact ha rfl
        rw [up_ne n1, up_ne n2]
        exact mb
      | lst xs => exact rep a _ q
      | fz xs => exact rep a _ q
      | dK xs => exact rep a _ q
      | dKz xs => exact rep a _ q
      | dT xs => exact rep a _ q
      | own c => exact rep a _ q
theorem duo_close {G : List Int → List Int → Prop} {ns ms : List Int} (h1 : M p = some (.ext (PairI p r G) [r])) (h2 : M r = some (.own p)) (g : G ns ms) : Fgt K (up (up M r (.lst (ns.map D.int))) p (.lst (.ref r :: ms.map D.int))) M := by
  have ne : r ≠ p := by rintro rfl; rw [h1] at h2; cases h2
  refine ⟨fun H rep a o q => ?_, fun a e => ?_⟩
  · obtain ⟨vs, e1, rs1⟩ := rep p _ up_same
    obtain ⟨us, e2, rs2⟩ := rep r (.lst (ns.map D.int)) (by rw [up_ne ne, up_same])
    have := rs2.ints
    subst this
    obtain ⟨v, ws, rfl, rv, rs⟩ := rs1.ucons
    have := rs.ints
    subst this
    rw [rv.ref_] at e1
    by_cases ha : a = p
    · subst ha
      rw [h1] at q; cases q
      refine ⟨⟨ns, ms, g, e2, e1⟩, ⟨_, e1, trivial⟩, fun b hb => ?_, fun H2 _ hk => ⟨ns, ms, g, hk r _ (.inr (by simp)) e2, hk a _ (.inl rfl) e1⟩⟩
      have : b = r := by simpa using hb
      rw [this]; exact h2
    · by_cases hr : a = r
      · subst hr
        rw [h2] at q; cases q
        exact ⟨_, e2, trivial⟩
      · have q' : up (up M r (.lst (ns.map D.int))) p (.lst (.ref r :: ms.map D.int)) a = some o := by rw [up_ne ha, up_ne hr]; exact q
        refine (rep a o q').stay Tx.refl (fun _ _ _ z => z) fun b c hb => ?_
        by_cases n1 : b = p
        · subst n1; rw [up_same] at hb; cases hb
        · rw [up_ne n1] at hb
          by_cases n2 : b = r
          · subst n2; rw [up_same] at hb; cases hb
          · rw [up_ne n2] at hb; exact hb
  · by_cases ha : a = p
    · subst ha; rw [up_same] at e; cases e
    · rw [up_ne ha] at e
      by_cases hr : a = r
      · subst hr; rw [up_same] at e; cases e
      · rw [up_ne hr] at e; exact e
/-- a new one, hidden at once -/
theorem duo_new {G : List Int → List Int → Prop} {ns ms : List Int} (ne : r ≠ p) (g : G ns ms) : Fgt K (up (up M r (.lst (ns.map D.int))) p (.lst (.ref r :: ms.map D.int))) (up (up M r (.own p)) p (.ext (PairI p r G) [r])) := by
  have := duo_close (K := K) (M := up (up M r (.own p)) p (.ext (PairI p r G) [r])) (p := p) (r := r) (G := G) (ns := ns) (ms := ms) up_same (by rw [up_ne ne, up_same]) g
  rw [up_comm (M := up M r (.own p)) (fun z => ne z.symm), up_up] at this
  rwa [up_up] at this
end
end T3
namespace T3
open PySem PySem.Spec PyProof.Rows L2
section
variable {X : Cx} {B : Am} {e : Expr} {de : DE} {k : Nat} {p1 p2 p3 pos : Pos}
def dRevs (de : DE) : DE := fun δ M Q => de δ M fun x M1 => ∃ p, x = .ref p ∧ ∃ xs, LS M1 p xs ∧ ∀ q, M1 q = none → Q (.ref q) (up M1 q (.lst xs.reverse))
theorem e_revs (he : PE3 X B e de) : PE3 X B (.Subscript e (.Slice none none (some (.UnaryOp .USub (.Constant (.int 1) k p1) p2)) p3) pos) (dRevs de) := by
  obtain ⟨t, h1, h2⟩ := he.ex
  refine ⟨_, pe_revL h1, fun σ H δ M Q Qd sl rep bb h q => h2 σ H δ M _ _ sl rep bb h fun v H1 x M1 g rep1 r ⟨p, ex, xs, l, h⟩ => ?_⟩
  subst ex
  obtain ⟨vs, s, rs⟩ := rep1.ls l
  refine ⟨p, vs, r.ref_, s, fun a hp => ?_⟩
  obtain ⟨g', rep'⟩ := rep1.newL hp rs.rev
  exact q _ _ _ _ (g.trans g') rep' R.ref' (h a (rep1.free hp))
end
/-! ### what stands, behind new things -/
def Is (M : Hd) (a : Addr) : Prop := M a ≠ none
theorem Is.of {M : Hd} {a : Addr} {o : O} (h : M a = some o) : Is M a := by unfold Is; rw [h]; simp
section
variable {M : Hd} {a q : Addr} {o : O}
theorem is_up (h : Is M a) : Is (up M q o) a := by
  unfold Is up
  split
  · simp
  · exact h
theorem is_ne (h : Is M a) (hq : M q = none) : a ≠ q := by rintro rfl; exact h hq
theorem get_c (h : Is M a) (hq : M q = none) : up M q o a = M a := up_ne (is_ne h hq)
theorem dIxRc (h : Is M a) (hq : M q = none) {y : D} {Q : D → Prop} : dIxR a y (up M q o) Q ↔ dIxR a y M Q := dIxRn (is_ne h hq)
theorem exLSc (h : Is M a) (hq : M q = none) {R : List D → Prop} : (∃ xs, LS (up M q o) a xs ∧ R xs) ↔ ∃ xs, LS M a xs ∧ R xs := exLSn (is_ne h hq)
theorem exDKc (h : Is M a) (hq : M q = none) {R : List (Key × D) → Prop} : (∃ xs, DK_ (up M q o) a xs ∧ R xs) ↔ ∃ xs, DK_ M a xs ∧ R xs := exDKn (is_ne h hq)
theorem exLc (h : Is M a) (hq : M q = none) {R : List D → Prop} : (∃ xs, up M q o a = some (.lst xs) ∧ R xs) ↔ ∃ xs, M a = some (.lst xs) ∧ R xs := exLn (is_ne h hq)
theorem exSumC (h : Is M a) (hq : M q = none) {R : List Int → Prop} : (∃ ns : List Int, LS (up M q o) a (ns.map D.int) ∧ R ns) ↔ ∃ ns : List Int, LS M a (ns.map D.int) ∧ R ns := by
  constructor <;> rintro ⟨xs, x, y⟩
  · exact ⟨xs, (LS_ne (is_ne h hq)).mp x, y⟩
  · exact ⟨xs, (LS_ne (is_ne h hq)).mpr x, y⟩
end
end T3
/-! t[::-1] of a tuple -/
namespace HT
open PySem PyProof.Rows
section
open PySem.SeqAt
open PySem.AutoSeq1 (wpAny_loadPart')
open PySem.MeetsSeq PySem.MeetsSeq2 PySem.MeetsSeq3
variable {prog : Program} {w : World} {A : Around} {E : Value → Shared → Prop} {s : Shared}
theorem sliceApplied_rev {sl : Addr} {vs : Value} {n : Nat} {Q : Int × Int × Nat → Shared → Prop} (hs : s.heap.IsSliceOf sl .none .none vs) (ps : IsPart vs (some (-1)))
    (h : Q ((n : Int) - 1, -1, n) s) : wpAny (model prog w) A (Builtin.Slice.sliceApplied (.ref sl) (pure (n : Int))) Q E s := by
  obtain ⟨os, hos, hcs, hds⟩ := id hs
  unfold Builtin.Slice.sliceApplied Builtin.Slice.sliceFields
  refine wpAny_bind (wpAny_bind (wpAny_field hos hds (x := .none) rfl (wpAny_bind (wpAny_field hos hds (x := .none) rfl (wpAny_bind (wpAny_field hos hds (x := vs) rfl (wpAny_pure ?_)))))))
  refine wpAny_bind (slicePart_ ps ?_)
  show wpAny _ _ (if ((-1 : Int) == 0) = true then _ else _) _ _ s
  rw [if_neg (by decide)]
  refine wpAny_bind (slicePart_none (wpAny_bind (slicePart_none (wpAny_bind (wpAny_pure ?_)))))
  have e : Builtin.Slice.slicePlaces ((n : Int) - 1) (-1) (-1) = n := by
    unfold Builtin.Slice.slicePlaces
    have h1 : ¬ ((-1 : Int) > 0) := by omega
    simp only [h1, if_false, Int.neg_neg, Int.ediv_one]
    split <;> omega
  show wpAny _ _ (pure ((n : Int) - 1, (-1 : Int), Builtin.Slice.slicePlaces ((n : Int) - 1) (-1) (-1))) _ _ s
  rw [e]
  exact wpAny_pure h
theorem pick_rev (xs : Array Value) : ((List.range xs.size).filterMap fun (m : Nat) => xs[((xs.size : Int) - 1 + (m : Int) * (-1)).toNat]?).toArray = xs.toList.reverse.toArray := by
  have e : (fun (m : Nat) => xs[((xs.size : Int) - 1 + (m : Int) * (-1)).toNat]?) = (xs[·]?) ∘ fun m => xs.size - 1 - m := by
    funext m
    show _ = xs[xs.size - 1 - m]?
    have : ((xs.size : Int) - 1 + (m : Int) * (-1)).toNat = xs.size - 1 - m := by omega
    rw [this]
  rw [e, ← List.filterMap_map, PySem.W.krv_range, List.filterMap_reverse, PySem.W.krv_all]
theorem getItem_tuple_rev {t sl : Addr} {items : Array Value} {vs : Value} {Q : Value → Shared → Prop} (ht : IsTup s.heap t items) (hs : s.heap.IsSliceOf sl .none .none vs) (ps : IsPart vs (some (-1)))
    (h : Q (.ref s.heap.objs.size) { s with heap := s.heap.push { cls := .type "tuple", data := .seq items.toList.reverse.toArray } })
    (hsz : items.size ≤ sizeLine) : wpAny (model prog w) A (getItem (.ref t) (.ref sl)) Q E s := by
  have htake : sizeOk (.seq items.toList.reverse.toArray) := by
    show items.toList.reverse.toArray.size ≤ sizeLine
    rw [List.size_toArray, List.length_reverse, Array.length_toList]
    exact hsz
  obtain ⟨os, hos, hcs, hds⟩ := id hs
  have hTs : s.TypeIs (.ref sl) "slice" := ⟨os, hos, hcs⟩
  unfold getItem
  try with_reducible refine wpAny_holding ?_
  first | refine wpAny_bind (wpAny_pure ?_) | skip
  refine wpAny_bind (wpAny_sequenceKey ht.typeIs (by decide) ?_)
  refine wpAny_bind (wpAny_callSpecial?_slot (name := Str.ofString "__getitem__") ht.typeIs PyProof.Rows.slot_tuple_getitem
    (wpAny_call_entry PyProof.Rows.slot_tuple_getitem ht.typeIs entry_tuple_getitem ?_ (args_tuple_getitem _ _)))
  show wpAny _ _ (Builtin.Tuple.tupleItemsOf (.ref t) >>= _) _ _ s
  refine wpAny_bind (tupleItemsOf_ ht ?_)
  refine wpAny_bind (wpAny_typeOf hTs ?_)
  rw [if_pos (by decide)]
  refine wpAny_bind (sliceApplied_rev hs ps ?_)
  have hno : ¬ ((((items.size : Int) - 1 == 0) && (-1 : Int) == 1 && items.size == items.size) = true) := by
    intro q
    rw [Bool.and_eq_true, Bool.and_eq_true] at q
    exact absurd q.1.2 (by decide)
  show wpAny _ _ (if (((items.size : Int) - 1 == 0) && (-1 : Int) == 1 && items.size == items.size) = true then _ else _) _ _ s
  rw [if_neg hno, pick_rev]
  first
    | exact wpAny_bind (m := Builtin.Tuple.tupleExact _) (wpAny_newObj_type (wpAny_pure ⟨_, rfl, wpAny_pure h⟩) htake)
    | exact wpAny_bind (m := Builtin.Tuple.tupleExact _) (wpAny_newObj_type (wpAny_bind (wpAny_pure (wpAny_pure ⟨_, rfl, wpAny_pure h⟩))) htake)
    | exact wpAny_bind (wpAny_bind (m := Builtin.Tuple.tupleExact _) (wpAny_newObj_type (wpAny_pure (wpAny_pure ⟨_, rfl, wpAny_pure h⟩)) htake))
    | exact wpAny_bind (wpAny_bind (m := Builtin.Tuple.tupleExact _) (wpAny_newObj_type (wpAny_pure ⟨_, rfl, wpAny_pure h⟩) htake))
end
end HT
namespace L2
open PySem PySem.Spec PyProof.Rows
section
variable {X : Cx}
def tRevA (K : PySem.W.Frag) (te : TE) : TE := fun σ H Q => te σ H fun x H1 =>
  (∃ a xs, x = .ref a ∧ SqL K H1 a xs ∧ ∀ p, H1 p = none → Q (.ref p) (upd H1 p (.lst xs.reverse))) ∨
  (∃ a xs, x = .ref a ∧ SqT K H1 a xs ∧ ∀ p, H1 p = none → Q (.ref p) (upd H1 p (.tup xs.reverse)))
theorem pe_revA {e : Expr} {te : TE} {k : Nat} {p1 p2 p3 pos : Pos} (he : PE X e te) : PE X (.Subscript e (.Slice none none (some (.UnaryOp .USub (.Constant (.int 1) k p1) p2)) p3) pos) (tRevA X.K te) := by
  refine ⟨fun pins s σ H Q I h => ?_⟩
  refine Subscript_ (thn (he.run pins s σ H _ I h) fun v s1 ⟨x, H1, I1, r1, q1⟩ => ?_)
  have hst : PO X (some (.UnaryOp .USub (.Constant (.int 1) k p1) p2)) (tPart (tUn (rU fun i => .int (-i)) (tC (.int 1)))) := po_some (pe_un un_neg pe_int)
  refine wpAny_Slice (thn (po_none.run pins s1 σ H1 (fun o H2 => o = none ∧ H2 = H1) I1 ⟨rfl, rfl⟩) fun vl s2 ⟨l, H2, I2, pl, el, e2⟩ => ?_)
  subst el e2
  refine thn (po_none.run pins s2 σ H2 (fun o H3 => o = none ∧ H3 = H2) I2 ⟨rfl, rfl⟩) fun vu s3 ⟨u, H3, I3, pu, eu, e3⟩ => ?_
  subst eu e3
  refine thn (hst.run pins s3 σ H3 (fun o H4 => o = some (-1) ∧ H4 = H3) I3 ⟨1, rfl, -1, rfl, rfl, rfl⟩) fun vs s4 ⟨o, H4, I4, ps, eo, e4⟩ => ?_
  subst eo e4
  have I5 : Inv X pins σ H4 { s4 with heap := s4.heap.push { cls := .type "slice", data := .fields #[vl, vu, vs] } } := I4.kept (t' := s4.toks) fun b ob q => Heap.get?_push_of_some _ q
  rcases q1 with ⟨a, xs, ex, hx, q⟩ | ⟨a, xs, ex, hx, q⟩
  · subst ex
    cases r1
    obtain ⟨its, r, ht, hz⟩ := I5.list hx
    have hlen := r.length
    show wpAny (model X.prog X.w) X.A (subscriptTail e (.Slice none none (some (.UnaryOp .USub (.Constant (.int 1) k p1) p2)) p3) (.ref a) (.ref s4.heap.objs.size)) (EP X pins σ Q) X.xe { s4 with heap := s4.heap.push { cls := .type "slice", data := .fields #[vl, vu, vs] } }
    refine tail_any (ops := [.ref a, .ref s4.heap.objs.size]) ht.isList.typeIs (PySem.slot_list_getitem.lookup) ?_ (by with_unfolding_all rfl)
    refine wpAny_getItem_list_slice ht.isList (Heap.IsSliceOf.new _ vl vu vs) pl pu ps (by decide) ?_ (by rw [List.size_toArray]; omega)
    rw [PySem.W.krv_pick]
    refine ⟨.ref _, _, I5.laid (t' := s4.toks) (o := .lst xs.reverse) (fun b ob q => Heap.get?_push_of_some _ q) (Nat.le_refl _) ?_, rfl, q _ (I5.hok.fresh (Nat.le_refl _))⟩
    exact ⟨by rw [List.length_reverse]; exact hz, _, 0, r.reverse, Heap.get?_push_size _ rfl⟩
  · subst ex
    cases r1
    cases pl
    cases pu
    obtain ⟨its, r, ht, hz⟩ := I5.tuple hx
    have hlen := r.length
    show wpAny (model X.prog X.w) X.A (subscriptTail e (.Slice none none (some (.UnaryOp .USub (.Constant (.int 1) k p1) p2)) p3) (.ref a) (.ref s4.heap.objs.size)) (EP X pins σ Q) X.xe { s4 with heap := s4.heap.push { cls := .type "slice", data := .fields #[.none, .none, vs] } }
    refine tail_any (ops := [.ref a, .ref s4.heap.objs.size]) ht.typeIs (PyProof.Rows.slot_tuple_getitem.lookup) ?_ (by with_unfolding_all rfl)
    refine HT.getItem_tuple_rev ht (Heap.IsSliceOf.new _ .none .none vs) ps ?_ (by rw [List.size_toArray]; omega)
    refine ⟨.ref _, _, I5.laid (t' := s4.toks) (o := .tup xs.reverse) (fun b ob q => Heap.get?_push_of_some _ q) (Nat.le_refl _) ?_, rfl, q _ (I5.hok.fresh (Nat.le_refl _))⟩
    exact ⟨by rw [List.length_reverse]; exact hz, _, r.reverse, IsTup.new _ _⟩
end
end L2
namespace T3
open PySem PySem.Spec PyProof.Rows L2
section
variable {X : Cx} {B : Am} {e : Expr} {de : DE} {k : Nat} {p1 p2 p3 pos : Pos}
def dRevD : D → Hd → DK → Prop := fun x M Q => match x with
  | .tup xs => Q (.tup xs.reverse) M
  | .ref p => ∃ xs, LS M p xs ∧ ∀ q, M q = none → Q (.ref q) (up M q (.lst xs.reverse))
  | _ => False
def dRevA (de : DE) : DE := fun δ M Q => de δ M fun x M1 => dRevD x M1 Q
theorem e_revA (he : PE3 X B e de) : PE3 X B (.Subscript e (.Slice none none (some (.UnaryOp .USub (.Constant (.int 1) k p1) p2)) p3) pos) (dRevA de) := by
  obtain ⟨t, h1, h2⟩ := he.ex
  refine ⟨_, pe_revA h1, fun σ H δ M Q Qd sl rep bb h q => h2 σ H δ M _ _ sl rep bb h fun v H1 x M1 g rep1 r h => ?_⟩
  cases x with
  | tup xs =>
    obtain ⟨a, vs, rfl, s, rs⟩ := r.untup
    refine .inr ⟨a, vs, rfl, SqT.of s, fun p hp => ?_⟩
    obtain ⟨g', rep', r'⟩ := rep1.newT hp rs.rev
    exact q _ _ _ _ (g.trans g') rep' r' h
  | ref p =>
    obtain ⟨xs, l, h⟩ := h
    obtain ⟨vs, s, rs⟩ := rep1.ls l
    refine .inl ⟨p, vs, r.ref_, s, fun a hp => ?_⟩
    obtain ⟨g', rep'⟩ := rep1.newL hp rs.rev
    exact q _ _ _ _ (g.trans g') rep' R.ref' (h a (rep1.free hp))
  | _ => exact h.elim
end
end T3
namespace T3
open PySem PySem.Spec PyProof.Rows L2
section
variable {X : Cx}
/-- less, of ints and of tuples of ints -/
def dLtA : DR2 := fun x y M Q => match x, y with
  | .int i, .int j => Q (.bl (decide (i < j))) M
  | .tup xs, .tup ys => ∃ ns ms : List Int, xs = ns.map D.int ∧ ys = ms.map D.int ∧ Q (.bl (HT.lexLt ns ms)) M
  | _, _ => False
theorem od_ltA (hu : X.A.units + 1 < cLine) : OpD X (compareOp .Lt) dLtA := by
  refine ⟨_, op_lt.or (op_ltT (Nat.lt_of_succ_lt hu)), fun H M x y v u Q Qd rep r1 r2 h q => ?_⟩
  cases x with
  | int i =>
    cases y with
    | int j => exact .inl ⟨i, j, r1.int_, r2.int_, q _ _ _ M Go.refl rep R.bl' h⟩
    | _ => exact h.elim
  | tup xs =>
    cases y with
    | tup ys =>
      obtain ⟨ns, ms, e1, e2, hq⟩ := h
      obtain ⟨a, vs, rfl, s, rs⟩ := r1.untup
      obtain ⟨b, us, rfl, s', rs'⟩ := r2.untup
      rw [e1] at rs
      rw [e2] at rs'
      have ev := rs.ints
      have ew := rs'.ints
      subst ev
      subst ew
      exact .inr ⟨a, b, ns, ms, rfl, rfl, SqT.of s, SqT.of s', q _ _ _ M Go.refl rep R.bl' hq⟩
    | _ => exact h.elim
  | _ => exact h.elim
end
end T3
namespace T3
open PySem PySem.Spec PyProof.Rows L2
section
variable {X : Cx}
/-- is True, is False, of flags -/
def dIsB : DR2 := fun x y M Q => match x, y with
  | .bl a, .bl b => Q (.bl (a == b)) M
  | _, _ => False
theorem op_isB : OpR X (compareOp .Is) (fun x y H Q => ∃ a b, x = .bl a ∧ y = .bl b ∧ Q (.bl (a == b)) H) := by
  intro pins s σ H x y v u Q I rx ry h
  obtain ⟨a, b, rfl, rfl, q⟩ := h
  cases rx
  cases ry
  exact is_bool (fin_bl I q rfl)
theorem od_isB : OpD X (compareOp .Is) dIsB := by
  refine ⟨_, op_isB, fun H M x y v u Q Qd rep r1 r2 h q => ?_⟩
  cases x with
  | bl a =>
    cases y with
    | bl b => exact ⟨a, b, r1.bl_, r2.bl_, q _ _ _ M Go.refl rep R.bl' h⟩
    | _ => exact h.elim
  | _ => exact h.elim
end
end T3
namespace T3
open PySem PySem.Spec PyProof.Rows L2
/-! ### == of tuples of like things -/
structure Like {α : Type} [DecidableEq α] (f : α → D) (g : α → PyData) (k : Nat) : Prop where
  eqv : ∀ a b, PyData.eqv (g a) (g b) = decide (a = b)
  lay : ∀ a, (g a).canLay0 = true
  dep : ∀ a, (g a).depth ≤ k
  pd : ∀ M a, Pd M (f a) (g a)
theorem beq_dec (a b : Int) : (a == b) = decide (a = b) := by
  by_cases h : a = b
  · subst h; simp
  · simp [h]
theorem like_int : Like D.int PyData.int 0 := ⟨fun a b => by rw [PyData.eqv]; exact beq_dec a b, fun a => by simp [PyData.canLay0], fun a => by simp [PyData.depth], fun M a => .int a⟩
theorem like_n : Like nD (fun n : Nat => PyData.int n) 0 := ⟨fun a b => by rw [PyData.eqv]; exact (beq_dec a b).trans (decide_eq_decide.mpr Int.ofNat_inj), fun a => by simp [PyData.canLay0], fun a => by simp [PyData.depth], fun M a => .int a⟩
theorem Like.all {α : Type} [DecidableEq α] {f : α → D} {g : α → PyData} {k : Nat} (h : Like f g k) : ∀ l m : List α, PyData.eqvAll (l.map g) (m.map g) = decide (l = m)
  | [], [] => by simp [PyData.eqvAll]
  | [], _ :: _ => by simp [PyData.eqvAll]
  | _ :: _, [] => by simp [PyData.eqvAll]
  | a :: l, b :: m => by
    rw [List.map_cons, List.map_cons, PyData.eqvAll, h.eqv, h.all l m, ← Bool.decide_and]
    exact decide_eq_decide.mpr (by simp)
theorem Like.tup {α : Type} [DecidableEq α] {f : α → D} {g : α → PyData} {k : Nat} (h : Like f g k) : Like (fun l : List α => D.tup (l.map f)) (fun l => PyData.tuple (l.map g)) (k + 1) := by
  refine ⟨fun l m => ?_, fun l => ?_, fun l => ?_, fun M l => .tup ?_⟩
  · rw [PyData.eqv, h.all]
  · rw [PyData.canLay0]
    induction l with
    | nil => rfl
    | cons a l ih => rw [List.map_cons, PyData.canLayAll0, h.lay, ih]; rfl
  · rw [PyData.depth]
    have : PyData.depthAll (l.map g) ≤ k := by
      induction l with
      | nil => exact Nat.zero_le _
      | cons a l ih => rw [List.map_cons, PyData.depthAll]; have := h.dep a; omega
    omega
  · induction l with
    | nil => exact .nil
    | cons a l ih => exact .cons (h.pd M a) ih
theorem Like.dEq {α : Type} [DecidableEq α] {f : α → D} {g : α → PyData} {k : Nat} (h : Like f g k) (hk : k ≤ 64) {M : Hd} {a b : α} {Q : Bool → Prop} (q : Q (decide (a = b))) : dEqD (f a) (f b) M Q := by
  have sh : ∀ a, SeqAt.shaped (g a) = true := fun a => by
    unfold SeqAt.shaped
    rw [h.lay a, decide_eq_true (Nat.le_trans (h.dep a) hk)]; rfl
  exact ⟨g a, g b, h.pd M a, h.pd M b, sh a, sh b, by rw [h.eqv]; exact q⟩
theorem like_row : Like rwD (fun l : List Nat => PyData.tuple (l.map fun n : Nat => PyData.int n)) 1 := like_n.tup
theorem like_plan : Like plD (fun l : List (List Nat) => PyData.tuple (l.map fun r => PyData.tuple (r.map fun n : Nat => PyData.int n))) 2 := like_row.tup
theorem dEq_tup {xs ys : List D} {M : Hd} {Q : DK} : dEq (.tup xs) (.tup ys) M Q ↔ dEqD (.tup xs) (.tup ys) M fun b => Q (.bl b) M := Iff.rfl
theorem dNe_tup {xs ys : List D} {M : Hd} {Q : DK} : dNe (.tup xs) (.tup ys) M Q ↔ dEqD (.tup xs) (.tup ys) M fun b => Q (.bl (!b)) M := Iff.rfl
theorem dEq_ref {p q : Addr} {M : Hd} {Q : DK} : dEq (.ref p) (.ref q) M Q ↔ dEqD (.ref p) (.ref q) M fun b => Q (.bl b) M := Iff.rfl
theorem dNe_ref {p q : Addr} {M : Hd} {Q : DK} : dNe (.ref p) (.ref q) M Q ↔ dEqD (.ref p) (.ref q) M fun b => Q (.bl (!b)) M := Iff.rfl
/-- lists of like things -/
theorem Like.dEqL {α : Type} [DecidableEq α] {f : α → D} {g : α → PyData} {k : Nat} (h : Like f g k) (hk : k + 1 ≤ 64) {M : Hd} {p q : Addr} {l m : List α} {Q : Bool → Prop} (hp : LS M p (l.map f)) (hq : LS M q (m.map f)) (z : Q (decide (l = m))) : dEqD (.ref p) (.ref q) M Q := by
  have all : ∀ l : List α, PdAll M (l.map f) (l.map g) := fun l => by
    induction l with
    | nil => exact .nil
    | cons a l ih => exact .cons (h.pd M a) ih
  have lay : ∀ l : List α, PyData.canLayAll0 (l.map g) = true := fun l => by
    induction l with
    | nil => rfl
    | cons a l ih => rw [List.map_cons, PyData.canLayAll0, h.lay, ih]; rfl
  have dep : ∀ l : List α, PyData.depthAll (l.map g) ≤ k := fun l => by
    induction l with
    | nil => exact Nat.zero_le _
    | cons a l ih => rw [List.map_cons, PyData.depthAll]; have := h.dep a; omega
  have sh : ∀ l : List α, SeqAt.shaped (.list (l.map g)) = true := fun l => by
    unfold SeqAt.shaped
    rw [PyData.canLay0, lay, PyData.depth, decide_eq_true (by have := dep l; omega)]; rfl
  exact ⟨_, _, .lst hp (all l), .lst hq (all m), sh l, sh m, by rw [PyData.eqv, h.all]; exact z⟩
end T3
/-! defs that are called where no repr is under way; repr of lists, tuples; the law's end for such a law -/
namespace T3
open PySem PySem.Spec PyProof.Rows L2
/-- as FnOk, where no repr is under way -/
structure FnG (P : Program) (w : World) (K : PySem.W.Frag) (mg : Str → Option Value) (base : Heap) (k : Nat) (f : Addr) (fd : FuncData) (ps : List Str) (sp : Sp) : Prop where
  ln : ∀ vs H Q E, sp vs H Q E → vs.length = ps.length
  go : ∀ (A : Around) (stk : List Env) (z : Shared) (H : Hp) (ar : Args) (us : List Value) (vs : List V) (Q : VK) (E : XK), Room k A → A.guards = some [] → Env0 P w K mg base A stk z H →
    BindsTo z fd ar (ps.zip us) → Vals vs us → sp vs H Q E → codeAny (model P w) A (.call (.ref f) ar) (CR CX0 stk P w H z Q E) z
theorem grd_deeper {A : Around} {e : Env} (h : A.guards = some []) : (A.deeper e).guards = some [] := by
  simp [Around.deeper, h]
section
variable {P : Program} {w : World} {K : PySem.W.Frag} {mg : Str → Option Value} {base : Heap}
theorem fnG_of {k : Nat} {f : Addr} {nm ql : Str} {pr : Arguments} {bd : List Stmt} {sc : Scope} {kV doc pm cdv ct oc : Value} {an od : Option Addr} {osl : Array (Option Value)} {N ps : List Str} {sp : Sp}
    (lk : K.lookup f = some ⟨oc, od, .func (PySem.W.fnOf nm ql pr bd sc .none kV doc pm an cdv ct), osl⟩) (hcd : PySem.W.codeIn K cdv ql = true) (Sc : FnScope N ps sc) (ln : ∀ vs H Q E, sp vs H Q E → vs.length = ps.length)
    (hb : ∀ (A : Around) (stk : List Env) (z : Shared) (H : Hp) (vs : List V) (Q : VK) (E : XK), Room k (A.deeper (envOfC ql sc z.heap.objs.size f cdv)) → (A.deeper (envOfC ql sc z.heap.objs.size f cdv)).guards = some [] → sp vs H Q E →
      ∃ t, PSs (cxOf CX0 P w K mg base N ql sc f cdv A stk z H E).nox bd t ∧ t { nx := fun _ H' => Q .non H', rt := Q } (start N vs) H) :
    FnG P w K mg base (k + 1) f (PySem.W.fnOf nm ql pr bd sc .none kV doc pm an cdv ct) ps sp := by
  refine ⟨ln, fun A stk z H ar us vs Q E room gd e0 bt rv hs => ?_⟩
  have inK : K.In z.heap := e0.mod.kin.keeps fun b o e => (e0.bs b o e).1
  have noL : z.heap.NoLimit := e0.mod.nolimit.keeps fun b o e => (e0.bs b o e).1
  have kinds : ∀ y ∈ ps.zip us, sc.names.lookup y.1 = some .local ∨ (sc.names.lookup y.1 = some .cell ∧ ((cellsFrom (z.heap.objs.size + 1) sc.names []).lookup y.1).isSome = true) := by
    rintro ⟨n, v⟩ hy
    exact (Sc.par n (List.of_mem_zip hy).1).imp id fun q => ⟨q, PySem.W.cellsFrom_some _ _ _ (.inl q)⟩
  apply codeAny_call_function room.depth (inK _ _ lk) rfl Sc.co Sc.gen rfl (PySem.W.codeRec_of inK hcd)
  apply bt
  refine wpAny_newFunctionEnv_cells Sc.kind kinds fun env he z1 x => ?_
  subst he
  refine ⟨noL.keeps x.toInCall.keep, codeAny_func ?_⟩
  obtain ⟨t, ht, hq⟩ := hb A stk z H vs Q E (room.deeper _) (grd_deeper gd) hs
  have I := inv_start (CX := CX0) (E := E) Sc room.hd e0 (ln _ _ _ _ hs) rv x
  refine wpAny_mono (ht.nox.run [] z1 (start N vs) H _ I hq) (fun fl z2 h2 => ?_) fun _ _ h2 => h2
  cases fl with
  | ret u =>
    obtain ⟨v, σ2, H2, J, r2, q2⟩ := h2
    exact ⟨v, H2, J.os, J.bare, J.base, J.hok, r2, q2⟩
  | next =>
    obtain ⟨σ2, H2, J, q2⟩ := h2
    exact ⟨V.non, H2, J.os, J.bare, J.base, J.hok, rfl, q2⟩
  | brk =>
    obtain ⟨_, _, _, q2⟩ := h2
    exact q2.elim
  | cont =>
    obtain ⟨_, _, _, q2⟩ := h2
    exact q2.elim
/-- THE RULE for such a def -/
theorem funG3 {x qual : Str} {st : Stmt} {f : Addr} {fd : FuncData} {N ps : List Str} {k : Nat} {S : DSp} {d : DSt} (F : Fun K x qual st f fd) (Sc : FnScope N ps (defScope st)) (hn : ∀ ds M Q E, S ds M Q E → ds.length = ps.length)
    (hb : ∀ (cdv : Value) (A : Around) (outer : List Env) (s : Shared) (H : Hp) (E : XK), Room k (A.deeper (envOfC qual (defScope st) s.heap.objs.size f cdv)) → (A.deeper (envOfC qual (defScope st) s.heap.objs.size f cdv)).guards = some [] →
      PB3 (cxOf CX0 P w K mg base N qual (defScope st) f cdv A outer s H E).nox Am.no (defBody st) d)
    (hd : ∀ ds M Q E, S ds M Q E → ∀ H, Rep K H M → ∃ M1, Rep K H M1 ∧ (∀ a, M a = none → M1 a = none) ∧
      d { nx := fun _ M' => ∃ M2, Fgt K M' M2 ∧ Q .non M2, rt := fun v M' => ∃ M2, Fgt K M' M2 ∧ Q v M2 } (startD N.length ds) M1) : FnG P w K mg base (k + 1) f fd ps (lift K S) := by
  obtain ⟨oc, od, kV, doc, pm, an, cdv, ct, osl, rfl, lk, hcd⟩ := F.ex
  refine fnG_of lk hcd Sc (fun vs H Q E h => ?_) fun A outer s H vs Q E hr hg h => ?_
  · obtain ⟨ds, M, Qd, Ed, rs, _, hs, _⟩ := h
    rw [rs.len]
    exact hn _ _ _ _ hs
  · obtain ⟨ds, M, Qd, Ed, rs, rep, hs, q, _⟩ := h
    obtain ⟨M1, rep1, dom, hd⟩ := hd ds M Qd Ed hs H rep
    obtain ⟨t, h1, h2⟩ := (hb cdv A outer s H E hr hg).ex
    have g01 : Go H M H M1 := fun a u ha na => ⟨ha, dom a na⟩
    refine ⟨t, h1, h2 _ H _ M1 _ _ (Sl.start rs) rep1 trivial hd ⟨fun σ' H' δ' M' g _ rep' ⟨M2, fg, q'⟩ => ?_, fun v H' x M' g rep' r ⟨M2, fg, q'⟩ => ?_, fun _ _ _ _ _ _ _ z => z.elim, fun _ _ _ _ _ _ _ z => z.elim⟩⟩
    · exact q _ _ _ M2 ((g01.trans g).trans fg.go) (fg.1 _ rep') R.non' q'
    · exact q _ _ _ M2 ((g01.trans g).trans fg.go) (fg.1 _ rep') r q'
end
structure PrG (P : Program) (w : World) (K : PySem.W.Frag) (mg : Str → Option Value) (base : Heap) (x : Str) (k : Nat) (ps : List Str) (S : DSp) : Prop where
  ex : ∃ f fd, mg x = some (.ref f) ∧ PySem.W.keepIn K (.ref f) = true ∧ Binds K fd ps [] ∧ FnG P w K mg base k f fd ps (lift K S) ∧ (∃ oc od osl, K.lookup f = some ⟨oc, od, .func fd, osl⟩) ∧ ∀ us : List Value, us.length = ps.length → bindArgs fd ⟨us, []⟩ = pure (ps.zip us)
section
variable {P : Program} {w : World} {K : PySem.W.Frag} {mg : Str → Option Value} {base : Heap}
theorem prG3 {x : Str} {st : Stmt} {N ps : List Str} {k : Nat} {S : DSp} {d : DSt} (D : Df K mg x st) (bi : Bi K x st ps) (Sc : FnScope N ps (defScope st)) (hn : ∀ ds M Q E, S ds M Q E → ds.length = ps.length)
    (hb : ∀ (f : Addr) (cdv : Value) (A : Around) (outer : List Env) (s : Shared) (H : Hp) (E : XK), Room k (A.deeper (envOfC x (defScope st) s.heap.objs.size f cdv)) → (A.deeper (envOfC x (defScope st) s.heap.objs.size f cdv)).guards = some [] →
      PB3 (cxOf CX0 P w K mg base N x (defScope st) f cdv A outer s H E).nox Am.no (defBody st) d)
    (hd : ∀ ds M Q E, S ds M Q E → ∀ H, Rep K H M → ∃ M1, Rep K H M1 ∧ (∀ a, M a = none → M1 a = none) ∧
      d { nx := fun _ M' => ∃ M2, Fgt K M' M2 ∧ Q .non M2, rt := fun v M' => ∃ M2, Fgt K M' M2 ∧ Q v M2 } (startD N.length ds) M1) : PrG P w K mg base x (k + 1) ps S := by
  obtain ⟨f, fd, F, hm⟩ := D.ex
  refine ⟨f, fd, hm, F.kp, F.binds bi, funG3 F Sc hn (hb f) hd, ?_⟩
  obtain ⟨oc, od, kV, doc, pm, an, cdv, ct, osl, rfl, lk, hcd⟩ := F.ex
  exact ⟨⟨oc, od, osl, lk⟩, bi kV doc pm an cdv ct⟩
end
/-! ### calls of such a def -/
section
variable {X : Cx} {B : Am} {k : Nat} {ps : List Str} {S : DSp} {x : Str} {p pos : Pos} {e : Expr} {es : List Expr} {dr : DA}
theorem runG {f : Addr} {fd : FuncData} {sp : Sp} {pins : List (Addr × Obj)} {σ : L2.St} {H : Hp} {s : Shared} {Q : VK} {us : List Value} {vs : List V} (F : FnG X.prog X.w X.K X.mg X.base k f fd ps sp) (hr : Room k X.A) (hgd : X.A.guards = some []) (hb : Binds X.K fd ps [])
    (I : Inv X pins σ H s) (r : Vals vs us) (h : sp vs H Q E0) : wpAny (model X.prog X.w) X.A (call (.ref f) us) (EP X pins σ Q) X.xe s := by
  have hl : us.length = ps.length := by
    rw [← r.length]
    exact F.ln _ _ _ _ h
  have b := hb s us I.kIn (by rw [List.append_nil]; exact hl)
  rw [List.append_nil] at b
  refine wpAny_call (codeAny_mono (F.go X.A X.stack s H ⟨us, []⟩ us vs Q E0 hr hgd I.env0 b r h) fun fr z hz => ?_)
  match fr, hz with
  | .ok (.ret u), hz => exact I.after hz
  | .ok .next, hz => exact hz.elim
  | .ok .brk, hz => exact hz.elim
  | .ok .cont, hz => exact hz.elim
  | .error er, hz => exact pass0 pins σ H s er z I hz
theorem e_callG (F : PrG X.prog X.w X.K X.mg X.base x k ps S) (hr : Room k X.A) (hgd : X.A.guards = some []) (hg : Gl X x) (ha : PA3 X B (e :: es) dr)
    (hdb : (x == ("__debug__" : Str)) = false := by decide) (he : starEach (e :: es) X.env = (false, eval e X.env) :: starEach es X.env := by rfl) (hpl : (backTo pos (starEach es X.env)).any (·.1) = false := by rfl) :
    PE3 X B (.Call (.Name x p) (e :: es) [] pos) (dCall S dr) := by
  obtain ⟨f, fd, hm, hk, hb, F, _⟩ := F.ex
  obtain ⟨t, a1, a2⟩ := ha.ex
  have pe : PE X (.Call (.Name x p) (e :: es) [] pos) (tCall (lift X.K S) [] E0 t) := by
    refine ⟨fun pins s σ H Q I h => wpAny_Call_Name_kw (ld_glob I hg hm ?_ hdb)⟩
    refine PySem.W.callWith_K (h₀ := X.base) I.ok.mod.kin hk (thn (a1.run pos pins s σ H _ I h) fun us s1 ⟨vs, H1, I1, r, q⟩ => ⟨I1.kIn, ?_⟩) he hpl
    have q : lift X.K S (vs ++ []) H1 Q E0 := q
    rw [List.append_nil] at q
    exact runG F hr hgd hb I1 r q
  exact ⟨_, pe, snd_call a2⟩
/-! ### repr of a list, a tuple -/
def dRepr : D → Hd → DK → Prop := fun x M Q => ∃ d, Pd M x d ∧ d.showable = true ∧ d.hasDict = false ∧ d.depth ≤ 60 ∧ d.shown.length ≤ sizeLine ∧ Q (.str d.shown) M
def isRf : D → Prop
  | .ref _ => True
  | .tup _ => True
  | _ => False
theorem call_reprG (hu : X.A.units + 64 < cLine) (hgd : X.A.guards = some []) : CallR X (.builtin "repr") (fun xs H Q => ∃ a d, xs = [V.ref a] ∧ Dp X.K H (.ref a) d ∧ d.showable = true ∧ d.hasDict = false ∧ d.depth ≤ 60 ∧ d.shown.length ≤ sizeLine ∧ Q (.str d.shown) H) := by
  intro pins s σ H xs us Q I r h
  obtain ⟨a, d, rfl, hd, h1, h2, h3, h4, q⟩ := h
  rw [Vals.ref1 r]
  obtain ⟨as, rd⟩ := Dp.reads I d _ _ hd (show RelV (.ref a) (.ref a) from rfl)
  exact repr_of_reads' rd h1 (fun z => by rw [h2] at z; cases z) hgd (by omega) (fun _ _ e => e) (fun h' u tk hk => ⟨.str d.shown, H, I.kept (t' := tk) hk, ⟨u, rfl⟩, q⟩) h4
theorem cd_reprG (hu : X.A.units + 64 < cLine) (hgd : X.A.guards = some []) : CallD X (.builtin "repr") (d1 fun x M Q => isRf x ∧ dRepr x M Q) := by
  refine ⟨_, call_reprG hu hgd, fun H M xs vs Q Qd rep rs h q => ?_⟩
  obtain ⟨x, rfl, hi, d, pd, h1, h2, h3, h4, h5⟩ := d1_inv h
  obtain ⟨v, rfl, r⟩ := rs.one_
  have dp := Pd.dp rep _ _ _ pd r
  obtain ⟨a, rfl⟩ : ∃ a, v = .ref a := by
    cases x with
    | ref a => exact ⟨a, r.ref_⟩
    | tup ds => obtain ⟨a, _, e, _⟩ := r.untup; exact ⟨a, e⟩
    | _ => exact hi.elim
  exact ⟨a, d, rfl, dp, h1, h2, h3, h4, q _ _ _ M Go.refl rep R.str' h5⟩
end
/-! ### the law's end -/
theorem lawG {P : Program} {w : World} {K : PySem.W.Frag} {mg mb : Str → Option Value} {k : Nat} {fa a : Addr} {fd : FuncData} {x : Str} {z1 : Shared} {vs : List Value} {ns : List Int}
    (inK : K.In z1.heap) (gm : z1.heap.Ns mainGlobals mg) (gb : z1.heap.Ns builtinsNs mb) (gbb : ∀ x : Str, x ≠ "__name__" → mb x = bootBuiltins x) (noL : z1.heap.NoLimit) (gens : z1.gens = #[])
    (ho : z1.heap.get? a = some { cls := .type "list", data := .seq vs.toArray }) (hi : IntsAre vs ns) (hl : ns.length ≤ 63) (room : Room k callerA)
    (F : ∀ b : Heap, FnG P w K mg b k fa fd [x] (lift K SLaw)) (bt : ∀ (z : Shared) (u : Value), BindsTo z fd ⟨[u], []⟩ [(x, u)]) :
    codeAny (model P w) callerA (.call (.ref fa) ⟨[.ref a], []⟩) (fun r z => r = .ok (.ret (.bool true)) ∧ OldK z1.heap z.heap ∧ z.os = z1.os ∧ AllBare z.gens) z1 := by
  have rv := vals_ints hi
  have hsz : ns.length ≤ sizeLine := Nat.le_trans hl (by decide)
  have main : ∀ H : Hp, (∀ b, H b ≠ none → b = a ∧ K.lookup a = none) → Only H → SqL K H a (ns.map V.int) → HOk P w H z1.heap →
      codeAny (model P w) callerA (.call (.ref fa) ⟨[.ref a], []⟩) (fun r z => r = .ok (.ret (.bool true)) ∧ OldK z1.heap z.heap ∧ z.os = z1.os ∧ AllBare z.gens) z1 := by
    intro H track only seq ok
    have dicts : ∀ {b : Addr} {m : Str → Option Value}, z1.heap.Ns b m → (hidT z1.heap H).Ns b m := by
      rintro b m ⟨o, es, ep, e, d, r⟩
      refine ⟨o, es, ep, hidT_get e ?_, d, r⟩
      apply Classical.byContradiction
      intro ne
      obtain ⟨rfl, _⟩ := track b ne
      rw [ho] at e
      cases e
      exact nomatch d
    have inH : K.In (hidT z1.heap H) := fun b o e => hidT_get (inK b o e) (Classical.byContradiction fun ne => by
      obtain ⟨rfl, n⟩ := track b ne
      rw [n] at e
      cases e)
    obtain ⟨mc, l1, l2⟩ := noL
    have e0 : Env0 P w K mg (hidT z1.heap H) callerA [] z1 H :=
      ⟨rfl, ⟨inH, dicts gm, ⟨mb, dicts gb, gbb⟩, ⟨mc, dicts l1, l2⟩⟩, fun b o e => of_hidT e, Nat.le_of_eq (hidT_size _ _), trivial, fun b hb => (nomatch hb), ok, .of_eq gens⟩
    refine codeAny_mono ((F _).go callerA [] z1 H ⟨[.ref a], []⟩ [.ref a] [.ref a] (fun v _ => v = .bl true) (fun _ _ _ => False) room rfl e0 (bt z1 (.ref a)) (.cons rfl .nil) (law_sp hl only seq)) ?_
    intro r z hz
    match r, hz with
    | .error er, hz => exact ((show CX0 [] H z1 (fun _ _ _ => False) er z from hz)).elim
    | .ok .next, hz => exact hz.elim
    | .ok .brk, hz => exact hz.elim
    | .ok .cont, hz => exact hz.elim
    | .ok (.ret u), hz =>
      obtain ⟨v, H2, os, bare, un, ok2, r2, q2⟩ := hz
      have q2 : v = .bl true := q2
      subst q2
      obtain rfl : u = Value.bool true := r2
      refine ⟨rfl, OldK.of_keep fun b o e => ?_, os, bare⟩
      cases t : H b with
      | none => exact un.keep b o e t (by intro y; exact nomatch y) (by simp)
      | some y =>
        rcases only b with n | ⟨ob, xs, n⟩
        · rw [t] at n; cases n
        · obtain ⟨e1, _⟩ := ok b _ n
          obtain ⟨e2, _⟩ := ok2 b _ (un.frzs b ob _ n)
          rw [e] at e1
          cases e1
          exact e2
  have lv := hi.length
  cases hk : K.lookup a with
  | some o =>
    have e := inK a o hk
    rw [ho] at e
    cases e
    exact main (fun _ => none) (fun b n => absurd rfl n) (fun _ => .inl rfl) (.inr ⟨_, vs.toArray, _, hk, rfl, rfl, rfl, by rw [List.size_toArray, lv]; exact hsz, by simpa using rv⟩) (fun b u n => nomatch n)
  | none =>
    have at1 : ∀ b, (if b = a then some (HO.frz { cls := .type "list", data := .seq vs.toArray } (.lst (ns.map V.int))) else none) ≠ none → b = a := fun b n => Classical.byContradiction fun ne => n (if_neg ne)
    refine main (fun b => if b = a then some (.frz { cls := .type "list", data := .seq vs.toArray } (.lst (ns.map V.int))) else none) (fun b n => ⟨at1 b n, hk⟩) (fun b => ?_) (.inl (.inr ⟨_, if_pos rfl⟩)) fun b u n => ?_
    · by_cases e : b = a
      · exact .inr ⟨_, _, if_pos e⟩
      · exact .inl (if_neg e)
    · have e : b = a := at1 b (by rw [show (if b = a then some (HO.frz { cls := .type "list", data := .seq vs.toArray } (.lst (ns.map V.int))) else none) = some u from n]; simp)
      subst e
      have n : (if b = b then some (HO.frz { cls := .type "list", data := .seq vs.toArray } (.lst (ns.map V.int))) else none) = some u := n
      rw [if_pos rfl] at n
      cases n
      exact ⟨ho, by rw [List.length_map]; exact hsz, vs, _, rv, ho⟩
theorem walk3G {l : PySem.W.OpenLaw} {k : Nat} {q : Program} {loose : List Str} {XP : (Str → Option Value) → Heap → Prop} {YP : World → Heap → Prop} {d : DefRec} {K : Params → PySem.W.Frag} {x : Str}
    (hn : l.most = some 63) (hdf : d.params.defaults = []) (hr : Room k callerA)
    (hY : ∀ (w : World) (h : Heap), YP w h → (K w.params).In h)
    (F : ∀ (w : World) (mg : Str → Option Value) (h : Heap), (K w.params).In h → h.Ns mainGlobals mg → ∀ base : Heap, PrG l.prog w (K w.params) mg base d.name k [x] SLaw) :
    PySem.W.WalkO q loose XP YP l.row.toRowW d [] (fun f vs => PySem.call f vs) := by
  refine Att.attach_call hn hdf fun w s₀ z1 mg mb fa o pm cd doc a vs ns G Y ho hd hcd hmg hobj hints hlen hg => ?_
  have inK := hY w _ Y
  obtain ⟨f, fd, e, _, _, _, ⟨oc, od, osl, lk⟩, hb⟩ := (F w mg _ inK G.T.g default).ex
  rw [hmg] at e
  cases e
  refine lawG inK G.T.g G.T.b G.T.builtins G.T.nolimit hg hobj hints hlen hr (fun base => ?_) fun z u => .of_eq (hb [u] rfl)
  obtain ⟨f2, fd2, e2, _, _, F2, ⟨oc2, od2, osl2, lk2⟩, _⟩ := (F w mg _ inK G.T.g base).ex
  rw [hmg] at e2
  cases e2
  rw [lk] at lk2
  cases lk2
  exact F2
end T3
namespace T3
open PySem PySem.Spec PyProof.Rows L2
theorem dReprR {p : Addr} {M : Hd} {Q : DK} : d1 (fun x M Q => isRf x ∧ dRepr x M Q) [.ref p] M Q ↔ dRepr (.ref p) M Q := ⟨fun h => h.2, fun h => ⟨trivial, h⟩⟩
theorem dReprT {ds : List D} {M : Hd} {Q : DK} : d1 (fun x M Q => isRf x ∧ dRepr x M Q) [.tup ds] M Q ↔ dRepr (.tup ds) M Q := ⟨fun h => h.2, fun h => ⟨trivial, h⟩⟩
/-! ### lists or tuples -/
/-- what is walked, indexed: a tuple, or a list -/
def SqO (M : Hd) (x : D) (ds : List D) : Prop := x = .tup ds ∨ ∃ f, x = .ref f ∧ M f = some (.lst ds)
theorem SqO.sub {M M' : Hd} {x : D} {ds : List D} (h : SqO M x ds) (s : Sub M' M) : SqO M' x ds := h.imp id fun ⟨f, e, z⟩ => ⟨f, e, s.1 _ _ z⟩
theorem seqI_of {de : DE} {δ : DS} {M : Hd} {x : D} {ds : List D} {Q : DW → Hd → Prop} (h : SqO M x ds) (q : ∀ g : Hd → Prop, (∀ M', Sub M' M → g M') → Q ⟨ds, g⟩ M) : dSeqI (fun _ M Q => Q x M) δ M Q := by
  rcases h with rfl | ⟨f, rfl, hf⟩
  · exact q (fun _ => True) fun _ _ => trivial
  · exact ⟨ds, .inl hf, q _ fun M' s => .inl (s.1 _ _ hf)⟩
theorem enumI_of {δ : DS} {M : Hd} {x : D} {ds : List D} {Q : DW → Hd → Prop} (h : SqO M x ds) (q : ∀ g : Hd → Prop, (∀ M', Sub M' M → g M') → Q ⟨enumD ds, g⟩ M) : dEnumI (fun _ M Q => Q [x] M) δ M Q := by
  rcases h with rfl | ⟨f, rfl, hf⟩
  · exact q (fun _ => True) fun _ _ => trivial
  · exact ⟨ds, .inl hf, q _ fun M' s => .inl (s.1 _ _ hf)⟩
theorem listOf_of {M : Hd} {x : D} {ds : List D} {Q : DK} (h : SqO M x ds) (q : ∀ p, M p = none → Q (.ref p) (up M p (.lst ds))) : dListOf x M Q := by
  rcases h with rfl | ⟨f, rfl, hf⟩
  · exact q
  · exact .inl ⟨ds, .inl hf, q⟩
theorem lenOf_of {M : Hd} {x : D} {ds : List D} {Q : DK} (h : SqO M x ds) (q : Q (.int ds.length) M) : dLen x M Q := by
  rcases h with rfl | ⟨f, rfl, hf⟩
  · exact q
  · exact .inl ⟨ds, .inl hf, q⟩
theorem ixOf_of {M : Hd} {x : D} {ds : List D} {i : Nat} {d : D} {Q : DK} (h : SqO M x ds) (e : ds[i]? = some d) (q : Q d M) : dIx x (.int (i : Int)) M Q := by
  rcases h with rfl | ⟨f, rfl, hf⟩
  · exact ⟨d, atI_nat e, q⟩
  · exact .inl ⟨ds, i, d, rfl, .inl hf, atI_nat e, q⟩
end T3
/-! readings that stay closed where the thing is not known: in place of dIx, dSeqI, dEnumI, dListOf, dLen, dTupOf in the simp set -/
namespace T3
open PySem PySem.Spec PyProof.Rows L2
section
variable {M : Hd} {Q : DK} {i : Int} {xs : List D} {p : Addr} {z : Str} {y : D}
theorem dIx_tup : dIx (.tup xs) (.int i) M Q ↔ ∃ v, atI xs i = some v ∧ Q v M := Iff.rfl
theorem dIx_str : dIx (.str z) (.int i) M Q ↔ ∃ c, z.length ≤ sizeLine ∧ atI z.cps.toList i = some c ∧ Q (.str ⟨#[c]⟩) M := Iff.rfl
theorem dIx_ref : dIx (.ref p) y M Q ↔ dIxR p y M fun v => Q v M := Iff.rfl
theorem dIx_kl {ns : List Int} : dIx (.kl p ns) (.int i) M Q ↔ ∃ v, atI (ns.map D.int) i = some v ∧ Q v M := Iff.rfl
theorem dListOf_tup : dListOf (.tup xs) M Q ↔ ∀ q, M q = none → Q (.ref q) (up M q (.lst xs)) := Iff.rfl
theorem dListOf_kl {ns : List Int} : dListOf (.kl p ns) M Q ↔ ∀ q, M q = none → Q (.ref q) (up M q (.lst (ns.map D.int))) := Iff.rfl
theorem dListOf_ref : dListOf (.ref p) M Q ↔ (∃ xs, LS M p xs ∧ ∀ q, M q = none → Q (.ref q) (up M q (.lst xs))) ∨ (∃ kvs, DK_ M p kvs ∧ ∀ q, M q = none → Q (.ref q) (up M q (.lst (kvs.map fun kv => kD kv.1)))) := Iff.rfl
theorem dLen_tup : dLen (.tup xs) M Q ↔ Q (.int xs.length) M := Iff.rfl
theorem dLen_str : dLen (.str z) M Q ↔ z.length ≤ sizeLine ∧ Q (.int z.length) M := Iff.rfl
theorem dLen_kl {ns : List Int} : dLen (.kl p ns) M Q ↔ Q (.int ns.length) M := Iff.rfl
theorem dLen_ref : dLen (.ref p) M Q ↔ (∃ xs, LS M p xs ∧ Q (.int xs.length) M) ∨ (∃ kvs, DK_ M p kvs ∧ Q (.int kvs.length) M) := Iff.rfl
theorem dTupOf_tup : dTupOf (.tup xs) M Q ↔ Q (.tup xs) M := Iff.rfl
theorem dTupOf_ref : dTupOf (.ref p) M Q ↔ ∃ xs, LS M p xs ∧ Q (.tup xs) M := Iff.rfl
def sqX (x : D) (M : Hd) (Q : DW → Hd → Prop) : Prop := match x with
  | .tup xs => Q ⟨xs, fun _ => True⟩ M
  | .ref p => ∃ xs, LS M p xs ∧ Q ⟨xs, fun M => LS M p xs⟩ M
  | .str z => Q ⟨z.cps.toList.map fun c => .str ⟨#[c]⟩, fun _ => True⟩ M
  | _ => False
variable {W : DW → Hd → Prop} {de : DE} {δ : DS}
theorem dSeqI_x : dSeqI de δ M W ↔ de δ M fun x M1 => sqX x M1 W := Iff.rfl
theorem sqX_tup : sqX (.tup xs) M W ↔ W ⟨xs, fun _ => True⟩ M := Iff.rfl
theorem sqX_ref : sqX (.ref p) M W ↔ ∃ xs, LS M p xs ∧ W ⟨xs, fun M => LS M p xs⟩ M := Iff.rfl
theorem sqX_str : sqX (.str z) M W ↔ W ⟨z.cps.toList.map fun c => .str ⟨#[c]⟩, fun _ => True⟩ M := Iff.rfl
def enX (x : D) (M : Hd) (Q : DW → Hd → Prop) : Prop := match x with
  | .tup ys => Q ⟨enumD ys, fun _ => True⟩ M
  | .ref p => ∃ ys, LS M p ys ∧ Q ⟨enumD ys, fun M => LS M p ys⟩ M
  | _ => False
theorem dEnumI_x : dEnumI (dCons de dNil) δ M W ↔ de δ M fun x M1 => enX x M1 W := by
  have e : (fun (x : D) (M1 : Hd) => enX x M1 W) = fun x M1 => (match ([x] : List D) with
    | [.tup ys] => W ⟨enumD ys, fun _ => True⟩ M1
    | [.ref p] => ∃ ys, LS M1 p ys ∧ W ⟨enumD ys, fun M => LS M p ys⟩ M1
    | _ => False) := by
    funext x M1
    cases x <;> rfl
  rw [e]
  exact Iff.rfl
theorem enX_tup : enX (.tup xs) M W ↔ W ⟨enumD xs, fun _ => True⟩ M := Iff.rfl
theorem enX_ref : enX (.ref p) M W ↔ ∃ ys, LS M p ys ∧ W ⟨enumD ys, fun M => LS M p ys⟩ M := Iff.rfl
theorem sqX_of {M0 : Hd} {x : D} {ds : List D} (h : SqO M0 x ds) (s : Sub M M0) (q : ∀ g : Hd → Prop, (∀ M', Sub M' M0 → g M') → W ⟨ds, g⟩ M) : sqX x M W := by
  rcases h with rfl | ⟨f, rfl, hf⟩
  · exact q (fun _ => True) fun _ _ => trivial
  · exact ⟨ds, .inl (s.1 _ _ hf), q _ fun M' s => .inl (s.1 _ _ hf)⟩
theorem enX_of {M0 : Hd} {x : D} {ds : List D} (h : SqO M0 x ds) (s : Sub M M0) (q : ∀ g : Hd → Prop, (∀ M', Sub M' M0 → g M') → W ⟨enumD ds, g⟩ M) : enX x M W := by
  rcases h with rfl | ⟨f, rfl, hf⟩
  · exact q (fun _ => True) fun _ _ => trivial
  · exact ⟨ds, .inl (s.1 _ _ hf), q _ fun M' s => .inl (s.1 _ _ hf)⟩
end
end T3
namespace T3
open PySem PySem.Spec PyProof.Rows L2
/-- a set as it begins -/
abbrev oS (w : World) : Obj := ⟨.type "set", none, .set #[] 0 (.fresh 0 0 (!w.params.followText "set-order")), #[]⟩
section
variable {P : Program} {w : World} {A : Around} {E : Value → Shared → Prop} {s : Shared}
/-- set(l), l a list of ints -/
theorem set_of_list {l : Addr} {xs : Array Value} (ns : List Int) {Q : Value → Shared → Prop} (hA : A.handled = none) (isl : s.heap.IsList l xs) (hin : IntsAre xs.toList ns) (few : ns.length + 1 < scanBound)
    (q : ∀ (g : Heap) (k c : Nat), SetR w g s.heap.objs.size (fun j => decide (j ∈ ns)) c → c ≤ ns.length → (∀ b u, s.heap.get? b = some u → g.get? b = some u) → Q (.ref s.heap.objs.size) { s with heap := g, toks := k }) :
    wpAny (model P w) A (call (.type "set") [.ref l]) Q E s := by
  have size : xs.size = ns.length := by
    have z := hin.length
    simpa using z
  obtain ⟨c0, t0, mro⟩ := F.called_set.mro
  have y1 := F.called_set.made
  have y2 := F.called_set.sub
  refine wpAny_call (codeAny_of_tree (?_ : wpAny _ _ (callAny (.type "set") _) _ _ _))
  refine wpAny_pure ⟨Code.quiet_builtin _ (by decide +kernel), codeAny_builtin F.entry_type_call ?_⟩
  rw [Around.under_plain (weight_type_call_type "set" [(Value.ref l)] []) rfl]
  have y3 := F.called_set.notType
  have y4 := F.called_set.canCreate
  have y5 := F.typeCall_set_1 (Value.ref l)
  repeat any_goals first | assumption | wp_step
  have at0 : (s.heap.push (oS w)).get? s.heap.objs.size = some (oS w) := Heap.get?_push_size _ rfl
  refine codeAny_mono (code_set_led1 (Value.ref l) (E := E) (Q₁ := fun ob s1 => ob = Value.ref s.heap.objs.size ∧ s1 = { s with heap := s.heap.push (oS w) }) ⟨rfl, rfl⟩) fun r s1 hr => ?_
  cases r with
  | error e => exact hr
  | ok fl =>
    cases fl with
    | ret ob =>
      obtain ⟨rfl, rfl⟩ := hr
      have ty : Shared.TypeIs { s with heap := s.heap.push (oS w) } (Value.ref s.heap.objs.size) "set" := ⟨_, at0, rfl⟩
      have y6 := F.called_set.init.lookup
      have y7 := F.called_set.init.bind (Value.ref s.heap.objs.size)
      repeat any_goals first | assumption | wp_step
      refine codeAny_mono (codeAny_call_builtin (R := wants (fun r s2 => r = Value.none ∧ ∃ g k c, s2 = { s with heap := g, toks := k } ∧ SetR w g s.heap.objs.size (fun j => decide (j ∈ ns)) c ∧ c ≤ ns.length ∧
        ∀ b u, s.heap.get? b = some u → g.get? b = some u) E) F.called_set.init.plain F.entry_set_init (check_set_init_1 ty ?_)) fun r2 s2 hr2 => ?_
      · obtain ⟨⟨ocls, odict, odata, oslots⟩, ol, ocl, m, od⟩ := isl
        have lt := Heap.lt_size ol
        simp only at ocl od
        subst ocl od
        have ol2 : (s.heap.push (oS w)).get? l = some ⟨.type "list", odict, .seq xs m, oslots⟩ := Heap.get?_push_of_some _ ol
        have isl2 : (s.heap.push (oS w)).IsList l xs := ⟨_, ol2, rfl, m, rfl⟩
        have y8 := F.sub_list_set
        have y9 := F.sub_list_frozenset
        have nd : (Value.type "list" == Value.type "dict") = false := by decide
        unfold Builtin.«set.__init__» noKeywords Builtin.Frozenset.updateFrom
        generalize gen : pyIter = it
        wp_walk
        subst gen
        refine wpAny_pyIter_list isl2 (wpAny_bind (wpAny_runValue ?_))
        have hA3 : A.in1.in1.in1.handled = none := by simp [hA]
        have sz1 : (s.heap.push (oS w)).objs.size = s.heap.objs.size + 1 := Heap.size_push ..
        have val : ∀ (i : Nat) (v : Value), xs[i]? = some v → ∃ k t, ns[i]? = some k ∧ v = .int k t := fun i v e => by
          obtain ⟨t, z⟩ := PyProof.Rows.IntsAre.int_at hin i v (by rw [Array.getElem?_toList]; exact e)
          have li : i < ns.length := by rw [← size]; exact (Array.getElem?_eq_some_iff.mp e).1
          refine ⟨ns[i], t, List.getElem?_eq_getElem li, ?_⟩
          rw [z, List.getD_eq_getElem?_getD, List.getElem?_eq_getElem li]; rfl
        refine set_update_ints ((Walks.list hA3 (s.heap.push (oS w)).objs.size l (by rw [sz1]; exact Nat.ne_of_lt (Nat.lt_succ_of_lt lt)) xs).toS) s.heap.objs.size (by rw [sz1]; simp only [List.mem_cons, List.not_mem_nil, or_false, not_or]; exact ⟨Nat.ne_of_lt (Nat.lt_succ_self _), Nat.ne_of_gt lt⟩) ns size few val xs.size 0 _ rfl (Nat.zero_le _) ⟨⟨_, Heap.get?_push_size _ rfl, rfl, rfl⟩, isl2.push _⟩ ⟨0, Nat.le_refl 0, setR_new_at (Heap.get?_push_of_some _ at0)⟩ ?_
        rintro ⟨g, gs, d, k, os⟩ c mv hc hS
        have e1 : gs = s.gens := mv.gens
        have e2 : d = s.drawn := mv.drawn
        have e3 : os = s.os := mv.os
        subst e1 e2 e3
        show wpAny _ _ _ _ _ _
        refine wpAny_pure (?_ : wpAny _ _ (ret Value.none) _ _ _)
        rw [size] at hc
        refine wpAny_pure ⟨rfl, g, k, c, rfl, hS, hc, fun b u e => ?_⟩
        have b0 := Heap.lt_size e
        exact mv.heap b u (by rw [sz1]; simp only [List.mem_cons, List.not_mem_nil, or_false, not_or]; exact ⟨Nat.ne_of_lt b0, Nat.ne_of_lt (Nat.lt_succ_of_lt b0)⟩) (Heap.get?_push_of_some _ (Heap.get?_push_of_some _ e))
      · cases r2 with
        | error e => exact hr2
        | ok fl2 =>
          cases fl2 with
          | ret v =>
            obtain ⟨rfl, g, k, c, rfl, a, b, d⟩ := hr2
            repeat any_goals first | assumption | wp_step
            exact q _ _ _ a b d
          | _ => exact hr2.elim
    | _ => exact hr.elim
theorem few_of {g : Heap} {a : Addr} {S : Int → Bool} {c m : Nat} (r : SetR w g a S c) (h : ∀ k, S k = true → 0 ≤ k ∧ k < m) : c ≤ m := by
  obtain ⟨o, es, ep, t, _, _, _, _, nd, mem, _, _, hn, _⟩ := r
  have : (es.toList.map keyOf).length ≤ m := by
    have h2 : ∀ k ∈ es.toList.map keyOf, 0 ≤ k ∧ k < (m : Int) := fun k hk => h k ((mem k).mpr hk)
    have sub : ∀ (m : Nat) (l : List Int), l.Nodup → (∀ k ∈ l, 0 ≤ k ∧ k < (m : Int)) → l.length ≤ m := by
      intro m
      induction m with
      | zero =>
        intro l _ h
        cases l with
        | nil => exact Nat.le_refl _
        | cons a l => have := h a (by simp); omega
      | succ m ih =>
        intro l nd h
        have := ih (l.erase (m : Int)) (nd.erase _) fun k hk => by
          have a := h k (List.mem_of_mem_erase hk)
          have b : k ≠ (m : Int) := fun z => by
            subst z
            exact List.Nodup.not_mem_erase nd hk
          omega
        have e := List.length_erase (a := (m : Int)) (l := l)
        split at e <;> omega
    exact sub m _ nd h2
  rw [List.length_map, Array.length_toList] at this
  omega
end
end T3
namespace T3
open PySem PySem.Spec PyProof.Rows L2
/-- set(xs), xs a list of ints -/
def rSet1 (K : PySem.W.Frag) (w : World) : List V → Hp → VK → Prop := fun xs H Q => ∃ (l : Addr) (ns : List Int), xs = [.ref l] ∧ SqL K H l (ns.map V.int) ∧ ns.length ≤ 4000 ∧ ∀ a c, H a = none → (∀ m : Nat, (∀ k ∈ ns, 0 ≤ k ∧ k < (m : Int)) → c ≤ m) → Q (.ref a) (upd H a (SetO w a (fun j => decide (j ∈ ns)) c))
section
variable {X : Cx} {B : Am} {e : Expr} {de : DE} {p1 p2 pos1 pos : Pos}
theorem cr_set1 (hc : X.calm = true) : CallR X (.type "set") (rSet1 X.K X.w) := by
  intro pins s σ H xs us Q I r h
  obtain ⟨l, ns, rfl, hs, hl, q⟩ := h
  rw [Vals.ref1 r]
  obtain ⟨its, rv, pl, hz⟩ := I.list hs
  refine set_of_list ns (I.ok.hd hc) pl.isList (ints_of_vals rv) (by unfold scanBound; omega) fun g k c R hc2 kp => ?_
  refine ⟨.ref _, _, I.laid (t' := k) kp (Nat.le_refl _) (setO_new R), rfl, q _ c (I.hok.fresh (Nat.le_refl _)) fun m hm => few_of R fun k hk => hm k (of_decide_eq_true hk)⟩
def dSrtSet (de : DE) : DE := fun δ M Q => de δ M fun x M1 => ∃ p, x = .ref p ∧ ∃ ns : List Int, LS M1 p (ns.map D.int) ∧ ns.length ≤ 4000 ∧ (∀ k ∈ ns, 0 ≤ k ∧ k < 60) ∧ ∀ ms : List Int, ms.Pairwise (· < ·) → (∀ k, k ∈ ms ↔ k ∈ ns) → ∀ q, M1 q = none → Q (.ref q) (up M1 q (.lst (ms.map D.int)))
theorem e_srtSet (hc : X.calm = true) (hg : Gl X "sorted") (hm : X.mg "sorted" = none) (hg2 : Gl X "set") (hm2 : X.mg "set" = none) (he : PE3 X B e de)
    (s1 : starEach [e] X.env = (false, eval e X.env) :: starEach [] X.env := by rfl) (s2 : starEach [Expr.Call (.Name "set" p2) [e] [] pos1] X.env = (false, eval (.Call (.Name "set" p2) [e] [] pos1) X.env) :: starEach [] X.env := by rfl)
    (l1 : (backTo pos1 (starEach [] X.env)).any (·.1) = false := by rfl) (l2 : (backTo pos (starEach [] X.env)).any (·.1) = false := by rfl) :
    PE3 X B (.Call (.Name "sorted" p1) [.Call (.Name "set" p2) [e] [] pos1] [] pos) (dSrtSet de) := by
  obtain ⟨t, h1, h2⟩ := he.ex
  refine ⟨_, pe_callB (cr_sortedSet hc) hg hm rfl (pa_cons (pe_callTy (cr_set1 hc) hg2 hm2 rfl (pa_cons h1 pa_nil s1) (by decide) (by decide) s1 l1) pa_nil s2) (by decide) (by decide) s2 l2, ?_⟩
  intro σ H δ M Q Qd sl rep bb h q
  refine h2 σ H δ M _ _ sl rep bb h fun v H1 x M1 g1 rep1 r1 h => ?_
  obtain ⟨p, rfl, ns, l, hl, hk, h⟩ := h
  obtain ⟨us, s, rs⟩ := rep1.ls l
  have := rs.ints
  subst this
  rw [r1.ref_]
  refine ⟨p, ns, rfl, s, hl, fun a c ha hc' => ?_⟩
  have c60 : c ≤ 60 := hc' 60 fun k hk2 => hk k hk2
  refine ⟨a, _, c, rfl, upd_same, by omega, fun ms b pw mem _ hb => ?_⟩
  have rep2 : Rep X.K (upd H1 a (SetO X.w a (fun j => decide (j ∈ ns)) c)) M1 := rep1.tup ha
  have g2 : Go H1 M1 (upd H1 a (SetO X.w a (fun j => decide (j ∈ ns)) c)) M1 := go_tup ha
  obtain ⟨g3, rep3⟩ := rep2.newL hb (Rs.of_ints ms)
  exact q _ _ _ _ ((g1.trans g2).trans g3) rep3 R.ref' (h ms pw (fun k => by rw [mem, decide_eq_true_eq]) b (rep2.free hb))
end
end T3
namespace T3
open PySem PySem.Spec PyProof.Rows L2
/-! ### isinstance(x, (A, B)) -/
section
variable {X : Cx}
def isT2 (n m : String) : D → Hd → DK → Prop := fun x M Q => match x with
  | .non => Q (.bl false) M
  | .bl _ => Q (.bl (subT "bool" n || subT "bool" m)) M
  | .int _ => Q (.bl (subT "int" n || subT "int" m)) M
  | .str _ => Q (.bl (subT "str" n || subT "str" m)) M
  | .tup _ => Q (.bl (subT "tuple" n || subT "tuple" m)) M
  | .ref p => (∃ xs, M p = some (.lst xs) ∧ Q (.bl (subT "list" n || subT "list" m)) M) ∨ (∃ kvs, M p = some (.dK kvs) ∧ Q (.bl (subT "dict" n || subT "dict" m)) M)
  | _ => False
def dIsi2 : DRL := fun xs M Q => match xs with
  | [x, .tup [.ty n, .ty m]] => n ∈ ["int", "bool", "str", "tuple", "list", "dict"] ∧ m ∈ ["int", "bool", "str", "tuple", "list", "dict"] ∧ isT2 n m x M Q
  | _ => False
theorem cd_isi2 : CallD X (.builtin "isinstance") dIsi2 := by
  refine ⟨_, call_isiT, fun H M xs vs Q Qd rep rs h q => ?_⟩
  unfold dIsi2 at h
  split at h
  · rename_i x n m
    obtain ⟨v, u, rfl, r1, r2⟩ := rs.two_
    obtain ⟨hn, hm, h⟩ := h
    obtain ⟨tp, cs, rfl, hT, r3⟩ := r2.untup
    obtain ⟨c1, c2, rfl, q1, q2⟩ := r3.two_
    have e1 := q1.ty_
    have e2 := q2.ty_
    subst e1 e2
    have fin : ∀ t b, t ∈ ["int", "bool", "str", "tuple", "list", "dict", "NoneType"] → b = (subT t n || subT t m) → TyX X.K H v (.type t) → Qd (.bl b) M → rIsiT X.K [v, .ref tp] H Q := fun t b ht hb ty hq =>
      ⟨v, tp, _, .type t, [.type n, .type m], b, rfl, hT, .cons (.ty n) (.cons (.ty m) .nil), ty, kitAny_cons (b := subT t n) (kit_ty (kit_sub t ht n hn)) (fun z => by
        refine kitAny_cons (b := subT t m) (kit_ty (kit_sub t ht m hm)) (fun z2 => by rw [hb, z, z2]; exact kitAny_nil) fun z2 => by rw [hb, z2, Bool.or_true]) fun z => by rw [hb, z, Bool.true_or], q _ _ _ M Go.refl rep R.bl' hq⟩
    cases x with
    | non =>
      have : ∀ n ∈ ["int", "bool", "str", "tuple", "list", "dict"], subT "NoneType" n = false := by decide
      exact fin "NoneType" false (by decide) (by rw [this n hn, this m hm]; rfl) (by rw [r1.non_]; exact .base .non) h
    | bl b => exact fin "bool" _ (by decide) rfl (by rw [r1.bl_]; exact .base (.bl b)) h
    | int b => exact fin "int" _ (by decide) rfl (by rw [r1.int_]; exact .base (.int b)) h
    | str b => exact fin "str" _ (by decide) rfl (by rw [r1.str_]; exact .base (.str b)) h
    | tup xs =>
      obtain ⟨a, us, e, s, rs'⟩ := r1.untup
      exact fin "tuple" _ (by decide) rfl (by rw [e]; exact .base (.tup s)) h
    | ref p =>
      have e := r1.ref_
      rcases h with ⟨xs, l, h⟩ | ⟨kvs, d, h⟩
      · obtain ⟨us, s, rs'⟩ := rep.lst l
        exact fin "list" _ (by decide) rfl (by rw [e]; exact .base (.lst s)) h
      · obtain ⟨ws, s, rk⟩ := rep p _ d
        exact fin "dict" _ (by decide) rfl (by rw [e]; exact .base (.dK s)) h
    | ty n => exact h.elim
    | kl _ _ => exact h.elim
  · exact h.elim
end
end T3
/-! texts: sep.join(xs), str(int) -/
namespace T3
open PySem PySem.Spec PyProof.Rows L2
section
variable {X : Cx} {B : Am} {o e : Expr} {do_ de : DE}
def dJoin (do_ de : DE) : DE := fun δ M Q => do_ δ M fun x M1 => de δ M1 fun y M2 => ∃ a, ∃ ys : List Str, x = .str a ∧ Sq M2 y (ys.map D.str) ∧ (ys.map (·.length)).sum + ys.length * a.length ≤ 16777216 ∧ Q (.str (Txt.join a ys)) M2
theorem e_join {apos pos : Pos} (ho : PE3 X B o do_) (he : PE3 X B e de) (hs : starEach [e] X.env = [(false, eval e X.env)] := by rfl) (hbase : attributeBase o "join" X.env (eval o X.env) = eval o X.env := by rfl) (hline : (apos.endLine == pos.line) = true := by rfl) :
    PE3 X B (.Call (.Attribute o "join" apos) [e] [] pos) (dJoin (fun δ M Q => do_ δ M fun x M1 => ∃ a, x = .str a ∧ Q x M1) de) := by
  obtain ⟨to, o1, o2⟩ := ho.ex
  obtain ⟨te, a1, a2⟩ := he.ex
  refine ⟨_, pe_join o1 a1 hs hbase hline, fun σ H δ M Q Qd sl rep bb q k => ?_⟩
  refine o2 σ H δ M _ _ sl rep bb q fun v H1 x M1 g1 rep1 r1 ⟨a, ex, q1⟩ => ?_
  subst ex
  refine ⟨⟨a, r1.str_⟩, ?_⟩
  refine a2 σ H1 δ M1 _ _ (sl.mono (rep.tx g1)) rep1 (B.pres _ _ _ _ g1 bb) q1 fun u H2 y M2 g2 rep2 r2 ⟨a', ys, e1, hsq, hz, q2⟩ => ?_
  cases e1
  obtain ⟨p, vs, rfl, h, rs⟩ := rep2.sq hsq r2
  rw [rs.strs] at h
  exact ⟨a, p, ys, r1.str_, rfl, h, hz, k _ _ _ _ (g1.trans g2) rep2 R.str' q2⟩
def dStrI : D → Hd → DK → Prop := fun x M Q => match x with
  | .int i => i.natAbs.log2 < 1920 ∧ Q (.str (toString i)) M
  | _ => False
theorem cd_strI : CallD X (.type "str") (d1 dStrI) := by
  refine ⟨_, call_str_int, fun H M xs vs Q Qd rep rs h q => ?_⟩
  obtain ⟨x, rfl, h⟩ := d1_inv h
  obtain ⟨v, rfl, r⟩ := rs.one_
  cases x with
  | int i => exact ⟨i, by rw [r.int_], h.1, q _ _ _ M Go.refl rep R.str' h.2⟩
  | _ => exact h.elim
/-- a module's text -/
abbrev GS (mg : Str → Option Value) (x z : Str) : Prop := ∃ u, mg x = some u ∧ RelV (.str z) u
theorem gs_mk {K : PySem.W.Frag} {h : Heap} {mg : Str → Option Value} {x z : Str} {u : Value} (X : K.In h) (G : h.Ns mainGlobals mg) (a : PySem.W.nsIn K mainGlobals x = some (some u)) (r : RelV (.str z) u) : GS mg x z := ⟨u, PySem.W.mg_of X G a, r⟩
theorem e_gstrP {x z : Str} {pos : Pos} (h : GS X.mg x z) (hg : Gl X x) (hd : (x == ("__debug__" : Str)) = false := by decide) : PE3 X B (.Name x pos) (dC (.str z)) := by
  obtain ⟨u, hm, r⟩ := h
  exact e_gstr hg hm r hd
/-- s.index(t) -/
def dSIndex (do_ de : DE) : DE := fun δ M Q => do_ δ M fun x M1 => de δ M1 fun y M2 => ∃ a b i rest, x = .str a ∧ y = .str b ∧ Builtin.Str.occurrences a b 0 a.length 1 = i :: rest ∧ Q (.int (i : Nat)) M2
theorem mt_sindex : MtR X "str.index" (fun x xs H Q => ∃ (a b : Str) (i : Nat) (rest : List Nat), x = .str a ∧ xs = [.str b] ∧ Builtin.Str.occurrences a b 0 a.length 1 = i :: rest ∧ Q (.int (i : Nat)) H) := by
  intro pins s σ H x xs v us Q I rx rs h
  obtain ⟨a, b, i, rest, rfl, rfl, ho, h⟩ := h
  obtain ⟨t, rfl⟩ := rx
  cases rs with
  | cons r1 rs =>
    cases rs
    obtain ⟨u, rfl⟩ := r1
    exact PySem.SC.index ho ⟨.int (i : Nat), H, I.tok _, ⟨_, rfl⟩, h⟩
theorem e_sindex {apos pos : Pos} (ho : PE3 X B o do_) (he : PE3 X B e de) (hs : starEach [e] X.env = [(false, eval e X.env)] := by rfl) (hbase : attributeBase o "index" X.env (eval o X.env) = eval o X.env := by rfl) (hline : (apos.endLine == pos.line) = true := by rfl) :
    PE3 X B (.Call (.Attribute o "index" apos) [e] [] pos) (dSIndex (fun δ M Q => do_ δ M fun x M1 => ∃ a, x = .str a ∧ Q x M1) de) := by
  obtain ⟨to, o1, o2⟩ := ho.ex
  obtain ⟨te, a1, a2⟩ := he.ex
  refine ⟨_, pe_m1 PySem.F.slot_str_index PySem.F.type_str_index mt_sindex o1 a1 hs hbase hline, fun σ H δ M Q Qd sl rep bb q k => ?_⟩
  refine o2 σ H δ M _ _ sl rep bb q fun v H1 x M1 g1 rep1 r1 ⟨a, ex, q1⟩ => ?_
  subst ex
  refine ⟨⟨a, r1.str_⟩, ?_⟩
  refine a2 σ H1 δ M1 _ _ (sl.mono (rep.tx g1)) rep1 (B.pres _ _ _ _ g1 bb) q1 fun u H2 y M2 g2 rep2 r2 ⟨a', b, i, rest, e1, e2, ho, q2⟩ => ?_
  cases e1
  subst e2
  exact ⟨a, b, i, rest, r1.str_, by rw [r2.str_], ho, k _ _ _ _ (g1.trans g2) rep2 R.int' q2⟩
/-- order of texts, a sign in a text -/
def dLtS : DR2 := fun x y M Q => ∃ a b, x = .str a ∧ y = .str b ∧ Q (.bl (decide (a.cps.toList < b.cps.toList))) M
theorem od_ltS : OpD X (compareOp .Lt) dLtS := by
  refine ⟨_, op_lt_str, fun H M x y v u Q Qd rep r1 r2 h q => ?_⟩
  obtain ⟨a, b, rfl, rfl, h⟩ := h
  exact ⟨a, b, r1.str_, r2.str_, q _ _ _ _ Go.refl rep R.bl' h⟩
def dInS : DR2 := fun x y M Q => ∃ (c : Nat) (z : Str), x = .str ⟨#[c]⟩ ∧ y = .str z ∧ Q (.bl (decide (c ∈ z.cps.toList))) M
theorem od_inS : OpD X (compareOp .In) dInS := by
  refine ⟨_, op_in_sign, fun H M x y v u Q Qd rep r1 r2 h q => ?_⟩
  obtain ⟨c, z, rfl, rfl, h⟩ := h
  exact ⟨c, z, r1.str_, r2.str_, q _ _ _ _ Go.refl rep R.bl' h⟩
end
end T3
/-! sorted of a list of tuples of ints (one tuple may be empty); len(set(xs)) of unlike tuples of ints -/
namespace TS
open PySem PyProof.Rows
section
variable {prog : Program} {w : World} {A : Around} {E : Value → Shared → Prop} {s : Shared}
theorem sort_tups1 {a : Addr} {vs : List Value} {n d : Nat} {B : Int} {P : PySem.Fin → Shared → Prop} (ho : s.heap.get? a = some (seqObj "list" vs.toArray n)) (h64 : vs.length < 64) (hd : 2 ≤ vs.length → 1 ≤ d) (x : TupsOk s.heap d B vs)
    (r : Value → Int) (hr : ∀ v, v ∈ vs → ∀ ns, TupInts s.heap v ns → r v = code B ns)
    (h : ∀ out : Array Value, out.toList.Perm vs → out.toList.Pairwise (fun u v => r u ≤ r v) → P (.done (.ret .none)) { s with heap := sortedHeap s.heap a vs out }) :
    wpAny (model prog w) A (Builtin.«list.sort» ⟨[.ref a], []⟩) P E s := by
  have keep : ∀ b o, s.heap.get? b = some o → o.cls = .type "tuple" → (midHeap s.heap a vs).get? b = some o := fun b o e hc => by
    refine midHeap_old ?_ e
    rintro rfl
    rw [ho] at e
    have e' : seqObj "list" vs.toArray n = o := Option.some.inj e
    rw [← e'] at hc
    have c' : Value.type "list" = Value.type "tuple" := hc
    injection c' with c''
    exact absurd c'' (by decide)
  refine SK.plain_sort (r := r) ho h64 (fun h2 Q hQ => ?_) fun ps out h1 h2 h3 => ?_
  · refine kind_tups (s := { s with heap := midHeap s.heap a vs }) (hd (by omega)) h2 (x.keeps keep) r (fun v hv ns t => ?_) Q hQ
    obtain ⟨ns0, t0, _⟩ := x v hv
    have e : ns = ns0 := t.ints.symm.trans (t0.keeps keep).ints
    rw [e]
    exact hr v hv ns0 t0
  · obtain ⟨p, o⟩ := out_rank h1 h2 h3
    exact h out p o
theorem sorted_tups1 {l : Addr} {vs : List Value} {d : Nat} {B : Int} {Q : Value → Shared → Prop} (hl : s.heap.IsList l vs.toArray) (h64 : vs.length < 64) (hd : 2 ≤ vs.length → 1 ≤ d) (x : TupsOk s.heap d B vs)
    (h : ∀ out : Array Value, out.toList.Perm vs → out.toList.Pairwise (fun u v => code B (intsOf s.heap u) ≤ code B (intsOf s.heap v)) → Q (.ref (s.heap.objs.size + 1)) { s with heap := sortedAll s.heap vs out }) :
    wpAny (model prog w) A (call (.builtin "sorted") [.ref l]) Q E s := by
  refine Calls.call_function_entry kind_sorted plain_sorted entry_sorted (args_sorted1 _) ?_
  unfold Builtin.«sorted»
  refine wpAny_bind (m := checkCount "sorted" 1 1 _) (wpAny_pure ?_)
  refine wpAny_bind (collect_list hl ?_ (by rw [sizeLine_eq]; omega))
  refine wpAny_bind (wpAny_newList ?_ (by rw [sizeLine_eq]; omega))
  have hsz : ((s.heap.push (seqObj "list" #[] 0)).update s.heap.objs.size (Obj.mapSeq (· ++ vs.toArray))).objs.size = s.heap.objs.size + 1 := by
    rw [Heap.size_update, size_push']
  have hoL : (((s.heap.push (seqObj "list" #[] 0)).update s.heap.objs.size (Obj.mapSeq (· ++ vs.toArray))).push (seqObj "list" vs.toArray 0)).get? (s.heap.objs.size + 1) = some (seqObj "list" vs.toArray 0) := by
    rw [← hsz]; exact Heap.get?_push_size _ rfl
  have keep : ∀ b o, s.heap.get? b = some o → o.cls = .type "tuple" → (((s.heap.push (seqObj "list" #[] 0)).update s.heap.objs.size (Obj.mapSeq (· ++ vs.toArray))).push (seqObj "list" vs.toArray 0)).get? b = some o := fun b o q _ => by
    have hlt : b < s.heap.objs.size := Heap.lt_size q
    rw [Heap.get?_push_ne _ _ _ (by rw [hsz]; exact Nat.ne_of_lt (Nat.lt_succ_of_lt hlt)), Heap.get?_update_ne _ _ _ _ (Nat.ne_of_lt hlt), Heap.get?_push_ne _ _ _ (Nat.ne_of_lt hlt)]
    exact q
  show wpAny _ _ _ _ _ { s with heap := ((s.heap.push (seqObj "list" #[] 0)).update s.heap.objs.size (Obj.mapSeq (· ++ vs.toArray))).push (seqObj "list" vs.toArray 0) }
  rw [hsz]
  refine wpAny_bind (wpAny_holding (wpAny_call_entry slot_list_sort ⟨_, hoL, rfl⟩ entry_list_sort (sort_tups1 hoL h64 hd (x.keeps keep) (fun v => code B (intsOf s.heap v)) (fun v hv ns t => ?_) fun out a1 a2 => ⟨_, rfl, ?_⟩) (args_list_sort _)))
  · obtain ⟨ns0, t0, _⟩ := x v hv
    have e : ns = ns0 := t.ints.symm.trans (t0.keeps keep).ints
    rw [e]
    show code B (intsOf s.heap v) = code B ns0
    rw [t0.ints]
  · exact wpAny_pure ⟨_, rfl, h out a1 a2⟩
end
end TS
namespace L2
open PySem PySem.Spec PyProof.Rows
section
variable {X : Cx}
def rSortU1 (K : PySem.W.Frag) : List V → Hp → VK → Prop := fun vs H Q => ∃ (a : Addr) (xs : List V) (d : Nat) (B : Int), vs = [V.ref a] ∧ SqL K H a xs ∧ xs.length < 64 ∧ (2 ≤ xs.length → 1 ≤ d) ∧ (∀ x ∈ xs, ∃ ns, TupI K H x ns ∧ ns.length = d ∧ TS.Bd B ns) ∧
  ∀ (ys : List V) (p : Addr), ys.Perm xs → ys.Pairwise (fun x y => ∀ n m, TupI K H x n → TupI K H y m → TS.code B n ≤ TS.code B m) → H p = none → Q (.ref p) (upd H p (.lst ys))
theorem cr_sortT1 : CallR X (.builtin "sorted") (rSortU1 X.K) := by
  intro pins s σ H vs us Q I r h
  obtain ⟨a, xs, d, B, rfl, hs, h64, hd, hx, q⟩ := h
  obtain ⟨its, rv, hl, hz⟩ := I.list hs
  rw [Vals.ref1 r]
  obtain ⟨e1, e2⟩ := bkV_refs rv fun x m => by
    obtain ⟨ns, ⟨t, e, _⟩, _⟩ := hx x m
    exact ⟨t, e⟩
  refine TS.sorted_tups1 (d := d) (B := B) hl.isList (by rw [← rv.length]; exact h64) (by rw [← rv.length]; exact hd) (fun v hv => ?_) fun out h1 h2 => ?_
  · obtain ⟨t, rfl⟩ := e2 v hv
    have hm : V.ref t ∈ xs := by
      rw [e1]
      exact List.mem_map.mpr ⟨_, hv, rfl⟩
    obtain ⟨ns, ⟨t', e, ht⟩, hn, hb⟩ := hx _ hm
    cases e
    exact ⟨ns, tupI_raw I ht, hn, hb⟩
  · obtain ⟨ep, he'⟩ := PyProof.Rows.sortedAll_at s.heap its out
    have h3 : ∀ u ∈ out.toList, ∃ a, u = Value.ref a := fun u hu => e2 u (h1.mem_iff.mp hu)
    have hp : (out.toList.map bkV).Perm xs := by
      rw [e1]
      exact h1.map bkV
    have hlen : (out.toList.map bkV).length ≤ sizeLine := by
      rw [hp.length_eq]
      exact hz
    refine ⟨.ref _, upd H (s.heap.objs.size + 1) (.lst (out.toList.map bkV)), I.laid (t' := s.toks) (fun _ _ => PyProof.Rows.sortedAll_old) (Nat.le_succ _) ⟨hlen, out.toList, ep, bkV_vals h3, he'⟩, rfl, q _ _ hp ?_ (I.hok.fresh (Nat.le_succ _))⟩
    rw [List.pairwise_map]
    refine List.Pairwise.imp (fun {u v} huv n m hn hm => ?_) h2
    obtain ⟨t, et, ht⟩ := hn
    obtain ⟨t', et', ht'⟩ := hm
    have eu := bkV_ref et
    have ev := bkV_ref et'
    have i1 : TS.intsOf s.heap u = n := by
      rw [eu]
      exact (tupI_raw I ht).ints
    have i2 : TS.intsOf s.heap v = m := by
      rw [ev]
      exact (tupI_raw I ht').ints
    rw [← i1, ← i2]
    exact huv
/-- len(set(xs)), unlike tuples of ints -/
def tLenSetT (K : PySem.W.Frag) (ta : TE) : TE := fun σ H Q => ta σ H fun x H1 => ∃ (l : Addr) (ks : List (Addr × List Int)), x = V.ref l ∧ SqL K H1 l (ks.map fun p => V.ref p.1) ∧ (∀ p ∈ ks, SqT K H1 p.1 (p.2.map V.int)) ∧ ks.length < 64 ∧ (ks.map (·.2)).Nodup ∧ Q (.int ks.length) H1
theorem pe_lenSetT {a : Expr} {ta : TE} {p p2 q pos : Pos} (hc : X.calm = true) (hu : X.A.units + 64 < cLine) (hg : Gl X "len") (hm : X.mg "len" = none) (hg2 : Gl X "set") (hm2 : X.mg "set" = none) (ha : PE X a ta)
    (na : starEach [a] X.env = (false, eval a X.env) :: starEach [] X.env := by rfl) : PE X (.Call (.Name "len" p) [.Call (.Name "set" p2) [a] [] q] [] pos) (tLenSetT X.K ta) := by
  refine ⟨fun pins s σ H Q I h => ?_⟩
  refine Call_ (ld_blt I hg hm PySem.boot_len ?_)
  refine PyProof.Rows.callWith_builtin1 (PyProof.Rows.args_cons ?_ rfl) rfl rfl
  refine Call_ (ld_blt I hg2 hm2 PyProof.Rows.boot_set ?_)
  refine PyProof.Rows.callWith_type1 (PyProof.Rows.args_cons (thn (ha.run pins s σ H _ I h) fun v s1 ⟨x, H1, I1, r1, q1⟩ => PyProof.Rows.args_nil ?_) na) na rfl
  obtain ⟨l, ks, rfl, hq, hk, hf, hnd, q1⟩ := q1
  cases r1
  obtain ⟨its, rv, pl, hz⟩ := I1.list hq
  refine call_set_tups (P := X.prog) (w := X.w) ks (I1.ok.hd hc) pl.isList (by simpa using refs_of_vals rv) (fun p hp => I1.isT (hk p hp)) hf (by omega) fun h' tk L es ep t R g k => ?_
  refine PyProof.Rows.args_nil ?_
  have I2 : Inv X pins σ H1 { s1 with heap := h', toks := tk } := I1.kept k
  have R' : SetTR X.prog X.w ({ s1 with heap := h', toks := tk } : Shared).heap s1.heap.objs.size L es ep t := R
  have sz := R'.size
  obtain ⟨o, ho, hex, hd⟩ := R'.ob
  have hlen : L.length = ks.length := by
    have e1 : (L.map (·.2)).Perm (ks.map (·.2)) := (List.perm_ext_iff_of_nodup R.nd hnd).mpr fun z => by
      constructor
      · intro hz
        obtain ⟨u, hu1, rfl⟩ := List.mem_map.mp hz
        exact List.mem_map.mpr ⟨u, List.mem_of_mem_take (g.sub u hu1), rfl⟩
      · intro hz
        obtain ⟨u, hu1, rfl⟩ := List.mem_map.mp hz
        exact g.all u (by rw [List.take_length]; exact hu1)
    have := e1.length_eq
    rw [List.length_map, List.length_map] at this
    exact this
  refine call_len_set ho hex hd R'.fits (by rw [sz]; omega) ⟨.int ks.length, H1, I2.tok _, ⟨_, by rw [sz, hlen]⟩, q1⟩
end
end L2
namespace T3
open PySem PySem.Spec PyProof.Rows L2
/-- a tuple of ints -/
def tI (l : List Int) : D := .tup (l.map D.int)
theorem tI_at {K : PySem.W.Frag} {H : Hp} {l : List Int} {v : V} (r : R K H (tI l) v) : TupI K H v l ∧ ∃ a, v = .ref a ∧ SqT K H a (l.map V.int) := by
  obtain ⟨a, vs, rfl, s, rs⟩ := R.untup r
  have e := rs.ints
  subst e
  exact ⟨⟨a, rfl, SqT.of s⟩, a, rfl, SqT.of s⟩
theorem rs_perm {K : PySem.W.Frag} {H : Hp} {us ys : List V} (p : us.Perm ys) : ∀ L : List (List Int), Rs K H (L.map tI) us → ∃ L' : List (List Int), L'.Perm L ∧ Rs K H (L'.map tI) ys := by
  induction p with
  | nil => exact fun L h => ⟨L, .refl _, h⟩
  | cons x p ih =>
    intro L h
    cases L with
    | nil => have := h.unil; cases this
    | cons l L =>
      obtain ⟨v, us', e, r, rs⟩ := Rs.ucons (show Rs K H (tI l :: L.map tI) _ from h)
      cases e
      obtain ⟨L', pl, h'⟩ := ih L rs
      exact ⟨l :: L', pl.cons l, .cons r h'⟩
  | swap x y l =>
    intro L h
    cases L with
    | nil => have := h.unil; cases this
    | cons a L =>
      obtain ⟨v, us', e, r, rs⟩ := Rs.ucons (show Rs K H (tI a :: L.map tI) _ from h)
      cases e
      cases L with
      | nil => have := rs.unil; cases this
      | cons b L =>
        obtain ⟨v2, us2, e, r2, rs2⟩ := Rs.ucons (show Rs K H (tI b :: L.map tI) _ from rs)
        cases e
        exact ⟨b :: a :: L, .swap a b L, .cons r2 (.cons r rs2)⟩
  | trans p q ih1 ih2 =>
    intro L h
    obtain ⟨L1, p1, h1⟩ := ih1 L h
    obtain ⟨L2, p2, h2⟩ := ih2 L1 h1
    exact ⟨L2, p2.trans p1, h2⟩
theorem rs_pair {K : PySem.W.Frag} {H : Hp} {P : List Int → List Int → Prop} : ∀ {L : List (List Int)} {ys : List V}, Rs K H (L.map tI) ys → ys.Pairwise (fun x y => ∀ n m, TupI K H x n → TupI K H y m → P n m) → L.Pairwise P
  | [], _, _, _ => .nil
  | l :: L, ys, h, hp => by
    obtain ⟨v, us', e, r, rs⟩ := Rs.ucons (show Rs K H (tI l :: L.map tI) _ from h)
    subst e
    rw [List.pairwise_cons] at hp
    refine List.pairwise_cons.mpr ⟨fun m hm => ?_, rs_pair rs hp.2⟩
    have : ∃ u ∈ us', R K H (tI m) u := by
      have go : ∀ {L : List (List Int)} {us : List V}, Rs K H (L.map tI) us → m ∈ L → ∃ u ∈ us, R K H (tI m) u := fun {L} => by
        induction L with
        | nil => intro us _ h; simp at h
        | cons a L ih =>
          intro us h hm
          obtain ⟨v, us', e, r, rs⟩ := Rs.ucons (show Rs K H (tI a :: L.map tI) _ from h)
          subst e
          rcases List.mem_cons.mp hm with rfl | hm
          · exact ⟨v, by simp, r⟩
          · obtain ⟨u, hu, ru⟩ := ih rs hm
            exact ⟨u, by simp [hu], ru⟩
      exact go rs hm
    obtain ⟨u, hu, ru⟩ := this
    exact hp.1 u hu l m (tI_at r).1 (tI_at ru).1
theorem rs_all {K : PySem.W.Frag} {H : Hp} {P : List Int → Prop} : ∀ {L : List (List Int)} {us : List V}, Rs K H (L.map tI) us → (∀ l ∈ L, P l) → ∀ u ∈ us, ∃ ns, TupI K H u ns ∧ P ns
  | [], us, h, _ => fun u hu => by rw [h.unil] at hu; simp at hu
  | l :: L, us, h, hp => fun u hu => by
    obtain ⟨v, us', e, r, rs⟩ := Rs.ucons (show Rs K H (tI l :: L.map tI) _ from h)
    subst e
    rcases List.mem_cons.mp hu with rfl | hu
    · exact ⟨l, (tI_at r).1, hp l (by simp)⟩
    · exact rs_all rs (fun m hm => hp m (by simp [hm])) u hu
theorem rs_keys {K : PySem.W.Frag} {H : Hp} : ∀ {L : List (List Int)} {us : List V}, Rs K H (L.map tI) us → ∃ ks : List (Addr × List Int), us = ks.map (fun p => V.ref p.1) ∧ ks.map (·.2) = L ∧ ∀ p ∈ ks, SqT K H p.1 (p.2.map V.int)
  | [], us, h => ⟨[], h.unil, rfl, fun p hp => by simp at hp⟩
  | l :: L, us, h => by
    obtain ⟨v, us', e, r, rs⟩ := Rs.ucons (show Rs K H (tI l :: L.map tI) _ from h)
    subst e
    obtain ⟨ks, e1, e2, e3⟩ := rs_keys rs
    obtain ⟨_, a, e4, s⟩ := tI_at r
    refine ⟨(a, l) :: ks, by rw [e1, e4]; rfl, by rw [List.map_cons, e2], fun p hp => ?_⟩
    rcases List.mem_cons.mp hp with rfl | hp
    · exact s
    · exact e3 p hp
section
variable {X : Cx} {B : Am} {e : Expr} {de : DE} {p1 p2 pos1 pos : Pos}
def dSortT : D → Hd → DK → Prop := fun x M Q => match x with
  | .ref p => ∃ L : List (List Int), LS M p (L.map tI) ∧ L.length < 64 ∧ ∃ (d : Nat) (b : Int), (2 ≤ L.length → 1 ≤ d) ∧ (∀ l ∈ L, l.length = d ∧ TS.Bd b l) ∧ ∀ L' : List (List Int), L'.Perm L → L'.Pairwise (fun m n => TS.code b m ≤ TS.code b n) → ∀ q, M q = none → Q (.ref q) (up M q (.lst (L'.map tI)))
  | _ => False
theorem cd_sortT : CallD X (.builtin "sorted") (d1 dSortT) := by
  refine ⟨_, cr_sortT1, fun H M xs vs Q Qd rep rs h q => ?_⟩
  obtain ⟨x, rfl, h⟩ := d1_inv h
  obtain ⟨v, rfl, r⟩ := rs.one_
  cases x with
  | ref p =>
    rw [r.ref_]
    obtain ⟨L, l, h64, d, b, hd, hl, h⟩ := h
    obtain ⟨us, s, rs'⟩ := rep.ls l
    have e := rs'.len
    rw [List.length_map] at e
    refine ⟨p, us, d, b, rfl, s, by omega, by rw [e]; exact hd, rs_all rs' hl, fun ys a hp hpw ha => ?_⟩
    obtain ⟨L', pl, rs2⟩ := rs_perm hp.symm L rs'
    obtain ⟨g, rep'⟩ := rep.newL ha rs2
    exact q _ _ _ _ g rep' R.ref' (h L' pl (rs_pair rs2 hpw) a (rep.free ha))
  | _ => exact h.elim
def dLenSetT (de : DE) : DE := fun δ M Q => de δ M fun x M1 => ∃ p, x = .ref p ∧ ∃ L : List (List Int), LS M1 p (L.map tI) ∧ L.length < 64 ∧ L.Nodup ∧ Q (.int L.length) M1
theorem e_lenSetT (hc : X.calm = true) (hu : X.A.units + 64 < cLine) (hg : Gl X "len") (hm : X.mg "len" = none) (hg2 : Gl X "set") (hm2 : X.mg "set" = none) (he : PE3 X B e de)
    (na : starEach [e] X.env = (false, eval e X.env) :: starEach [] X.env := by rfl) : PE3 X B (.Call (.Name "len" p1) [.Call (.Name "set" p2) [e] [] pos1] [] pos) (dLenSetT de) := by
  obtain ⟨t, h1, h2⟩ := he.ex
  refine ⟨_, pe_lenSetT hc hu hg hm hg2 hm2 h1 na, fun σ H δ M Q Qd sl rep bb h q => h2 σ H δ M _ _ sl rep bb h fun v H1 x M1 g rep1 r ⟨p, ex, L, l, h64, hnd, h⟩ => ?_⟩
  subst ex
  obtain ⟨us, s, rs⟩ := rep1.ls l
  obtain ⟨ks, e1, e2, e3⟩ := rs_keys rs
  subst e1
  have e := congrArg List.length e2
  rw [List.length_map] at e
  refine ⟨p, ks, r.ref_, s, e3, by omega, by rw [e2]; exact hnd, ?_⟩
  rw [e]
  exact q _ _ _ _ g rep1 R.int' h
end
end T3
/-! sorted of a list of pairs (text, int in [0, 64)) -/
namespace TSS
open PySem PyProof.Rows TS
/-- the rank of a text: its signs as figures of one number, a shorter one first -/
def rkS : Nat → List Nat → Int
  | 0, _ => 0
  | _ + 1, [] => 0
  | n + 1, m :: r => ((m : Int) + 1) * 2048 ^ n + rkS n r
def EntS (ns : List Nat) : Prop := ∀ m ∈ ns, m < 1000
theorem p2048 (n : Nat) : (0 : Int) < 2048 ^ n := Int.pow_pos (by omega)
theorem rkS_bd : ∀ (n : Nat) (ns : List Nat), EntS ns → 0 ≤ rkS n ns ∧ rkS n ns < 2048 ^ n
  | 0, _, _ => by show (0 : Int) ≤ 0 ∧ (0 : Int) < 2048 ^ 0; exact ⟨Int.le_refl _, p2048 0⟩
  | n + 1, [], _ => by show (0 : Int) ≤ 0 ∧ (0 : Int) < 2048 ^ (n + 1); exact ⟨Int.le_refl _, p2048 _⟩
  | n + 1, m :: r, h => by
    obtain ⟨a, b⟩ := rkS_bd n r fun x hx => h x (by simp [hx])
    have d := h m (by simp)
    have p := p2048 n
    show 0 ≤ ((m : Int) + 1) * 2048 ^ n + rkS n r ∧ ((m : Int) + 1) * 2048 ^ n + rkS n r < 2048 ^ (n + 1)
    rw [Int.pow_succ]
    have e1 : 0 ≤ ((m : Int) + 1) * 2048 ^ n := Int.mul_nonneg (by omega) (by omega)
    have e2 : ((m : Int) + 1) * 2048 ^ n ≤ 1001 * 2048 ^ n := Int.mul_le_mul_of_nonneg_right (by omega) (by omega)
    omega
theorem rkS_lt : ∀ (n : Nat) (ns ms : List Nat), ns.length ≤ n → ms.length ≤ n → EntS ns → EntS ms → (ns < ms ↔ rkS n ns < rkS n ms)
  | _, [], [], _, _, _, _ => by cases ‹Nat› <;> simp [rkS]
  | 0, _ :: _, _, h, _, _, _ => by simp at h
  | 0, [], _ :: _, _, h, _, _ => by simp at h
  | n + 1, [], m :: r, _, h, _, e => by
    obtain ⟨a, b⟩ := rkS_bd n r fun x hx => e x (by simp [hx])
    have e1 : 0 < ((m : Int) + 1) * 2048 ^ n := Int.mul_pos (by omega) (p2048 n)
    refine ⟨fun _ => ?_, fun _ => List.nil_lt_cons ..⟩
    show (0 : Int) < ((m : Int) + 1) * 2048 ^ n + rkS n r
    omega
  | n + 1, m :: r, [], _, _, e, _ => by
    obtain ⟨a, b⟩ := rkS_bd n r fun x hx => e x (by simp [hx])
    have e1 : 0 < ((m : Int) + 1) * 2048 ^ n := Int.mul_pos (by omega) (p2048 n)
    refine ⟨fun z => absurd z (List.not_lt_nil _), fun z => ?_⟩
    have z : ((m : Int) + 1) * 2048 ^ n + rkS n r < 0 := z
    omega
  | n + 1, a :: x, b :: y, h1, h2, e1, e2 => by
    have ih := rkS_lt n x y (by simpa using h1) (by simpa using h2) (fun z hz => e1 z (by simp [hz])) (fun z hz => e2 z (by simp [hz]))
    obtain ⟨u1, u2⟩ := rkS_bd n x fun z hz => e1 z (by simp [hz])
    obtain ⟨v1, v2⟩ := rkS_bd n y fun z hz => e2 z (by simp [hz])
    rw [List.cons_lt_cons_iff]
    show _ ↔ ((a : Int) + 1) * 2048 ^ n + rkS n x < ((b : Int) + 1) * 2048 ^ n + rkS n y
    have p := p2048 n
    constructor
    · rintro (h | ⟨rfl, h⟩)
      · have : ((a : Int) + 1 + 1) * 2048 ^ n ≤ ((b : Int) + 1) * 2048 ^ n := Int.mul_le_mul_of_nonneg_right (by omega) (by omega)
        rw [Int.add_mul ((a : Int) + 1), Int.one_mul] at this
        omega
      · have := ih.mp h
        omega
    · intro h
      rcases Nat.lt_trichotomy a b with z | z | z
      · exact .inl z
      · subst z
        exact .inr ⟨rfl, ih.mpr (by omega)⟩
      · have : ((b : Int) + 1 + 1) * 2048 ^ n ≤ ((a : Int) + 1) * 2048 ^ n := Int.mul_le_mul_of_nonneg_right (by omega) (by omega)
        rw [Int.add_mul ((b : Int) + 1), Int.one_mul] at this
        omega
theorem str_ext {a b : Str} (h : a.cps.toList = b.cps.toList) : a = b := by
  cases a with
  | mk a =>
    cases b with
    | mk b =>
      have : a = b := Array.ext' h
      rw [this]
theorem lst_tri : ∀ (a b : List Nat), ¬ a < b → ¬ b < a → a = b
  | [], [], _, _ => rfl
  | [], b :: y, h, _ => absurd (List.nil_lt_cons ..) h
  | a :: x, [], _, h => absurd (List.nil_lt_cons ..) h
  | a :: x, b :: y, h1, h2 => by
    rw [List.cons_lt_cons_iff] at h1 h2
    have e : a = b := by
      rcases Nat.lt_trichotomy a b with z | z | z
      · exact absurd (.inl z) h1
      · exact z
      · exact absurd (.inl z) h2
    subst e
    rw [lst_tri x y (fun z => h1 (.inr ⟨rfl, z⟩)) fun z => h2 (.inr ⟨rfl, z⟩)]
def rkP (p : Str × Int) : Int := rkS 40 p.1.cps.toList * 64 + p.2
def EntP (p : Str × Int) : Prop := p.1.cps.toList.length ≤ 40 ∧ EntS p.1.cps.toList ∧ 0 ≤ p.2 ∧ p.2 < 64
theorem rkP_lt {p q : Str × Int} (hp : EntP p) (hq : EntP q) : (if p.1 = q.1 then decide (p.2 < q.2) else decide (p.1.cps.toList < q.1.cps.toList)) = decide (rkP p < rkP q) := by
  unfold rkP
  obtain ⟨a1, a2, a3, a4⟩ := hp
  obtain ⟨b1, b2, b3, b4⟩ := hq
  by_cases e : p.1 = q.1
  · rw [if_pos e, e]
    exact decide_eq_decide.mpr (by omega)
  · rw [if_neg e]
    have l1 := rkS_lt 40 _ _ a1 b1 a2 b2
    have l2 := rkS_lt 40 _ _ b1 a1 b2 a2
    by_cases h : p.1.cps.toList < q.1.cps.toList
    · have := l1.mp h
      rw [decide_eq_true h, decide_eq_true (by omega)]
    · have h2 : q.1.cps.toList < p.1.cps.toList := by
        apply Classical.byContradiction
        intro z
        exact e (str_ext (lst_tri _ _ h z))
      have := l2.mp h2
      rw [decide_eq_false h, decide_eq_false (by omega)]
/-- a pair, as it stands on the heap -/
def PairAt (h : Heap) (v : Value) (p : Str × Int) : Prop := ∃ a xs t u, v = .ref a ∧ IsTup h a xs ∧ xs.toList = [.str p.1 t, .int p.2 u]
theorem PairAt.keeps {h h' : Heap} {v : Value} {p : Str × Int} (x : PairAt h v p) (k : ∀ b o, h.get? b = some o → o.cls = .type "tuple" → h'.get? b = some o) : PairAt h' v p := by
  obtain ⟨a, xs, t, u, e, ⟨o, ho, hc, hd⟩, hx⟩ := x
  exact ⟨a, xs, t, u, e, ⟨o, k _ _ ho hc, hc, hd⟩, hx⟩
theorem PairAt.inj {h : Heap} {v : Value} {p q : Str × Int} (x : PairAt h v p) (y : PairAt h v q) : p = q := by
  obtain ⟨a, xs, t, u, rfl, ⟨o, ho, hc, n, hd⟩, hx⟩ := x
  obtain ⟨a', ys, t', u', e, ⟨o', ho', hc', n', hd'⟩, hy⟩ := y
  injection e with e
  subst e
  rw [ho] at ho'
  cases ho'
  rw [hd] at hd'
  injection hd' with e1 e2
  subst e1
  rw [hx] at hy
  injection hy with e3 e4
  injection e3 with e3 _
  injection e4 with e4 _
  injection e4 with e4 _
  exact Prod.ext e3 e4
open Classical in
noncomputable def pairOf (h : Heap) (v : Value) : Str × Int := if x : ∃ p, PairAt h v p then x.choose else ("", 0)
theorem pairOf_eq {h : Heap} {v : Value} {p : Str × Int} (x : PairAt h v p) : pairOf h v = p := by
  unfold pairOf
  have e : ∃ p, PairAt h v p := ⟨p, x⟩
  rw [dif_pos e]
  exact e.choose_spec.inj x
section
variable {prog : Program} {w : World} {A : Around} {E : Value → Shared → Prop} {s : Shared}
theorem pairs_firsts : ∀ vs : List Value, (∀ v ∈ vs, ∃ p, PairAt s.heap v p) → ∃ fs, PySem.W.KatTups s.heap vs fs ∧ fs.length = vs.length ∧ ∀ f ∈ fs, ∃ z t, f = Value.str z t
  | [], _ => ⟨[], .nil, rfl, fun f hf => by simp at hf⟩
  | v :: vs, h => by
    obtain ⟨fs, k, hl, hi⟩ := pairs_firsts vs fun u hu => h u (by simp [hu])
    obtain ⟨p, a, xs, t, u, rfl, ⟨o, ho, hc, n, hd⟩, hx⟩ := h v (by simp)
    refine ⟨.str p.1 t :: fs, .cons ho hc hd (by rw [← Array.getElem?_toList, hx]; rfl) k, by rw [List.length_cons, List.length_cons, hl], fun f hf => ?_⟩
    rcases List.mem_cons.mp hf with rfl | hf
    · exact ⟨p.1, t, rfl⟩
    · exact hi f hf
theorem kind_pairs {vs : List Value} (hu : A.units < cLine) (h2 : 2 ≤ vs.length) (x : ∀ v ∈ vs, ∃ p, PairAt s.heap v p ∧ EntP p) (r : Value → Int) (hr : ∀ v, v ∈ vs → ∀ p, PairAt s.heap v p → r v = rkP p) (Q : SortKind → Shared → Prop)
    (h : ∀ κ, Cmp prog w A s κ (pairsOf vs) r → Q κ s) : wpAny (model prog w) A (keyKind' vs.toArray) Q E s := by
  obtain ⟨fs, k, hl, hi⟩ := pairs_firsts vs fun v hv => by obtain ⟨p, hp, _⟩ := x v hv; exact ⟨p, hp⟩
  refine PySem.W.kat_kind (T := Value.type "str") k (by omega) (fun f hf => ?_) rfl (h _ ?_)
  · obtain ⟨z, t, rfl⟩ := hi f hf
    exact fun A Q E s' kk q => wpAny_typeOf (typeIs_str _ _ _) q
  · intro p q hp hq Q' E' hQ
    rw [pairsOf_toList] at hp hq
    obtain ⟨m, tp, ep⟩ := x _ (mem_zip_self hp).2
    obtain ⟨k', tq, eq⟩ := x _ (mem_zip_self hq).2
    rw [hr _ (mem_zip_self hp).2 _ tp, hr _ (mem_zip_self hq).2 _ tq, ← rkP_lt ep eq] at hQ
    obtain ⟨a, xs, t, u, e1, ⟨o, ho, hc, n, hdt⟩, hx⟩ := tp
    obtain ⟨a', ys, t', u', e2, ⟨o', ho', hc', n', hdt'⟩, hy⟩ := tq
    rw [e1, e2]
    refine PySem.W.kat_lt ho hdt ho' hdt' ?_
    have sz : decide (xs.size < ys.size) = false := by
      have l1 := congrArg List.length hx
      have l2 := congrArg List.length hy
      rw [Array.length_toList] at l1 l2
      exact decide_eq_false (by rw [l1, l2]; simp)
    rw [sz, hx, hy]
    refine PySem.W.kat_cons (wpAny_eqBool_str ?_)
    by_cases e : m.1 = k'.1
    · rw [decide_eq_true e]
      rw [if_pos e] at hQ
      refine PySem.W.kat_yes (PySem.W.kat_cons (wpAny_eqBool_int ?_))
      by_cases e3 : m.2 = k'.2
      · rw [e3, beq_self_eq_true]
        rw [e3, decide_eq_false (Int.lt_irrefl _)] at hQ
        exact PySem.W.kat_yes (PySem.W.kat_nil hQ)
      · rw [show (m.2 == k'.2) = false from beq_eq_false_iff_ne.mpr e3]
        exact PySem.W.kat_no (oneLt_ints _ hQ)
    · rw [decide_eq_false e]
      rw [if_neg e] at hQ
      exact PySem.W.kat_no (oneLt_str hQ)
theorem sort_pairs {a : Addr} {vs : List Value} {n : Nat} {P : PySem.Fin → Shared → Prop} (hu : A.units < cLine) (ho : s.heap.get? a = some (seqObj "list" vs.toArray n)) (h64 : vs.length < 64) (x : ∀ v ∈ vs, ∃ p, PairAt s.heap v p ∧ EntP p)
    (h : ∀ out : Array Value, out.toList.Perm vs → out.toList.Pairwise (fun u v => rkP (pairOf s.heap u) ≤ rkP (pairOf s.heap v)) → P (.done (.ret .none)) { s with heap := sortedHeap s.heap a vs out }) :
    wpAny (model prog w) A (Builtin.«list.sort» ⟨[.ref a], []⟩) P E s := by
  have keep : ∀ b o, s.heap.get? b = some o → o.cls = .type "tuple" → (midHeap s.heap a vs).get? b = some o := fun b o e hc => by
    refine midHeap_old ?_ e
    rintro rfl
    rw [ho] at e
    have e' : seqObj "list" vs.toArray n = o := Option.some.inj e
    rw [← e'] at hc
    have c' : Value.type "list" = Value.type "tuple" := hc
    injection c' with c''
    exact absurd c'' (by decide)
  refine SK.plain_sort (r := fun v => rkP (pairOf s.heap v)) ho h64 (fun h2 Q hQ => ?_) fun ps out h1 h2 h3 => ?_
  · refine kind_pairs (s := { s with heap := midHeap s.heap a vs }) hu h2 (fun v hv => ?_) _ (fun v hv p hp => ?_) Q hQ
    · obtain ⟨p, hp, he⟩ := x v hv
      exact ⟨p, hp.keeps keep, he⟩
    · obtain ⟨p0, hp0, _⟩ := x v hv
      have e : p = p0 := hp.inj (hp0.keeps keep)
      rw [e]
      show rkP (pairOf s.heap v) = rkP p0
      rw [pairOf_eq hp0]
  · obtain ⟨p, o⟩ := out_rank (r := fun v => rkP (pairOf s.heap v)) h1 h2 h3
    exact h out p o
theorem sorted_pairs {l : Addr} {vs : List Value} {Q : Value → Shared → Prop} (hu : A.units + 8 < cLine) (hl : s.heap.IsList l vs.toArray) (h64 : vs.length < 64) (x : ∀ v ∈ vs, ∃ p, PairAt s.heap v p ∧ EntP p)
    (h : ∀ out : Array Value, out.toList.Perm vs → out.toList.Pairwise (fun u v => rkP (pairOf s.heap u) ≤ rkP (pairOf s.heap v)) → Q (.ref (s.heap.objs.size + 1)) { s with heap := sortedAll s.heap vs out }) :
    wpAny (model prog w) A (call (.builtin "sorted") [.ref l]) Q E s := by
  refine Calls.call_function_entry kind_sorted plain_sorted entry_sorted (args_sorted1 _) ?_
  unfold Builtin.«sorted»
  refine wpAny_bind (m := checkCount "sorted" 1 1 _) (wpAny_pure ?_)
  refine wpAny_bind (collect_list hl ?_ (by rw [sizeLine_eq]; omega))
  refine wpAny_bind (wpAny_newList ?_ (by rw [sizeLine_eq]; omega))
  have hsz : ((s.heap.push (seqObj "list" #[] 0)).update s.heap.objs.size (Obj.mapSeq (· ++ vs.toArray))).objs.size = s.heap.objs.size + 1 := by
    rw [Heap.size_update, size_push']
  have hoL : (((s.heap.push (seqObj "list" #[] 0)).update s.heap.objs.size (Obj.mapSeq (· ++ vs.toArray))).push (seqObj "list" vs.toArray 0)).get? (s.heap.objs.size + 1) = some (seqObj "list" vs.toArray 0) := by
    rw [← hsz]; exact Heap.get?_push_size _ rfl
  have keep : ∀ b o, s.heap.get? b = some o → o.cls = .type "tuple" → (((s.heap.push (seqObj "list" #[] 0)).update s.heap.objs.size (Obj.mapSeq (· ++ vs.toArray))).push (seqObj "list" vs.toArray 0)).get? b = some o := fun b o q _ => by
    have hlt : b < s.heap.objs.size := Heap.lt_size q
    rw [Heap.get?_push_ne _ _ _ (by rw [hsz]; exact Nat.ne_of_lt (Nat.lt_succ_of_lt hlt)), Heap.get?_update_ne _ _ _ _ (Nat.ne_of_lt hlt), Heap.get?_push_ne _ _ _ (Nat.ne_of_lt hlt)]
    exact q
  show wpAny _ _ _ _ _ { s with heap := ((s.heap.push (seqObj "list" #[] 0)).update s.heap.objs.size (Obj.mapSeq (· ++ vs.toArray))).push (seqObj "list" vs.toArray 0) }
  rw [hsz]
  refine wpAny_bind (wpAny_holding (wpAny_call_entry slot_list_sort ⟨_, hoL, rfl⟩ entry_list_sort (sort_pairs (by first | (simp only [in1_units]; omega) | (show _ < cLine; simp; omega)) hoL h64 (fun v hv => ?_) fun out a1 a2 => ⟨_, rfl, ?_⟩) (args_list_sort _)))
  · obtain ⟨p, hp, he⟩ := x v hv
    exact ⟨p, hp.keeps keep, he⟩
  · refine wpAny_pure ⟨_, rfl, h out a1 (a2.imp_of_mem fun {u v} hu hv hle => ?_)⟩
    obtain ⟨p, hp, _⟩ := x u (a1.mem_iff.mp hu)
    obtain ⟨q, hq, _⟩ := x v (a1.mem_iff.mp hv)
    rw [pairOf_eq hp, pairOf_eq hq]
    rw [pairOf_eq (hp.keeps keep), pairOf_eq (hq.keeps keep)] at hle
    exact hle
end
end TSS
namespace L2
open PySem PySem.Spec PyProof.Rows
section
variable {X : Cx}
/-- a value is a pair -/
def PairTIS (K : PySem.W.Frag) (H : Hp) (x : V) (p : Str × Int) : Prop := ∃ a, x = .ref a ∧ SqT K H a [.str p.1, .int p.2]
theorem pair_rawS {pins : List (Addr × Obj)} {s : Shared} {σ : St} {H : Hp} (I : Inv X pins σ H s) {a : Addr} {p : Str × Int} (h1 : SqT X.K H a [.str p.1, .int p.2]) : TSS.PairAt s.heap (.ref a) p := by
  obtain ⟨its, rv, hT, _⟩ := I.tuple h1
  cases rv with
  | cons r1 rv =>
    cases rv with
    | cons r2 rv =>
      cases rv
      obtain ⟨t, rfl⟩ := r1
      obtain ⟨u, rfl⟩ := r2
      exact ⟨a, _, t, u, rfl, hT, rfl⟩
def rSortPS (K : PySem.W.Frag) : List V → Hp → VK → Prop := fun vs H Q => ∃ (a : Addr) (xs : List V), vs = [V.ref a] ∧ SqL K H a xs ∧ xs.length < 64 ∧ (∀ x ∈ xs, ∃ p, PairTIS K H x p ∧ TSS.EntP p) ∧
  ∀ (ys : List V) (p : Addr), ys.Perm xs → ys.Pairwise (fun x y => ∀ n m, PairTIS K H x n → PairTIS K H y m → TSS.rkP n ≤ TSS.rkP m) → H p = none → Q (.ref p) (upd H p (.lst ys))
theorem cr_sortPS (hu : X.A.units + 64 < cLine) : CallR X (.builtin "sorted") (rSortPS X.K) := by
  intro pins s σ H vs us Q I r h
  obtain ⟨a, xs, rfl, hs, h64, hx, q⟩ := h
  obtain ⟨its, rv, hl, hz⟩ := I.list hs
  rw [Vals.ref1 r]
  obtain ⟨e1, e2⟩ := bkV_refs rv fun x m => by
    obtain ⟨p, ⟨t, e, _⟩, _⟩ := hx x m
    exact ⟨t, e⟩
  refine TSS.sorted_pairs (by omega) hl.isList (by rw [← rv.length]; exact h64) (fun v hv => ?_) fun out h1 h2 => ?_
  · obtain ⟨t, rfl⟩ := e2 v hv
    have hm : V.ref t ∈ xs := by
      rw [e1]
      exact List.mem_map.mpr ⟨_, hv, rfl⟩
    obtain ⟨p, ⟨t', e, g1⟩, he⟩ := hx _ hm
    cases e
    exact ⟨p, pair_rawS I g1, he⟩
  · obtain ⟨ep, he'⟩ := PyProof.Rows.sortedAll_at s.heap its out
    have h3 : ∀ u ∈ out.toList, ∃ a, u = Value.ref a := fun u hu => e2 u (h1.mem_iff.mp hu)
    have hp : (out.toList.map bkV).Perm xs := by
      rw [e1]
      exact h1.map bkV
    have hlen : (out.toList.map bkV).length ≤ sizeLine := by
      rw [hp.length_eq]
      exact hz
    refine ⟨.ref _, upd H (s.heap.objs.size + 1) (.lst (out.toList.map bkV)), I.laid (t' := s.toks) (fun _ _ => PyProof.Rows.sortedAll_old) (Nat.le_succ _) ⟨hlen, out.toList, ep, bkV_vals h3, he'⟩, rfl, q _ _ hp ?_ (I.hok.fresh (Nat.le_succ _))⟩
    rw [List.pairwise_map]
    refine List.Pairwise.imp (fun {u v} huv n m hn hm => ?_) h2
    obtain ⟨t, et, g1⟩ := hn
    obtain ⟨t', et', g1'⟩ := hm
    have eu := bkV_ref et
    have ev := bkV_ref et'
    rw [eu, ev, TSS.pairOf_eq (pair_rawS I g1), TSS.pairOf_eq (pair_rawS I g1')] at huv
    exact huv
end
end L2
namespace T3
open PySem PySem.Spec PyProof.Rows L2
/-- a pair of a tuple of ints and an int -/
def pS (p : Str × Int) : D := .tup [.str p.1, .int p.2]
theorem pI_atS {K : PySem.W.Frag} {H : Hp} {p : Str × Int} {v : V} (r : R K H (pS p) v) : PairTIS K H v p := by
  obtain ⟨a, vs, rfl, s, rs⟩ := R.untup r
  obtain ⟨v1, v2, rfl, r1, r2⟩ := rs.two_
  rw [r1.str_, r2.int_] at s
  exact ⟨a, rfl, SqT.of s⟩
theorem rp_permS {K : PySem.W.Frag} {H : Hp} {us ys : List V} (p : us.Perm ys) : ∀ L : List (Str × Int), Rs K H (L.map pS) us → ∃ L' : List (Str × Int), L'.Perm L ∧ Rs K H (L'.map pS) ys := by
  induction p with
  | nil => exact fun L h => ⟨L, .refl _, h⟩
  | cons x p ih =>
    intro L h
    cases L with
    | nil => have := h.unil; cases this
    | cons l L =>
      obtain ⟨v, us', e, r, rs⟩ := Rs.ucons (show Rs K H (pS l :: L.map pS) _ from h)
      cases e
      obtain ⟨L', pl, h'⟩ := ih L rs
      exact ⟨l :: L', pl.cons l, .cons r h'⟩
  | swap x y l =>
    intro L h
    cases L with
    | nil => have := h.unil; cases this
    | cons a L =>
      obtain ⟨v, us', e, r, rs⟩ := Rs.ucons (show Rs K H (pS a :: L.map pS) _ from h)
      cases e
      cases L with
      | nil => have := rs.unil; cases this
      | cons b L =>
        obtain ⟨v2, us2, e, r2, rs2⟩ := Rs.ucons (show Rs K H (pS b :: L.map pS) _ from rs)
        cases e
        exact ⟨b :: a :: L, .swap a b L, .cons r2 (.cons r rs2)⟩
  | trans p q ih1 ih2 =>
    intro L h
    obtain ⟨L1, p1, h1⟩ := ih1 L h
    obtain ⟨L2, p2, h2⟩ := ih2 L1 h1
    exact ⟨L2, p2.trans p1, h2⟩
theorem rp_memS {K : PySem.W.Frag} {H : Hp} {m : Str × Int} : ∀ {L : List (Str × Int)} {us : List V}, Rs K H (L.map pS) us → m ∈ L → ∃ u ∈ us, R K H (pS m) u
  | [], _, _, h => by simp at h
  | a :: L, us, h, hm => by
    obtain ⟨v, us', e, r, rs⟩ := Rs.ucons (show Rs K H (pS a :: L.map pS) _ from h)
    subst e
    rcases List.mem_cons.mp hm with rfl | hm
    · exact ⟨v, by simp, r⟩
    · obtain ⟨u, hu, ru⟩ := rp_memS rs hm
      exact ⟨u, by simp [hu], ru⟩
theorem rp_pairS {K : PySem.W.Frag} {H : Hp} {P : Str × Int → Str × Int → Prop} : ∀ {L : List (Str × Int)} {ys : List V}, Rs K H (L.map pS) ys → ys.Pairwise (fun x y => ∀ n m, PairTIS K H x n → PairTIS K H y m → P n m) → L.Pairwise P
  | [], _, _, _ => .nil
  | l :: L, ys, h, hp => by
    obtain ⟨v, us', e, r, rs⟩ := Rs.ucons (show Rs K H (pS l :: L.map pS) _ from h)
    subst e
    rw [List.pairwise_cons] at hp
    refine List.pairwise_cons.mpr ⟨fun m hm => ?_, rp_pairS rs hp.2⟩
    obtain ⟨u, hu, ru⟩ := rp_memS rs hm
    exact hp.1 u hu l m (pI_atS r) (pI_atS ru)
theorem rp_allS {K : PySem.W.Frag} {H : Hp} {P : Str × Int → Prop} : ∀ {L : List (Str × Int)} {us : List V}, Rs K H (L.map pS) us → (∀ l ∈ L, P l) → ∀ u ∈ us, ∃ p, PairTIS K H u p ∧ P p
  | [], us, h, _ => fun u hu => by rw [h.unil] at hu; simp at hu
  | l :: L, us, h, hp => fun u hu => by
    obtain ⟨v, us', e, r, rs⟩ := Rs.ucons (show Rs K H (pS l :: L.map pS) _ from h)
    subst e
    rcases List.mem_cons.mp hu with rfl | hu
    · exact ⟨l, pI_atS r, hp l (by simp)⟩
    · exact rp_allS rs (fun m hm => hp m (by simp [hm])) u hu
section
variable {X : Cx}
def dSortPS : D → Hd → DK → Prop := fun x M Q => match x with
  | .ref p => ∃ L : List (Str × Int), LS M p (L.map pS) ∧ L.length < 64 ∧ (∀ l ∈ L, TSS.EntP l) ∧ ∀ L' : List (Str × Int), L'.Perm L → L'.Pairwise (fun m n => TSS.rkP m ≤ TSS.rkP n) → ∀ q, M q = none → Q (.ref q) (up M q (.lst (L'.map pS)))
  | _ => False
theorem cd_sortPS (hu : X.A.units + 64 < cLine) : CallD X (.builtin "sorted") (d1 dSortPS) := by
  refine ⟨_, cr_sortPS hu, fun H M xs vs Q Qd rep rs h q => ?_⟩
  obtain ⟨x, rfl, h⟩ := d1_inv h
  obtain ⟨v, rfl, r⟩ := rs.one_
  cases x with
  | ref p =>
    rw [r.ref_]
    obtain ⟨L, l, h64, hl, h⟩ := h
    obtain ⟨us, s, rs'⟩ := rep.ls l
    have e := rs'.len
    rw [List.length_map] at e
    refine ⟨p, us, rfl, s, by omega, rp_allS rs' hl, fun ys a hp hpw ha => ?_⟩
    obtain ⟨L', pl, rs2⟩ := rp_permS hp.symm L rs'
    obtain ⟨g, rep'⟩ := rep.newL ha rs2
    exact q _ _ _ _ g rep' R.ref' (h L' pl (rp_pairS rs2 hpw) a (rep.free ha))
  | _ => exact h.elim
end
end T3
/-! sorted of a list of alike data (ints, texts, tuples of these, nested), of any length -/
/-! tuples, some of them empty -/
namespace PySem.SeqAt
open AutoSeq1 (wpAny_loadPart')
open MeetsSeq MeetsSeq2 MeetsSeq3 SeqRoads2
section
variable {A : Around} {s : Shared}
theorem call_tuple_lt3 {prog : Program} {w : World} {E : Value → Shared → Prop} {Q : Value → Shared → Prop} {l b : Addr} {items items2 : Array Value} {e r : Nat → Bool} (hl : s.heap.IsTuple l items) (hb : s.heap.IsTuple b items2)
    (he : ∀ j (h1 : j < items.size) (h2 : j < items2.size), EqAt A.in1 s items[j] items2[j] (e j)) (hr : ∀ j (h1 : j < items.size) (h2 : j < items2.size), e j = false → RcLt A.in1 s items[j] items2[j] (r j))
    (h : Q (.bool (firstLt e r (decide (items.size < items2.size)) (List.range (min items.size items2.size)))) s) : wpAny (model prog w) A (call (.builtin "tuple.__lt__") [.ref l, .ref b]) Q E s := by
  obtain ⟨⟨cls, dd, data, sl⟩, ho, hc, n, hd⟩ := id hl
  obtain ⟨⟨cls2, dd2, data2, sl2⟩, ho2, hc2, n2, hd2⟩ := id hb
  simp only at hc hd hc2 hd2
  subst hc hd hc2 hd2
  exact call_meets F.slot_tuple_lt ⟨_, ho, rfl⟩ F.entry_tuple_lt (F.args_tuple_lt_2 _ _) (tuple_ltAt l b items items2 n n2 dd dd2 sl sl2 e r) ⟨ho, ho2, he, hr, h⟩
end
end PySem.SeqAt
namespace PySem.W
open PySem PySem.SeqAt PyProof.Rows
section
variable {prog : Program} {w : World} {A : Around} {E : Value → Shared → Prop} {s : Shared}
theorem oneLt_tup3 {xs ys : List PyData} {a b : Value} {as bs : List Addr} {Q : Bool → Shared → Prop} (ra : Reads s.heap a (.tuple xs) as) (rb : Reads s.heap b (.tuple ys) bs) (h : alike (.tuple xs) (.tuple ys) = true)
    (hu : A.units + min (PyData.tuple xs).depth (PyData.tuple ys).depth < cLine) (hq : Q (dataLt (.tuple xs) (.tuple ys)) s) : wpAny (model prog w) A (oneLt' true a b) Q E s := by
  have hal : alikeAll xs ys = true := by simpa [alike] using h
  cases ra with
  | @tuple l o vs n _ as₁ h1 h2 h3 h4 =>
    cases rb with
    | @tuple l' o' vs' n' _ bs₁ k1 k2 k3 k4 =>
      have n1 : vs.size = xs.length := by simpa using ReadsAll.length _ _ _ h4
      have n2 : vs'.size = ys.length := by simpa using ReadsAll.length _ _ _ k4
      rw [dataLt_tuple, ← firstLt_toks xs ys hal, ← n1, ← n2] at hq
      rw [oneLt'_eq]
      simp only [if_true]
      refine wpAny_bind (wpAny_cRoomFor (room_here hu) ?_)
      refine wpAny_bind (wpAny_callSpecialIfBound?_slot (T := "tuple") ⟨_, h1, h2⟩ F.slot_tuple_lt (call_tuple_lt3 (e := pairEq xs ys) (r := fun j => dataLt (xs.getD j .none) (ys.getD j .none)) ⟨_, h1, h2, _, h3⟩ ⟨_, k1, k2, _, k3⟩ (fun j j1 j2 => ?_) (fun j j1 j2 hj => ?_) ?_))
      · have := eqAt_alikeAll xs ys A.in1 s vs.toList vs'.toList _ _ h4 k4 hal (room_in hu) j (by simpa using j1) (by simpa using j2)
        simpa using this
      · have := rcLt_alikeAll xs ys A.in1 s vs.toList vs'.toList _ _ h4 k4 hal (room_in hu) j (by simpa using j1) (by simpa using j2) hj
        simpa using this
      · exact wpAny_truthy_bool hq
/-- tuples, and the first item of each -/
def KatTups3 (h : Heap) : List Value → List (Option Value) → Prop
  | [], [] => True
  | v :: vs, f :: fs => (∃ a o xs n, v = .ref a ∧ h.get? a = some o ∧ o.cls = .type "tuple" ∧ o.data = .seq xs n ∧ xs[0]? = f) ∧ KatTups3 h vs fs
  | _, _ => False
theorem kat_firsts3 {M : Model} : ∀ (vs : List Value) (fs : List (Option Value)) {Q : List (Option Value) → Shared → Prop}, KatTups3 s.heap vs fs → Q fs s → wpAny M A (vs.mapM firstOfTuple') Q E s
  | [], [], _, _, h => by rw [List.mapM_nil]; exact wpAny_pure h
  | [], _ :: _, _, t, _ => t.elim
  | _ :: _, [], _, t, _ => t.elim
  | v :: vs, f :: fs, Q, t, h => by
    obtain ⟨⟨a, o, xs, n, rfl, ho, hc, hd, hf⟩, t⟩ := t
    rw [List.mapM_cons]
    refine wpAny_bind ?_
    rw [kas_first_eq]
    refine wpAny_bind (Looks.here (show Looks M s.heap (typeOf (.ref a)) o.cls from (Looks.ld ho).andThen .now) ?_)
    rw [hc, if_neg (by first | decide | simp)]
    refine wpAny_bind (listItems_at ho hd (wpAny_pure ?_))
    rw [hf]
    exact wpAny_bind (kat_firsts3 vs fs (Q := fun bs s' => wpAny M A (pure (f :: bs)) Q E s') t (wpAny_pure h))
theorem each_tups3 {h : Heap} : ∀ {vs : List Value} {ds : List PyData}, EachIs (fun v d => ∃ as, Reads h v d as) vs ds → (∀ d, d ∈ ds → ∃ xs, d = .tuple xs) → ∃ fs, KatTups3 h vs fs ∧ fs.length = vs.length ∧ ∀ i : Nat, (∀ x r, ds[i]? = some (.tuple (x :: r)) → ∃ f, fs[i]? = some (some f)) ∧ (ds[i]? = some (.tuple []) → fs[i]? = some none)
  | _, _, .nil, _ => ⟨[], trivial, rfl, fun i => ⟨fun x r e => (by cases e), fun e => (by cases e)⟩⟩
  | _, _, .cons (b := d) ⟨as, r⟩ t, ht => by
    obtain ⟨fs, h1, h2, h3⟩ := each_tups3 t fun d hd => ht d (List.mem_cons_of_mem _ hd)
    obtain ⟨xs, rfl⟩ := ht d (List.mem_cons_self ..)
    cases r with
    | @tuple a o vs n _ _ ho hc hd hr =>
      refine ⟨vs[0]? :: fs, ⟨⟨a, o, vs, n, rfl, ho, hc, hd, rfl⟩, h1⟩, by rw [List.length_cons, List.length_cons, h2], fun i => ?_⟩
      cases i with
      | zero =>
        refine ⟨fun x r e => ?_, fun e => ?_⟩
        · simp at e
          subst e
          cases q : vs.toList with
          | nil => rw [q] at hr; cases hr
          | cons f fr => exact ⟨f, by rw [List.getElem?_cons_zero, ← Array.getElem?_toList, q]; rfl⟩
        · simp at e
          subst e
          cases q : vs.toList with
          | nil => rw [List.getElem?_cons_zero, ← Array.getElem?_toList, q]; rfl
          | cons f fr => rw [q] at hr; cases hr
      | succ i => exact ⟨fun x r e => (h3 i).1 x r (by simpa using e), fun e => (h3 i).2 (by simpa using e)⟩
/-- all are tuples, one of them is empty -/
def Sortable0 (ds : List PyData) : Prop := (∀ d, d ∈ ds → ∃ xs, d = .tuple xs) ∧ .tuple [] ∈ ds
theorem SortsAt.tup0 {vs : List Value} {ds : List PyData} (e : EachIs (fun v d => ∃ as, Reads s.heap v d as) vs ds) (hal : AllAlike ds) (hk : Sortable0 ds) (hu : ∀ d, d ∈ ds → A.units + d.depth < cLine) : SortsAt prog w A s (dataKind s.heap ds) vs := by
  have room : ∀ {d d' : PyData}, d ∈ ds → A.units + min d.depth d'.depth < cLine := fun {d d'} hd => Nat.lt_of_le_of_lt (Nat.add_le_add_left (Nat.min_le_left _ _) _) (hu d hd)
  obtain ⟨ht, h0⟩ := hk
  refine ⟨fun v hv => ?_, ?_⟩
  · obtain ⟨d, hd, as, r⟩ := e.left v hv
    exact ⟨_, dataKind_some hal hd r⟩
  · obtain ⟨fs, f1, f2, f3⟩ := each_tups3 e ht
    have hl := e.length
    obtain ⟨j, hj⟩ := List.getElem?_of_mem h0
    have nall : ¬ fs.toArray.all (fun x => x.isSome) = true := by
      simp only [List.all_toArray, List.all_eq_true]
      intro z
      have := z none (List.mem_of_getElem? ((f3 j).2 hj))
      cases this
    have types : ∀ v ∈ vs, Looks (model prog w) s.heap (typeOf v) (.type "tuple") := fun v hv => by
      obtain ⟨d, hd, as, r⟩ := e.left v hv
      obtain ⟨xs, rfl⟩ := ht d hd
      exact looks_reads r
    cases q : fs[0]? with
    | none =>
      refine ⟨general', fun E x y a b Q ha _ _ => ?_, fun h2 => ?_⟩
      · obtain ⟨d, _, hd, _⟩ := dataKind_inv ha
        have : 0 < fs.length := by
          have := List.length_pos_of_mem hd
          omega
        rw [List.getElem?_eq_getElem this] at q
        cases q
      · have : 0 < fs.length := by omega
        rw [List.getElem?_eq_getElem this] at q
        cases q
    | some f0 =>
      cases f0 with
      | some f0 =>
        refine ⟨general', ?_, fun h2 E Q hq => ?_⟩
        · intro E x y a b Q ha hb hq
          obtain ⟨d, as, hd, ra, rfl⟩ := dataKind_inv ha
          obtain ⟨d', as', hd', rb, rfl⟩ := dataKind_inv hb
          obtain ⟨xs, rfl⟩ := ht d hd
          exact oneLt_alike (f := false) (fun z => by cases z) ra rb (hal _ hd _ hd') (fun z => by cases z) (room hd) hq
        · rw [keyKind'_eq, List.mapM_toArray, map_eq_pure_bind]
          refine wpAny_bind (wpAny_bind (kat_firsts3 vs _ f1 (wpAny_pure ?_)))
          rw [if_neg nall]
          have : (fs.toArray[0]?.bind id).isSome = true := by
            have : fs.toArray[0]? = some (some f0) := by rw [← q]; simp
            rw [this]; rfl
          rw [if_pos this]
          exact wpAny_pure hq
      | none =>
        refine ⟨oneType', ?_, fun h2 E Q hq => ?_⟩
        · intro E x y a b Q ha hb hq
          obtain ⟨d, as, hd, ra, rfl⟩ := dataKind_inv ha
          obtain ⟨d', as', hd', rb, rfl⟩ := dataKind_inv hb
          have hx := hal _ hd _ hd'
          obtain ⟨xs, rfl⟩ := ht d hd
          obtain ⟨ys, rfl⟩ := ht d' hd'
          rw [keyLt'_oneType]
          exact oneLt_tup3 ra rb hx (room hd) hq
        · rw [keyKind'_eq, List.mapM_toArray, map_eq_pure_bind]
          refine wpAny_bind (wpAny_bind (kat_firsts3 vs _ f1 (wpAny_pure ?_)))
          rw [if_neg nall]
          have : ¬ (fs.toArray[0]?.bind id).isSome = true := by
            have : fs.toArray[0]? = some none := by rw [← q]; simp
            rw [this]; simp
          rw [if_neg this]
          obtain ⟨v₁, v₂, rest, rfl⟩ : ∃ v₁ v₂ rest, vs = v₁ :: v₂ :: rest := by
            match vs, h2 with
            | [], h2 => simp at h2
            | [_], h2 => simp at h2
            | v₁ :: v₂ :: rest, _ => exact ⟨v₁, v₂, rest, rfl⟩
          rw [oneTypeOnly'_eq, List.mapM_toArray, map_eq_pure_bind]
          refine wpAny_bind (wpAny_bind (wpAny_bind (kas_mapM (r := Value.type "tuple") _ (fun v hv Q' hq => (types v hv).here hq) (wpAny_pure ?_))))
          have hall : ((List.map (fun _ => Value.type "tuple") (v₁ :: v₂ :: rest)).toArray.all fun x => x == Value.type "tuple") = true := by
            simp only [List.all_toArray, List.all_map, List.all_eq_true]
            intro _ _
            exact beq_self_eq_true _
          have h00 : (List.map (fun _ => Value.type "tuple") (v₁ :: v₂ :: rest)).toArray[0]? = some (Value.type "tuple") := by simp
          rw [h00]
          simp only [hall, if_true]
          exact wpAny_pure (wpAny_pure hq)
theorem SortsAt.data3 {vs : List Value} {ds : List PyData} (e : EachIs (fun v d => ∃ as, Reads s.heap v d as) vs ds) (hal : AllAlike ds) (hk : Sortable ds ∨ Sortable0 ds) (hu : ∀ d, d ∈ ds → A.units + d.depth < cLine) : SortsAt prog w A s (dataKind s.heap ds) vs :=
  hk.elim (fun h => SortsAt.data e hal h hu) fun h => SortsAt.tup0 e hal h hu
end
end PySem.W
namespace L2
open PySem PySem.Spec PyProof.Rows
/-- Python's order of things by data that are alike -/
def leA {β : Type} (d : β → PyData) (b c : β) : Bool := !PySem.W.dataLt (d c) (d b)
def rSortA (K : PySem.W.Frag) : List V → Hp → VK → Prop := fun vs H Q => ∃ (β : Type) (a : Addr) (bs : List β) (v : β → V) (d : β → PyData), vs = [V.ref a] ∧ SqL K H a (bs.map v) ∧ (∀ b ∈ bs, Dp K H (v b) (d b)) ∧ PySem.W.AllAlike (bs.map d) ∧ (PySem.W.Sortable (bs.map d) ∨ PySem.W.Sortable0 (bs.map d)) ∧ (∀ b ∈ bs, (d b).depth ≤ 40) ∧
  ∀ p, H p = none → Q (.ref p) (upd H p (.lst ((bs.mergeSort (leA d)).map v)))
theorem each_vals {β : Type} {v : β → V} {P : β → Value → Prop} : ∀ {bs : List β} {us : List Value}, Vals (bs.map v) us → (∀ b ∈ bs, ∀ u, RelV (v b) u → P b u) → PySem.W.EachIs (fun u b => RelV (v b) u ∧ P b u) us bs
  | [], us, r, _ => by
    cases r
    exact .nil
  | b :: bs, us, r, h => by
    cases r with
    | cons r1 r2 => exact .cons ⟨r1, h b (by simp) _ r1⟩ (each_vals r2 fun c hc => h c (by simp [hc]))
theorem vals_each {β : Type} {v : β → V} {P : β → Value → Prop} {bs : List β} {us : List Value} (h : PySem.W.EachIs (fun u b => RelV (v b) u ∧ P b u) us bs) : Vals (bs.map v) us := by
  induction h with
  | nil => exact .nil
  | cons h1 _ ih => exact .cons h1.1 ih
theorem each_map {α β γ : Type} {R : α → γ → Prop} (f : β → γ) : ∀ {as : List α} {bs : List β}, PySem.W.EachIs (fun a b => R a (f b)) as bs → PySem.W.EachIs R as (bs.map f)
  | _, _, .nil => .nil
  | _, _, .cons h t => .cons h (each_map f t)
theorem each_and {α β : Type} {R S : α → β → Prop} : ∀ {as : List α} {bs : List β}, PySem.W.EachIs (fun a b => R a b ∧ S a b) as bs → PySem.W.EachIs S as bs
  | _, _, .nil => .nil
  | _, _, .cons h t => .cons h.2 (each_and t)
section
variable {X : Cx}
theorem cr_sortA (hu : X.A.units + 64 < cLine) : CallR X (.builtin "sorted") (rSortA X.K) := by
  intro pins s σ H vs us Q I r h
  obtain ⟨β, a, bs, v, d, rfl, hs, hd, hal, hso, hdep, q⟩ := h
  obtain ⟨its, rv, hl, hz⟩ := I.list hs
  rw [Vals.ref1 r]
  have I1 : Inv X pins σ H { s with heap := PySem.W.sortingHeap (PySem.W.copyHeap s.heap its) (s.heap.objs.size + 1) its } := I.kept fun b o e => PySem.W.sorting_copy_old e
  have e1 : PySem.W.EachIs (fun u b => RelV (v b) u ∧ ∃ as, Reads (PySem.W.sortingHeap (PySem.W.copyHeap s.heap its) (s.heap.objs.size + 1) its) u (d b) as) its bs :=
    each_vals (P := fun b u => ∃ as, Reads (PySem.W.sortingHeap (PySem.W.copyHeap s.heap its) (s.heap.objs.size + 1) its) u (d b) as) rv fun b hb u ru => Dp.reads I1 (d b) (v b) u (hd b hb) ru
  have e2 : PySem.W.EachIs (fun u c => ∃ as, Reads (PySem.W.sortingHeap (PySem.W.copyHeap s.heap its) (s.heap.objs.size + 1) its) u c as) its (bs.map d) := each_map d (each_and e1)
  have hlen : its.length ≤ sizeLine := by rw [← rv.length]; exact hz
  refine PySem.W.sorted_vals (κ := PySem.W.dataKind (PySem.W.sortingHeap (PySem.W.copyHeap s.heap its) (s.heap.objs.size + 1) its) (bs.map d)) hl.isList (PySem.W.SortsAt.data3 e2 hal hso fun c hc => ?_) hlen ?_
  · obtain ⟨b, hb, rfl⟩ := List.mem_map.mp hc
    have := hdep b hb
    first | (simp only [in1_units]; omega) | (simp; omega) | (show _ < cLine; simp; omega)
  · have e3 := PySem.W.sortVals_each (κ := PySem.W.dataKind (PySem.W.sortingHeap (PySem.W.copyHeap s.heap its) (s.heap.objs.size + 1) its) (bs.map d)) (rev := false) (ks := its) (fun b => PySem.W.keyToks (d b)) e1 ?_
    · have rv2 := vals_each e3
      obtain ⟨ep, he'⟩ := PyProof.Rows.sortedAll_at s.heap its (PySem.W.sortVals (PySem.W.dataKind (PySem.W.sortingHeap (PySem.W.copyHeap s.heap its) (s.heap.objs.size + 1) its) (bs.map d)) false its its).toArray
      refine ⟨.ref _, upd H (s.heap.objs.size + 1) (.lst ((bs.mergeSort (leA d)).map v)), I.laid (t' := s.toks) (fun _ _ => PyProof.Rows.sortedAll_old) (Nat.le_succ _) ⟨?_, _, ep, rv2, by rw [he']⟩, rfl, q _ (I.hok.fresh (Nat.le_succ _))⟩
      rw [List.length_map, List.length_mergeSort]
      have := rv.length
      rw [List.length_map] at this
      omega
    · have go : ∀ {us : List Value} {cs : List β}, PySem.W.EachIs (fun u b => RelV (v b) u ∧ ∃ as, Reads (PySem.W.sortingHeap (PySem.W.copyHeap s.heap its) (s.heap.objs.size + 1) its) u (d b) as) us cs → (∀ c ∈ cs, d c ∈ bs.map d) → PySem.W.EachIs (fun u b => (PySem.W.dataKind (PySem.W.sortingHeap (PySem.W.copyHeap s.heap its) (s.heap.objs.size + 1) its) (bs.map d)).keyOf u = some (PySem.W.keyToks (d b))) us cs := by
        intro us cs h
        induction h with
        | nil => exact fun _ => .nil
        | cons h1 _ ih =>
          intro hm
          obtain ⟨_, as, r⟩ := h1
          exact .cons (PySem.W.dataKind_some hal (hm _ (by simp)) r) (ih fun c hc => hm c (by simp [hc]))
      exact go e1 fun c hc => List.mem_map.mpr ⟨c, hc, rfl⟩
end
end L2
namespace T3
open PySem PySem.Spec PyProof.Rows L2
section
variable {X : Cx}
theorem rs_zip {K : PySem.W.Frag} {H : Hp} {α : Type} {f : α → D} : ∀ {L : List α} {us : List V}, Rs K H (L.map f) us → ∀ p ∈ L.zip us, R K H (f p.1) p.2 ∧ p.1 ∈ L
  | [], us, h => fun p hp => by simp at hp
  | l :: L, us, h => fun p hp => by
    obtain ⟨v, us', e, r, rs⟩ := Rs.ucons (show Rs K H (f l :: L.map f) _ from h)
    subst e
    rw [List.zip_cons_cons] at hp
    rcases List.mem_cons.mp hp with rfl | hp
    · exact ⟨r, by simp⟩
    · obtain ⟨a, b⟩ := rs_zip rs p hp
      exact ⟨a, by simp [b]⟩
theorem rs_of {K : PySem.W.Frag} {H : Hp} {α : Type} {f : α → D} : ∀ {zs : List (α × V)}, (∀ p ∈ zs, R K H (f p.1) p.2) → Rs K H ((zs.map Prod.fst).map f) (zs.map Prod.snd)
  | [], _ => .nil
  | z :: zs, h => .cons (h z (by simp)) (rs_of fun p hp => h p (by simp [hp]))
end
/-! ### the order of tuples -/
/-- what the order of the data g a is -/
structure LikeLt {α : Type} [DecidableEq α] (f : α → D) (g : α → PyData) (k : Nat) (lt : α → α → Bool) : Prop extends Like f g k where
  al : ∀ a b, PySem.W.alike (g a) (g b) = true
  lt : ∀ a b, PySem.W.dataLt (g a) (g b) = lt a b
/-- lists, sign by sign -/
def lexB {α : Type} [DecidableEq α] (lt : α → α → Bool) : List α → List α → Bool
  | _, [] => false
  | [], _ :: _ => true
  | a :: l, b :: m => if a = b then lexB lt l m else lt a b
theorem toks_nil (ys : List PyData) : PyProof.Rows.lexLt PyProof.Rows.itemOrd (PySem.W.keyToksAll []) (PySem.W.keyToksAll ys) = !ys.isEmpty := by
  cases ys with
  | nil => exact PyProof.Rows.lex_irrefl (O := PyProof.Rows.itemOrd) _
  | cons y ys =>
    rw [PySem.W.toks_all_cons]
    unfold PySem.W.keyToksAll
    rfl
theorem toks_nil2 (x : PyData) (xs : List PyData) : PyProof.Rows.lexLt PyProof.Rows.itemOrd (PySem.W.keyToksAll (x :: xs)) (PySem.W.keyToksAll []) = false := by
  rw [PySem.W.toks_all_cons]
  unfold PySem.W.keyToksAll
  rfl
theorem LikeLt.all {α : Type} [DecidableEq α] {f : α → D} {g : α → PyData} {k : Nat} {lt : α → α → Bool} (h : LikeLt f g k lt) : ∀ l m : List α, PyProof.Rows.lexLt PyProof.Rows.itemOrd (PySem.W.keyToksAll (l.map g)) (PySem.W.keyToksAll (m.map g)) = lexB lt l m
  | [], [] => toks_nil []
  | [], b :: m => toks_nil _
  | a :: l, [] => toks_nil2 _ _
  | a :: l, b :: m => by
    have ih := LikeLt.all h l m
    rw [List.map_cons, List.map_cons]
    show _ = if a = b then lexB lt l m else lt a b
    by_cases e : a = b
    · rw [if_pos e, PySem.W.dataLt_all_yes (h.al a b) (by rw [h.eqv, decide_eq_true e]), ih]
    · rw [if_neg e, PySem.W.dataLt_all_no (h.al a b) (by rw [h.eqv, decide_eq_false e]), h.lt]
theorem LikeLt.tup {α : Type} [DecidableEq α] {f : α → D} {g : α → PyData} {k : Nat} {lt : α → α → Bool} (h : LikeLt f g k lt) : LikeLt (fun l : List α => D.tup (l.map f)) (fun l => PyData.tuple (l.map g)) (k + 1) (lexB lt) := by
  refine ⟨h.toLike.tup, fun l m => ?_, fun l m => ?_⟩
  · show PySem.W.alikeAll (l.map g) (m.map g) = true
    induction l generalizing m with
    | nil => cases m <;> rfl
    | cons a l ih =>
      cases m with
      | nil => rfl
      | cons b m =>
        show (PySem.W.alike (g a) (g b) && PySem.W.alikeAll (l.map g) (m.map g)) = true
        rw [h.al, ih]; rfl
  · rw [PySem.W.dataLt_tuple, h.all]
theorem ltl_int : LikeLt D.int PyData.int 0 (fun a b => decide (a < b)) := ⟨like_int, fun _ _ => rfl, fun a b => PySem.W.dataLt_int a b⟩
theorem ltl_n : LikeLt nD (fun n : Nat => PyData.int n) 0 (fun a b => decide (a < b)) := ⟨like_n, fun _ _ => rfl, fun a b => by rw [PySem.W.dataLt_int]; exact decide_eq_decide.mpr Int.ofNat_lt⟩
theorem ltl_row : LikeLt rwD (fun l : List Nat => PyData.tuple (l.map fun n : Nat => PyData.int n)) 1 (lexB fun a b => decide (a < b)) := ltl_n.tup
theorem ltl_plan : LikeLt plD (fun l : List (List Nat) => PyData.tuple (l.map fun r => PyData.tuple (r.map fun n : Nat => PyData.int n))) 2 (lexB (lexB fun a b => decide (a < b))) := ltl_row.tup
/-- sorted of a list of like things (none an empty tuple, or none a tuple) -/
def dSortA : D → Hd → DK → Prop := fun x M Q => match x with
  | .ref p => ∃ (α : Type) (de : DecidableEq α) (f : α → D) (g : α → PyData) (k : Nat) (lt : α → α → Bool) (L : List α), LikeLt f g k lt ∧ k ≤ 40 ∧ LS M p (L.map f) ∧ (PySem.W.Sortable (L.map g) ∨ PySem.W.Sortable0 (L.map g)) ∧ ∀ L' : List α, L'.Perm L → L'.Pairwise (fun a b => lt b a = false) → ∀ q, M q = none → Q (.ref q) (up M q (.lst (L'.map f)))
  | _ => False
section
variable {X : Cx}
theorem le_total {α : Type} (g : α → PyData) : PySem.W.TotalLe (leA g) := PySem.W.sortLe_total (PyProof.Rows.listOrd PyProof.Rows.itemOrd) false fun a => PySem.W.keyToks (g a)
theorem cd_sortA (hu : X.A.units + 64 < cLine) : CallD X (.builtin "sorted") (d1 dSortA) := by
  refine ⟨_, cr_sortA hu, fun H M xs vs Q Qd rep rs h q => ?_⟩
  obtain ⟨x, rfl, h⟩ := d1_inv h
  obtain ⟨v, rfl, r⟩ := rs.one_
  cases x with
  | ref p =>
    rw [r.ref_]
    obtain ⟨α, de, f, g, k, lt, L, hL, hk, l, hso, h⟩ := h
    obtain ⟨us, s, rs'⟩ := rep.ls l
    have e := rs'.len
    rw [List.length_map] at e
    have ez : (L.zip us).map Prod.snd = us := List.map_snd_zip (by omega)
    have ey : (L.zip us).map Prod.fst = L := List.map_fst_zip (by omega)
    have eg : (L.zip us).map (fun p => g p.1) = L.map g := by
      conv => rhs; rw [← ey, List.map_map]
      rfl
    refine ⟨α × V, p, L.zip us, Prod.snd, fun p => g p.1, rfl, by rw [ez]; exact s, fun b hb => ?_, ?_, by rw [eg]; exact hso, fun b hb => ?_, fun a ha => ?_⟩
    · obtain ⟨h1, h2⟩ := rs_zip rs' b hb
      exact Pd.dp rep _ _ _ (hL.pd M b.1) h1
    · rw [eg]
      intro d hd d' hd'
      obtain ⟨a, _, rfl⟩ := List.mem_map.mp hd
      obtain ⟨b, _, rfl⟩ := List.mem_map.mp hd'
      exact hL.al a b
    · exact Nat.le_trans (hL.dep _) hk
    · have em : ((L.zip us).mergeSort (leA fun p : α × V => g p.1)).map Prod.fst = L.mergeSort (leA g) := by
        rw [PySem.W.sort_maps (r := leA fun p : α × V => g p.1) (s := leA g) Prod.fst (fun _ _ _ _ => rfl), ey]
      have rs2 : Rs X.K H ((L.mergeSort (leA g)).map f) (((L.zip us).mergeSort (leA fun p : α × V => g p.1)).map Prod.snd) := by
        rw [← em]
        exact rs_of fun b hb => (rs_zip rs' b ((List.mergeSort_perm _ _).mem_iff.mp hb)).1
      obtain ⟨g', rep'⟩ := rep.newL ha rs2
      refine q _ _ _ _ g' rep' R.ref' (h _ (List.mergeSort_perm _ _) ((PySem.W.sort_pairwise (le_total g) L).imp fun {a b} hab => ?_) a (rep.free ha))
      unfold leA at hab
      rw [hL.lt, Bool.not_eq_true'] at hab
      exact hab
  | _ => exact h.elim
end
/-- tuples can be sorted -/
theorem sortable_tup {ds : List PyData} (h : ∀ d ∈ ds, ∃ xs, d = .tuple xs) : PySem.W.Sortable ds ∨ PySem.W.Sortable0 ds := by
  by_cases z : PyData.tuple [] ∈ ds
  · exact .inr ⟨h, z⟩
  · refine .inl (.inl fun d hd => ?_)
    obtain ⟨xs, rfl⟩ := h d hd
    cases xs with
    | nil => exact absurd hd z
    | cons x r => exact ⟨x, r, rfl⟩
end T3
/-! texts: upper(), list(text), text[::-1]; a dict display of one pair -/
namespace L2
open PySem PySem.Spec PyProof.Rows
theorem vals_signs : ∀ (l : List Nat) (us : List Value), us.length = l.length → (∀ (j : Nat) (v : Value), us[j]? = some v → ∃ (c : Nat) (u : Tok), l[j]? = some c ∧ v = Value.str ⟨#[c]⟩ u) → Vals (l.map fun c => V.str ⟨#[c]⟩) us
  | [], [], _, _ => .nil
  | [], _ :: _, h, _ => by simp at h
  | _ :: _, [], h, _ => by simp at h
  | c :: l, u :: us, h, k => by
    obtain ⟨c1, t, e1, e2⟩ := k 0 u rfl
    have e1 : c = c1 := Option.some.inj e1
    subst e1
    exact .cons ⟨t, e2⟩ (vals_signs l us (by simpa using h) fun j v e => k (j + 1) v e)
section
variable {X : Cx}
theorem call_list_txt (hc : X.calm = true) : CallR X (.type "list") (fun xs H Q => ∃ z : Str, xs = [.str z] ∧ z.length ≤ sizeLine ∧ ∀ p, H p = none → Q (.ref p) (upd H p (.lst (z.cps.toList.map fun c => V.str ⟨#[c]⟩)))) := by
  intro pins s σ H xs us Q I r h
  obtain ⟨z, rfl, hz, q⟩ := h
  obtain ⟨u, rfl, rx⟩ := r.one
  obtain ⟨t, rfl⟩ := _root_.id rx
  refine call_list_str (I.ok.hd hc) z t (fun h' tk acc c' kp e it => ?_) hz
  have rv : Vals (z.cps.toList.map fun c => V.str ⟨#[c]⟩) acc.toList := vals_signs _ _ (by rw [Array.length_toList, it.1, Array.length_toList]) fun j v ej => by
    obtain ⟨c, u, e1, e2⟩ := it.2 j v (by rw [← Array.getElem?_toList]; exact ej)
    exact ⟨c, u, by rw [Array.getElem?_toList]; exact e1, e2⟩
  refine ⟨.ref s.heap.objs.size, _, I.laid (t' := tk) (o := .lst (z.cps.toList.map fun c => V.str ⟨#[c]⟩)) kp (Nat.le_refl _) ?_, rfl, q _ (I.hok.fresh (Nat.le_refl _))⟩
  exact ⟨by rw [List.length_map, Array.length_toList]; exact hz, acc.toList, c', rv, by rw [Array.toArray_toList]; exact e⟩
end
end L2
namespace T3
open PySem PySem.Spec PyProof.Rows L2
section
variable {X : Cx} {B : Am} {e o kx vx : Expr} {de do_ dk dv : DE} {pos apos : Pos}
def dUpper (do_ : DE) : DE := fun δ M Q => do_ δ M fun x M1 => ∃ a, x = .str a ∧ a.length ≤ 5592405 ∧ Q (.str (Txt.upper a)) M1
theorem e_upper (ho : PE3 X B o do_) (hb : attributeBase o "upper" X.env (eval o X.env) = eval o X.env := by rfl) (hl : (apos.endLine == pos.line) = true := by rfl) : PE3 X B (.Call (.Attribute o "upper" apos) [] [] pos) (dUpper do_) := by
  obtain ⟨t, h1, h2⟩ := ho.ex
  refine ⟨_, pe_upper h1 hb hl, fun σ H δ M Q Qd sl rep bb h q => h2 σ H δ M _ _ sl rep bb h fun v H1 x M1 g rep1 r ⟨a, ex, hz, h⟩ => ?_⟩
  subst ex
  rw [r.str_]
  exact ⟨⟨a, rfl⟩, a, rfl, rfl, hz, q _ _ _ _ g rep1 R.str' h⟩
def dListS : D → Hd → DK → Prop := fun x M Q => ∃ z : Str, x = .str z ∧ z.length ≤ sizeLine ∧ ∀ q, M q = none → Q (.ref q) (up M q (.lst (z.cps.toList.map fun c => .str ⟨#[c]⟩)))
theorem rs_signs {K : PySem.W.Frag} {H : Hp} : ∀ l : List Nat, Rs K H (l.map fun c => D.str ⟨#[c]⟩) (l.map fun c => V.str ⟨#[c]⟩)
  | [] => .nil
  | _ :: l => .cons R.str' (rs_signs l)
theorem cd_listS (hc : X.calm = true) : CallD X (.type "list") (d1 dListS) := by
  refine ⟨_, call_list_txt hc, fun H M xs vs Q Qd rep rs h q => ?_⟩
  obtain ⟨x, rfl, z, rfl, hz, h⟩ := d1_inv h
  obtain ⟨v, rfl, r⟩ := rs.one_
  rw [r.str_]
  refine ⟨z, rfl, hz, fun l hl => ?_⟩
  obtain ⟨g, rep'⟩ := rep.newL hl (rs_signs _)
  exact q _ _ _ _ g rep' R.ref' (h l (rep.free hl))
/-- {k: v} -/
def dDisp1 (dk dv : DE) : DE := fun δ M Q => dk δ M fun x M1 => dv δ M1 fun y M2 => ∃ k, x = kD k ∧ ∀ p, M2 p = none → Q (.ref p) (up M2 p (.dK [(k, y)]))
theorem e_disp1 (hk : PE3 X B kx dk) (hv : PE3 X B vx dv) : PE3 X B (.Dict [some kx] [vx] pos) (dDisp1 dk dv) := by
  obtain ⟨tk, k1, k2⟩ := hk.ex
  obtain ⟨tv, v1, v2⟩ := hv.ex
  refine ⟨_, pe_disp (pps_cons k1 v1 pps_nil) rfl rfl (by simp) (by simp), fun σ H δ M Q Qd sl rep bb h q p hp => ?_⟩
  have n0 : M p = none := rep.free hp
  have g0 : Go H M (upd H p (.dK [])) M := go_tup hp
  have rep0 : Rep X.K (upd H p (.dK [])) M := rep.tup hp
  have sl0 := sl.mono (rep.tx g0)
  have bb0 := B.pres _ _ _ _ g0 bb
  refine k2 σ _ δ M _ _ sl0 rep0 bb0 h fun v H1 x M1 g1 rep1 r1 h1 => ?_
  obtain ⟨d1, n1⟩ := g1 p _ upd_same n0
  refine v2 σ H1 δ M1 _ _ (sl0.mono (rep0.tx g1)) rep1 (B.pres _ _ _ _ g1 bb0) h1 fun u H2 y M2 g2 rep2 r2 ⟨k, ek, h2⟩ => ?_
  subst ek
  obtain ⟨d2, n2⟩ := g2 p _ d1 n1
  have gg := (g0.trans g1).trans g2
  have rep3 : Rep X.K (upd H2 p (.dK [(k, u)])) M2 := rep2.hid n2 d2 trivial
  have t3 : Tx X.K H2 (upd H2 p (.dK [(k, u)])) := tx_put d2 trivial
  have rk : RK X.K (upd H2 p (.dK [(k, u)])) [(k, y)] [(k, u)] := .cons ⟨rfl, r2.mono t3⟩ .nil
  refine ⟨d2, [(k, u)], by rw [r1.kD]; rfl, by simp, ?_⟩
  refine q (.ref p) _ _ (up M2 p (.dK [(k, y)])) ?_ (rep3.shwK n2 upd_same rk) R.ref' (h2 p n2)
  intro a w ha na
  obtain ⟨ha2, na2⟩ := gg a w ha na
  have : a ≠ p := ne_of_none ha hp
  exact ⟨by rw [upd_ne this]; exact ha2, by rw [up_ne this]; exact na2⟩
/-- text[::-1] -/
def revT (z : Str) : Str := ⟨((Builtin.Str.strSliceIndices none none (-1) z.length).filterMap (z.cps[·]?)).toArray⟩
theorem pe_revT {te : TE} {k : Nat} {p1 p2 p3 : Pos} (he : PE X e te) : PE X (.Subscript e (.Slice none none (some (.UnaryOp .USub (.Constant (.int 1) k p1) p2)) p3) pos) (fun σ H Q => te σ H fun x H1 => ∃ z : Str, x = .str z ∧ (revT z).length ≤ sizeLine ∧ Q (.str (revT z)) H1) := by
  refine ⟨fun pins s σ H Q I h => Subscript_ (thn (he.run pins s σ H _ I h) fun v s1 ⟨x, H1, I1, r1, z, ex, hz, q⟩ => ?_)⟩
  subst ex
  obtain ⟨t, rfl⟩ := _root_.id r1
  have one : PO X (some (.UnaryOp .USub (.Constant (.int 1) k p1) p2)) (tPart (tUn (rU fun i => .int (-i)) (tC (.int 1)))) := po_some (pe_un un_neg pe_int)
  refine wpAny_Slice (thn (po_none.run pins s1 σ H1 (fun o H2 => o = none ∧ H2 = H1) I1 ⟨rfl, rfl⟩) fun vl s2 ⟨_, H2, I2, pl, rfl, e2⟩ => ?_)
  subst e2
  refine thn (po_none.run pins s2 σ H2 (fun o H3 => o = none ∧ H3 = H2) I2 ⟨rfl, rfl⟩) fun vu s3 ⟨_, H3, I3, pu, rfl, e3⟩ => ?_
  subst e3
  refine thn (one.run pins s3 σ H3 (fun o H4 => o = some (-1) ∧ H4 = H3) I3 ⟨1, rfl, -1, rfl, rfl, rfl⟩) fun vs s4 ⟨_, H4, I4, ps, rfl, e4⟩ => ?_
  subst e4
  have I5 : Inv X pins σ H4 { s4 with heap := s4.heap.push { cls := .type "slice", data := .fields #[vl, vu, vs] } } := I4.kept (t' := s4.toks) fun b ob q => Heap.get?_push_of_some _ q
  cases pl
  cases pu
  cases ps
  show wpAny (model X.prog X.w) X.A (subscriptTail e (.Slice none none (some (.UnaryOp .USub (.Constant (.int 1) k p1) p2)) p3) (.str z t) (.ref s4.heap.objs.size)) (EP X pins σ Q) X.xe _
  refine tail_any (ops := [.str z t, .ref s4.heap.objs.size]) (typeIs_str _ _ _) F.slot_str_getitem.lookup ?_ (by with_unfolding_all rfl)
  refine wpAny_getItem_str_slice (l := none) (u := none) (st := some (-1, _)) ⟨_, Heap.get?_push_size _ rfl, rfl, rfl⟩ rfl ?_
  refine ⟨hz, ⟨.str (revT z), H4, I5.tok _, ⟨_, rfl⟩, q⟩⟩
def dRevT (de : DE) : DE := fun δ M Q => de δ M fun x M1 => ∃ z : Str, x = .str z ∧ (revT z).length ≤ sizeLine ∧ Q (.str (revT z)) M1
theorem e_revT {k : Nat} {p1 p2 p3 : Pos} (he : PE3 X B e de) : PE3 X B (.Subscript e (.Slice none none (some (.UnaryOp .USub (.Constant (.int 1) k p1) p2)) p3) pos) (dRevT de) := by
  obtain ⟨t, h1, h2⟩ := he.ex
  refine ⟨_, pe_revT h1, fun σ H δ M Q Qd sl rep bb h q => h2 σ H δ M _ _ sl rep bb h fun v H1 x M1 g rep1 r ⟨z, ex, hz, h⟩ => ?_⟩
  subst ex
  exact ⟨z, r.str_, hz, q _ _ _ _ g rep1 R.str' h⟩
end
end T3
/-! name = {k: v for ..} on one line, the name a local -/
namespace L2
open PySem PySem.Spec PyProof.Rows
section
variable {X : Cx}
theorem ps_setDc {i : Nat} {y : Str} {py : Pos} {kx vx tg iter : Expr} {ifs : List Expr} {scope : Scope} {own : List (Str × Nat)} {pos spos : Pos} {wi : TI} {g : TG} {tt : TT} {tk tv : TE} (hc : X.calm = true) (hN : X.N.Nodup) (hy : X.N[i]? = some y) (hyl : X.env.scope.names.lookup y = some .local)
    (hsw : swapsWith (.DictComp kx vx [⟨tg, iter, ifs, 0⟩] scope pos) (some (.Name y py)) spos.line X.env = pure true) (hi : PI X tg iter wi) (ok : BlkOk X.N X.env.scope scope own)
    (hg : ∀ (s : Shared) (H : Hp) (C : Addr) (cl : List (Str × Addr)) (fp : List Addr), PG (X.blk s H scope (compEnvC scope cl C X.env) fp) tg g) (ht : ∀ (s : Shared) (H : Hp) (C : Addr) (cl : List (Str × Addr)) (fp : List Addr), PTs (X.blk s H scope (compEnvC scope cl C X.env) fp) ifs tt)
    (hk : ∀ (s : Shared) (H : Hp) (C : Addr) (cl : List (Str × Addr)) (fp : List Addr), PE (X.blk s H scope (compEnvC scope cl C X.env) fp) kx tk)
    (he : ∀ (s : Shared) (H : Hp) (C : Addr) (cl : List (Str × Addr)) (fp : List Addr), PE (X.blk s H scope (compEnvC scope cl C X.env) fp) vx tv) (hs : ∀ x, foldedSetIterable iter X.env x = pure x := by intro _; rfl) :
    PS X (.Assign [.Name y py] (.DictComp kx vx [⟨tg, iter, ifs, 0⟩] scope pos) spos) (tAsg (tDc wi g tt tk tv (own.map (·.2))) (gName i)) := by
  refine ⟨fun pins s σ H D I h => ?_⟩
  rw [exec_Assign_Name_used _ _ _ _ hsw]
  refine wpAny_bind (wpAny_standAt (wpAny_bind ?_))
  show wpAny _ X.A (do let _ ← comprehension (.DictComp kx vx [⟨tg, iter, ifs, 0⟩] scope pos) scope X.env (firstIterPos [⟨tg, iter, ifs, 0⟩] pos) newDict false (eval iter X.env) (some (assign (.Name y py) X.env))) _ _ s
  have h : tDc wi g tt tk tv (own.map (·.2)) σ H (fun x H1 => gName i x σ H1 D.nx) := h
  refine wpAny_bind (thn (dc_core (Qf := fun _ s' => SP X pins D .next s') hc hN I hi ok hg ht hk he hs h fun L C s' m H' I' q hn f => ?_) fun _ s' hq => wpAny_pure (wpAny_pure hq))
  show wpAny _ _ (assign (.Name y py) X.env (.ref L)) _ _ _
  refine wpAny_assign_Name (store_ok2 (v := V.ref L) I' hN hy (.inl hyl) rfl (fun s2 I2 ⟨a, sb, ha⟩ => ?_) (.inr hyl))
  obtain ⟨f0, f1, f2, f3, f4, f5⟩ := f
  have haC : C ≠ a := by
    rcases ha with z | z
    · rw [z]; exact f1
    · exact fun e => f4 y a z e.symm
  refine ⟨m, hn.sameBut sb haC, fun h3 sb3 => ?_⟩
  exact ⟨_, H', I2.turned (t' := s2.toks) (fun b o hb e => (sb3.2 b hb).trans e) f0 f1 f3 f4 f5, q⟩
theorem swd_true {kx vx : Expr} {gs : List Comprehension} {scope : Scope} {pos py : Pos} {y : Str} {l : Nat} {env : Env} (hk : env.scope.kind = .function) (hy : env.scope.names.lookup y = some .local) (hl : (py.line == pos.line) = true)
    (ha : (scope.names.any fun (n, k) => n == y && (k == .local || k == .cell)) = false) : swapsWith (.DictComp kx vx gs scope pos) (some (.Name y py)) l env = pure true := by
  have ky : env.kindOf y = some .local := hy
  have hb : env.blockKind = .function := by unfold Env.blockKind; rw [hk]; rfl
  unfold swapsWith
  simp only [hb, ky, ha, Expr.pos, hl]
  rfl
end
end L2
namespace T3
open PySem PySem.Spec PyProof.Rows L2
section
variable {X : Cx} {B : Am} {pos : Pos}
theorem s_setDc (i : Nat) {y : Str} {py : Pos} {tg iter kx vx : Expr} {di : DI} {g : Tg} {ifs : List Expr} {scope : Scope} {own : List (Str × Nat)} {spos : Pos} {dt : DT} {dk dv : DE} (hc : X.calm = true) (hN : X.N.Nodup)
    (hsw : swapsWith (.DictComp kx vx [⟨tg, iter, ifs, 0⟩] scope pos) (some (.Name y py)) spos.line X.env = pure true) (hi : PI3 X B tg iter di) (ok : BlkOk X.N X.env.scope scope own)
    (hg : ∀ (s : Shared) (H : Hp) (C : Addr) (cl : List (Str × Addr)) (fp : List Addr), PG3 (X.blk s H scope (compEnvC scope cl C X.env) fp) tg g) (ht : ∀ (s : Shared) (H : Hp) (C : Addr) (cl : List (Str × Addr)) (fp : List Addr), PTs3 (X.blk s H scope (compEnvC scope cl C X.env) fp) B ifs dt)
    (hk : ∀ (s : Shared) (H : Hp) (C : Addr) (cl : List (Str × Addr)) (fp : List Addr), PE3 (X.blk s H scope (compEnvC scope cl C X.env) fp) B kx dk)
    (he : ∀ (s : Shared) (H : Hp) (C : Addr) (cl : List (Str × Addr)) (fp : List Addr), PE3 (X.blk s H scope (compEnvC scope cl C X.env) fp) B vx dv) (hy : X.N[i]? = some y := by rfl) (hyl : X.env.scope.names.lookup y = some .local := by rfl) (hv : ∀ i ∈ g.ix, i ∈ own.map (·.2) := by decide) (hs : ∀ x, foldedSetIterable iter X.env x = pure x := by intro _; rfl) :
    PS3 X B (.Assign [.Name y py] (.DictComp kx vx [⟨tg, iter, ifs, 0⟩] scope pos) spos) (dSet i (dDc di g dt dk dv (own.map (·.2)))) := by
  obtain ⟨ti, i1, i2⟩ := hi.ex
  refine ⟨_, ps_setDc (g := g.L X.K) (tt := tOfT X.K B dt) (tk := tOf X.K B dk) (tv := tOf X.K B dv) hc hN hy hyl hsw i1 ok (fun s H C cl fp => (hg s H C cl fp).ex) (fun s H C cl fp => (ht s H C cl fp).can) (fun s H C cl fp => (hk s H C cl fp).can) (fun s H C cl fp => (he s H C cl fp).can) hs, fun σ H δ M D Dd sl rep bb q eo => ?_⟩
  exact snd_dc i2 snd_tOfT snd_tOf snd_tOf hv σ H δ M _ _ sl rep bb q fun v H' x M' g rep' r q' => eo.nx _ _ _ _ g ((sl.mono (rep.tx g)).set i r) rep' q'
end
end T3
/-! list.index of ints; an expression that is not reached -/
namespace T3
open PySem PySem.Spec PyProof.Rows L2
section
variable {X : Cx} {B : Am} {e : Expr}
def dNoE : DE := fun _ _ _ => False
theorem e_never : PE3 X B e dNoE := ⟨fun _ _ _ => False, ⟨fun _ _ _ _ _ _ h => h.elim⟩, fun _ _ _ _ _ _ _ _ _ q => q.elim⟩
def dIndex : DM := fun x ys M Q => match x, ys with
  | .ref p, [.int k] => ∃ ns : List Int, LS M p (ns.map D.int) ∧ k ∈ ns ∧ Q (.int (ns.idxOf k)) M
  | _, _ => False
theorem idx_pre : ∀ (ns : List Int) (k : Int), k ∈ ns → (ns.map V.int)[ns.idxOf k]? = some (V.int k) ∧ ∀ (m : Nat) (z : V), m < ns.idxOf k → (ns.map V.int)[m]? = some z → ∃ i, z = V.int i ∧ i ≠ k
  | [], _, h => by cases h
  | a :: l, k, h => by
    rw [List.idxOf_cons]
    by_cases e : a = k
    · subst e
      rw [beq_self_eq_true]
      exact ⟨rfl, fun m z hm => absurd hm (Nat.not_lt_zero m)⟩
    · rw [beq_false_of_ne e]
      have hk : k ∈ l := by
        rcases List.mem_cons.mp h with z | z
        · exact absurd z.symm e
        · exact z
      obtain ⟨h1, h2⟩ := idx_pre l k hk
      refine ⟨h1, fun m z hm hz => ?_⟩
      cases m with
      | zero => cases hz; exact ⟨a, rfl, e⟩
      | succ m => exact h2 m z (Nat.lt_of_succ_lt_succ hm) hz
theorem m_index : MtD X "list.index" dIndex := by
  refine ⟨_, mt_index, fun H M x v xs vs Q Qd rep r rs h q => ?_⟩
  unfold dIndex at h
  split at h
  · rename_i p k
    obtain ⟨ns, l, hk, h⟩ := h
    obtain ⟨us, s, rs'⟩ := rep.ls l
    have e := rs'.ints
    subst e
    obtain ⟨h1, h2⟩ := idx_pre ns k hk
    obtain ⟨v2, rfl, r2⟩ := rs.one_
    cases r2.int_
    refine ⟨p, _, _, ns.idxOf k, _, r.ref_, rfl, s, rfl, ?_, h1, by simp [eqV], fun m z hm hz => ?_, q _ _ _ M Go.refl rep R.int' h⟩
    · rw [List.all_map]; exact List.all_eq_true.mpr fun _ _ => rfl
    · obtain ⟨i, rfl, ne⟩ := h2 m z hm hz
      simp [eqV, ne]
  · exact h.elim
end
end T3
namespace Lw
open PySem PySem.Spec PyProof.Rows L2 T3
def topS (i : Nat) : Stmt := PySem.Challenge.pw_putbetween_k31_whole_lacking_beginnings.main.body.getD i (.Pass ⟨0, 0, 0, 0⟩)
abbrev st_is_listed : Stmt := topS 5
theorem sc_is_listed : FnScope ["thing"] ["thing"] (defScope st_is_listed) := ⟨rfl, rfl, rfl, by decide +kernel, rfl, by decide +kernel, by decide +kernel⟩
theorem bi_is_listed {K : PySem.W.Frag} : Bi K "is_listed" st_is_listed ["thing"] := fun _ _ _ _ _ _ us hl => match us, hl with | [_], _ => rfl
abbrev st_is_falling : Stmt := topS 8
theorem sc_is_falling : FnScope ["thing", "at", "letter"] ["thing"] (defScope st_is_falling) := ⟨rfl, rfl, rfl, by decide +kernel, rfl, by decide +kernel, by decide +kernel⟩
theorem bi_is_falling {K : PySem.W.Frag} : Bi K "is_falling" st_is_falling ["thing"] := fun _ _ _ _ _ _ us hl => match us, hl with | [_], _ => rfl
abbrev st_lacking : Stmt := topS 9
theorem sc_lacking : FnScope ["things", "known", "found", "text", "size", "thing"] ["things"] (defScope st_lacking) := ⟨rfl, rfl, rfl, by decide +kernel, rfl, by decide +kernel, by decide +kernel⟩
theorem bi_lacking {K : PySem.W.Frag} : Bi K "lacking" st_lacking ["things"] := fun _ _ _ _ _ _ us hl => match us, hl with | [_], _ => rfl
abbrev st__law_state : Stmt := topS 11
theorem sc__law_state : FnScope ["_law_script", "_law_k", "_law_cell", "_law_rest"] ["_law_script", "_law_k"] (defScope st__law_state) := ⟨rfl, rfl, rfl, by decide +kernel, rfl, by decide +kernel, by decide +kernel⟩
theorem bi__law_state {K : PySem.W.Frag} : Bi K "_law_state" st__law_state ["_law_script", "_law_k"] := fun _ _ _ _ _ _ us hl => match us, hl with | [_, _], _ => rfl
abbrev st__law_draw : Stmt := topS 12
theorem sc__law_draw : FnScope ["_law_state_here", "_law_many", "_law_number"] ["_law_state_here", "_law_many"] (defScope st__law_draw) := ⟨rfl, rfl, rfl, by decide +kernel, rfl, by decide +kernel, by decide +kernel⟩
theorem bi__law_draw {K : PySem.W.Frag} : Bi K "_law_draw" st__law_draw ["_law_state_here", "_law_many"] := fun _ _ _ _ _ _ us hl => match us, hl with | [_, _], _ => rfl
abbrev st__law_alike : Stmt := topS 13
theorem sc__law_alike : FnScope ["_law_told", "_law_due", "_law_k"] ["_law_told", "_law_due"] (defScope st__law_alike) := ⟨rfl, rfl, rfl, by decide +kernel, rfl, by decide +kernel, by decide +kernel⟩
theorem bi__law_alike {K : PySem.W.Frag} : Bi K "_law_alike" st__law_alike ["_law_told", "_law_due"] := fun _ _ _ _ _ _ us hl => match us, hl with | [_, _], _ => rfl
abbrev st__law_falling : Stmt := topS 14
theorem sc__law_falling : FnScope ["_law_state_here", "_law_found", "_law_thin", "_law_k"] ["_law_state_here"] (defScope st__law_falling) := ⟨rfl, rfl, rfl, by decide +kernel, rfl, by decide +kernel, by decide +kernel⟩
theorem bi__law_falling {K : PySem.W.Frag} : Bi K "_law_falling" st__law_falling ["_law_state_here"] := fun _ _ _ _ _ _ us hl => match us, hl with | [_], _ => rfl
abbrev st__law_next : Stmt := topS 15
theorem sc__law_next : FnScope ["_law_state_here", "_law_things", "_law_kind", "_law_text", "_law_tail", "_law_letter"] ["_law_state_here", "_law_things"] (defScope st__law_next) := ⟨rfl, rfl, rfl, by decide +kernel, rfl, by decide +kernel, by decide +kernel⟩
theorem bi__law_next {K : PySem.W.Frag} : Bi K "_law_next" st__law_next ["_law_state_here", "_law_things"] := fun _ _ _ _ _ _ us hl => match us, hl with | [_, _], _ => rfl
abbrev st__law_beginnings : Stmt := topS 16
theorem sc__law_beginnings : FnScope ["_law_things", "_law_known", "_law_text", "_law_size"] ["_law_things"] (defScope st__law_beginnings) := ⟨rfl, rfl, rfl, by decide +kernel, rfl, by decide +kernel, by decide +kernel⟩
theorem bi__law_beginnings {K : PySem.W.Frag} : Bi K "_law_beginnings" st__law_beginnings ["_law_things"] := fun _ _ _ _ _ _ us hl => match us, hl with | [_], _ => rfl
abbrev st__law_refused : Stmt := topS 17
theorem sc__law_refused : FnScope ["_law_thing", "e"] ["_law_thing"] (defScope st__law_refused) := ⟨rfl, rfl, rfl, by decide +kernel, rfl, by decide +kernel, by decide +kernel⟩
theorem bi__law_refused {K : PySem.W.Frag} : Bi K "_law_refused" st__law_refused ["_law_thing"] := fun _ _ _ _ _ _ us hl => match us, hl with | [_], _ => rfl
abbrev st__law_spoiled : Stmt := topS 18
theorem sc__law_spoiled : FnScope ["_law_state_here", "_law_things", "_law_text", "_law_menu", "_law_worse", "_law_kind", "_law_at"] ["_law_state_here", "_law_things"] (defScope st__law_spoiled) := ⟨rfl, rfl, rfl, by decide +kernel, rfl, by decide +kernel, by decide +kernel⟩
theorem bi__law_spoiled {K : PySem.W.Frag} : Bi K "_law_spoiled" st__law_spoiled ["_law_state_here", "_law_things"] := fun _ _ _ _ _ _ us hl => match us, hl with | [_, _], _ => rfl
abbrev st__law_asked : Stmt := topS 19
theorem sc__law_asked : FnScope ["_law_state_here", "_law_things", "_law_due", "_law_passed", "_law_told", "_law_at", "_law_rest"] ["_law_state_here", "_law_things"] (defScope st__law_asked) := ⟨rfl, rfl, rfl, by decide +kernel, rfl, by decide +kernel, by decide +kernel⟩
theorem bi__law_asked {K : PySem.W.Frag} : Bi K "_law_asked" st__law_asked ["_law_state_here", "_law_things"] := fun _ _ _ _ _ _ us hl => match us, hl with | [_, _], _ => rfl
abbrev st_law : Stmt := topS 20
theorem sc_law : FnScope ["_law_script", "_law_k", "_law_state_here", "_law_good", "_law_many", "_law_things", "_law_turn"] ["_law_script"] (defScope st_law) := ⟨rfl, rfl, rfl, by decide +kernel, rfl, by decide +kernel, by decide +kernel⟩
theorem bi_law {K : PySem.W.Frag} : Bi K "law" st_law ["_law_script"] := fun _ _ _ _ _ _ us hl => match us, hl with | [_], _ => rfl
structure Gv (K : PySem.W.Frag) (mg : Str → Option Value) : Prop where
  d_is_listed : Df K mg "is_listed" st_is_listed
  d_is_falling : Df K mg "is_falling" st_is_falling
  d_lacking : Df K mg "lacking" st_lacking
  d__law_state : Df K mg "_law_state" st__law_state
  d__law_draw : Df K mg "_law_draw" st__law_draw
  d__law_alike : Df K mg "_law_alike" st__law_alike
  d__law_falling : Df K mg "_law_falling" st__law_falling
  d__law_next : Df K mg "_law_next" st__law_next
  d__law_beginnings : Df K mg "_law_beginnings" st__law_beginnings
  d__law_refused : Df K mg "_law_refused" st__law_refused
  d__law_spoiled : Df K mg "_law_spoiled" st__law_spoiled
  d__law_asked : Df K mg "_law_asked" st__law_asked
  d_law : Df K mg "law" st_law
  b_all : mg "all" = none
  b_bool : mg "bool" = none
  b_int : mg "int" = none
  b_isinstance : mg "isinstance" = none
  b_len : mg "len" = none
  b_list : mg "list" = none
  b_max : mg "max" = none
  b_min : mg "min" = none
  b_range : mg "range" = none
  b_sorted : mg "sorted" = none
  b_str : mg "str" = none
  b_tuple : mg "tuple" = none
  b_ValueError : mg "ValueError" = none
  x_BetweenError : XC K mg "BetweenError"
  x_NoHeap : XC K mg "NoHeap"
  x_NoPlan : XC K mg "NoPlan"
  xi_NoHeap_NoHeap : XIc K mg "NoHeap" "NoHeap" true
  xi_NoHeap_NoPlan : XIc K mg "NoHeap" "NoPlan" false
  xt_NoHeap_ValueError : XIt K mg "NoHeap" "ValueError" true
  xm_NoHeap_BetweenError : XM K mg "NoHeap" "BetweenError" true
  xm_NoHeap_NoHeap : XM K mg "NoHeap" "NoHeap" true
  xm_NoHeap_NoPlan : XM K mg "NoHeap" "NoPlan" false
  c_LETTERS : GS mg "LETTERS" "zyxwvutsrqponmlkjihgfedcba"

/-! ### the state that draws -/
def G2 (ns : List Int) : Prop := ∃ r x c : Int, ns = [r, x, c] ∧ 0 ≤ r ∧ 0 ≤ x ∧ 0 ≤ c
def Pool (M : Hd) (x : D) : Prop := ∃ p, x = .ref p ∧ Flat G2 M p
def Scr' (x : D) (M : Hd) (ns : List Int) : Prop := (∃ p, x = .ref p ∧ M p = some (.fz (ns.map D.int))) ∨ ∃ p, x = .kl p ns
theorem Pool.sub {M M' : Hd} {x : D} (h : Pool M x) (s : Sub M' M) : Pool M' x := by
  obtain ⟨p, rfl, h1⟩ := h
  exact ⟨p, rfl, s.1 _ _ h1⟩
theorem Scr'.sub {M M' : Hd} {x : D} {ns : List Int} (h : Scr' x M ns) (s : Sub M' M) : Scr' x M' ns := by
  rcases h with ⟨p, rfl, h1⟩ | ⟨p, rfl⟩
  · exact .inl ⟨p, rfl, s.1 _ _ h1⟩
  · exact .inr ⟨p, rfl⟩
theorem Scr'.of {M : Hd} {x : D} {ns : List Int} (h : Scr x M ns) : Scr' x M ns := by
  rcases h with ⟨p, rfl, h1, _⟩ | ⟨p, rfl, _⟩
  · exact .inl ⟨p, rfl, h1⟩
  · exact .inr ⟨p, rfl⟩
section
variable {P : Program} {w : World} {K : PySem.W.Frag} {mg : Str → Option Value} {base : Heap}
theorem pr__law_state (G : Gv K mg) : Pr P w K mg base "_law_state" 1 ["_law_script", "_law_k"] (S2 fun x k M Q => ∃ (ns : List Int) (j : Nat), k = nD j ∧ j < 1000 ∧ ns.length ≤ 63 ∧ Scr' x M ns ∧ ∀ p, M p = none → Q (.ref p) (up M p (.ext (FlatI p G2) []))) := by
  refine (pr3 (k := 0) G.d__law_state bi__law_state sc__law_state S2n (fun f cdv A outer s H E hr => (b_cons (s_set 2 sc__law_state.nd (e_if (t_cmp od_lt (e_var 1) (e_callB cd_len (by rfl) G.b_len rfl (a_cons (e_var 0) a_nil))) (e_ix (ixd (hu_of hr)) (e_var 0) (e_var 1)) (e_op od_add (e_op od_mul e_int (e_var 1)) (e_op od_mul e_int (e_callB cd_len (by rfl) G.b_len rfl (a_cons (e_var 0) a_nil))))))
      (b_cons (s_set 3 sc__law_state.nd (e_if (t_cmp od_ge (e_var 2) (e_op od_pow e_int e_int)) (e_var 2) e_int))
      (b_one (s_ret (e_lst (a_cons (e_var 3) (a_cons (e_op od_mod (e_callTy cd_int (by rfl) G.b_int rfl (a_cons (e_op od_add (e_var 2) (e_op od_mul e_int (e_var 1))) a_nil)) e_int) (a_cons e_int a_nil)))))))))) ?_
  rintro _ M Q E ⟨x, _, rfl, ns, j, rfl, hj, hl, hs, h⟩ H rep
  refine ⟨M, rep, fun _ h => h, ?_⟩
  have fin : ∀ r y : Int, 0 ≤ r → 0 ≤ y → ∀ p, M p = none → ∃ M2, Fgt K (up M p (.lst [D.int r, D.int y, D.int 0])) M2 ∧ Q (D.ref p) M2 := fun r y hr hy p hp => ⟨_, flat_new (ns := [r, y, 0]) (G := G2) ⟨r, y, 0, rfl, hr, hy, by omega⟩, h p hp⟩
  have pw : CPow 10 18 := by unfold CPow; omega
  have e18 : (10 : Int) ^ Int.toNat 18 = 1000000000000000000 := by decide
  have hmod : ∀ z : Int, 0 ≤ z % 1000000007 := fun z => Int.emod_nonneg _ (by omega)
  have both : ∀ a : Int, CPow 10 18 ∧ ((10 : Int) ^ Int.toNat 18 ≤ a → CMul 104729 (j : Int) ∧ (0 : Int) < 1000000007 ∧ ∀ p, M p = none → ∃ M2, Fgt K (up M p (.lst [D.int a, D.int ((a + 104729 * (j : Int)) % 1000000007), D.int 0])) M2 ∧ Q (D.ref p) M2) ∧
      (¬ (10 : Int) ^ Int.toNat 18 ≤ a → CMul 104729 (j : Int) ∧ (0 : Int) < 1000000007 ∧ ∀ p, M p = none → ∃ M2, Fgt K (up M p (.lst [D.int 0, D.int ((a + 104729 * (j : Int)) % 1000000007), D.int 0])) M2 ∧ Q (D.ref p) M2) := fun a =>
    ⟨pw, fun z => ⟨cm_l (by omega) (by omega), by decide, fin a _ (by omega) (hmod _)⟩, fun _ => ⟨cm_l (by omega) (by omega), by decide, fin 0 _ (by omega) (hmod _)⟩⟩
  rcases hs with ⟨p, rfl, hp⟩ | ⟨p, rfl⟩
  · simp only [startD, List.map_cons, List.map_nil, List.length_cons, List.length_nil, Nat.reduceAdd, Nat.reduceSub, Nat.zero_add, List.replicate, List.cons_append, List.nil_append]; simp (config := {failIfUnchanged := false}) only [dC, dOp, dTest, dChain, dAnd, dOr, dNot, dAndV, dOrV, dNotV, dIf, dNil, dCons, dTup, dLst, dCB, d1, dNoPart, dPart, dSl, dCut, dNeg, dSorted, dSum, dAll, dAny, dInt, dAbs, dMax, dMin, dIsi, isT, dNext, dSeq, dBrk, dCont, dNever, dExpr, dRet, dRetN, dIfS, dAsg, dPutI, dI0, dI, dIsN, dNotN, dRng1, dRng2, dRngDn, dZipI, dYes, dCall, dLM, dAppend, dExtend, dReverse, dInsert, dAugI, dRg1, dRg2, dTupRg, dLstRg, dNewK, dNewT, ↓S0_, ↓S1_, ↓S2_, ↓S3_, ↓S4_, ↓S5_, ↓S6_, List.map_cons, List.map_nil, List.length_cons, List.length_nil, List.replicate, List.cons_append, List.nil_append, Nat.reduceAdd, Nat.reduceSub, Nat.zero_add, List.getElem?_cons_zero, List.getElem?_cons_succ, Option.some.injEq, exists_eq_left, exists_eq_left', List.set_cons_zero, List.set_cons_succ, wipeD, D.int.injEq, D.bl.injEq, D.str.injEq, D.ref.injEq, D.tup.injEq, D.ty.injEq, true_and, and_true, forall_const, forall_eq', forall_eq, mt_int, mt_bool, mt_str, mt_tuple, mt_list, mt_dict, st_int_int, st_int_bool, st_int_str, st_int_tuple, st_int_list, st_int_dict, st_bool_int, st_bool_bool, st_bool_str, st_bool_tuple, st_bool_list, st_bool_dict, st_str_int, st_str_bool, st_str_str, st_str_tuple, st_str_list, st_str_dict, st_tuple_int, st_tuple_bool, st_tuple_str, st_tuple_tuple, st_tuple_list, st_tuple_dict, st_list_int, st_list_bool, st_list_str, st_list_tuple, st_list_list, st_list_dict, st_dict_int, st_dict_bool, st_dict_str, st_dict_tuple, st_dict_list, st_dict_dict, eq_self, Bool.true_eq_false, Bool.false_eq_true, false_implies, true_implies, implies_true, decide_eq_true_eq, decide_eq_false_iff_not, Bool.not_true, Bool.not_false, Bool.not_eq_true, Bool.not_eq_false, Bool.not_eq_true', Bool.not_eq_false', not_true_eq_false, not_false_eq_true, false_and, and_false, or_false, false_or, reduceCtorEq, ↓exLSu, ↓exDKu, ↓exDKd, ↓exLSd, ↓exLu, ↓dIxRu, ↓dPutu, ↓dGetAu, ↓dEq_int, ↓dNe_int, ↓dEq_bl, ↓dNe_bl, ↓dEq_str, ↓dNe_str, ↓dAdd_int, ↓exAt10, ↓exIx10, ↓exAt20, ↓exIx20, ↓exAt21, ↓exIx21, ↓exAt30, ↓exIx30, ↓exAt31, ↓exIx31, ↓exAt32, ↓exIx32, ↓exAt40, ↓exIx40, ↓exAt41, ↓exIx41, ↓exAt42, ↓exIx42, ↓exAt43, ↓exIx43, ↓exAt50, ↓exIx50, ↓exAt51, ↓exIx51, ↓exAt52, ↓exIx52, ↓exAt53, ↓exIx53, ↓exAt54, ↓exIx54, ↓exAt60, ↓exIx60, ↓exAt61, ↓exIx61, ↓exAt62, ↓exIx62, ↓exAt63, ↓exIx63, ↓exAt64, ↓exIx64, ↓exAt65, ↓exIx65, up_up, false_or, or_false, ↓exAtM, ↓dFlag_bl, ↓exBl, ↓exInt, ↓exRef, ↓dVar0, ↓dAug0, ↓dSet0, ↓dTgN0, ↓dTgW0, ↓dVar1, ↓dAug1, ↓dSet1, ↓dTgN1, ↓dTgW1, ↓dVar2, ↓dAug2, ↓dSet2, ↓dTgN2, ↓dTgW2, ↓dVar3, ↓dAug3, ↓dSet3, ↓dTgN3, ↓dTgW3, ↓dVar4, ↓dAug4, ↓dSet4, ↓dTgN4, ↓dTgW4, ↓dVar5, ↓dAug5, ↓dSet5, ↓dTgN5, ↓dTgW5, ↓dVar6, ↓dAug6, ↓dSet6, ↓dTgN6, ↓dTgW6, ↓dVar7, ↓dAug7, ↓dSet7, ↓dTgN7, ↓dTgW7, ↓dVar8, ↓dAug8, ↓dSet8, ↓dTgN8, ↓dTgW8, ↓dVar9, ↓dAug9, ↓dSet9, ↓dTgN9, ↓dTgW9, ↓dVar10, ↓dAug10, ↓dSet10, ↓dTgN10, ↓dTgW10, ↓dVar11, ↓dAug11, ↓dSet11, ↓dTgN11, ↓dTgW11, ↓dVar12, ↓dAug12, ↓dSet12, ↓dTgN12, ↓dTgW12, ↓dVar13, ↓dAug13, ↓dSet13, ↓dTgN13, ↓dTgW13, ↓dVar14, ↓dAug14, ↓dSet14, ↓dTgN14, ↓dTgW14, ↓dVar15, ↓dAug15, ↓dSet15, ↓dTgN15, ↓dTgW15, ↓dVar16, ↓dAug16, ↓dSet16, ↓dTgN16, ↓dTgW16, ↓dVar17, ↓dAug17, ↓dSet17, ↓dTgN17, ↓dTgW17, ↓dVar18, ↓dAug18, ↓dSet18, ↓dTgN18, ↓dTgW18, ↓dVar19, ↓dAug19, ↓dSet19, ↓dTgN19, ↓dTgW19, ↓dTg_t2, ↓dTg_t3, ↓exGetM, ↓exSumU, nD, plD, rwD, ↓dAdd_tup, ↓dAdd_ref, dIx_tup, dIx_str, dIx_ref, dIx_kl, dListOf_tup, dListOf_kl, dListOf_ref, dLen_tup, dLen_str, dLen_kl, dLen_ref, dTupOf_tup, dTupOf_ref, dSeqI_x, sqX_tup, sqX_ref, sqX_str, dEnumI_x, enX_tup, enX_ref, dRevA, dRevD, dSIndex, dLtS, dUpper, dListS, dDisp1, dRevT, dInS, dSortA, dIsi2, isT2, Bool.or_true, Bool.true_or, Bool.or_false, Bool.or_self, dCallX, dRaise, dTryO, dTryA, dRaise1, dExF, dCls, dIsX, ↓exOne, WD0, ↓X0_, ↓X1_, ↓X2_, ↓X3_, ↓exLSz hp, ↓exDKz hp, ↓dIxRz hp]
    rw [List.length_map]
    refine ⟨fun z => ?_, fun z => ⟨cm_l (by omega) (by omega), cm_l (by omega) (by omega), both _⟩⟩
    obtain ⟨a, ha, _⟩ := atI_lt (ys := ns) (show (0 : Int) ≤ (j : Int) by omega) z
    exact ⟨a, ha, both a⟩
  · simp only [startD, List.map_cons, List.map_nil, List.length_cons, List.length_nil, Nat.reduceAdd, Nat.reduceSub, Nat.zero_add, List.replicate, List.cons_append, List.nil_append]; simp (config := {failIfUnchanged := false}) only [dC, dOp, dTest, dChain, dAnd, dOr, dNot, dAndV, dOrV, dNotV, dIf, dNil, dCons, dTup, dLst, dCB, d1, dNoPart, dPart, dSl, dCut, dNeg, dSorted, dSum, dAll, dAny, dInt, dAbs, dMax, dMin, dIsi, isT, dNext, dSeq, dBrk, dCont, dNever, dExpr, dRet, dRetN, dIfS, dAsg, dPutI, dI0, dI, dIsN, dNotN, dRng1, dRng2, dRngDn, dZipI, dYes, dCall, dLM, dAppend, dExtend, dReverse, dInsert, dAugI, dRg1, dRg2, dTupRg, dLstRg, dNewK, dNewT, ↓S0_, ↓S1_, ↓S2_, ↓S3_, ↓S4_, ↓S5_, ↓S6_, List.map_cons, List.map_nil, List.length_cons, List.length_nil, List.replicate, List.cons_append, List.nil_append, Nat.reduceAdd, Nat.reduceSub, Nat.zero_add, List.getElem?_cons_zero, List.getElem?_cons_succ, Option.some.injEq, exists_eq_left, exists_eq_left', List.set_cons_zero, List.set_cons_succ, wipeD, D.int.injEq, D.bl.injEq, D.str.injEq, D.ref.injEq, D.tup.injEq, D.ty.injEq, true_and, and_true, forall_const, forall_eq', forall_eq, mt_int, mt_bool, mt_str, mt_tuple, mt_list, mt_dict, st_int_int, st_int_bool, st_int_str, st_int_tuple, st_int_list, st_int_dict, st_bool_int, st_bool_bool, st_bool_str, st_bool_tuple, st_bool_list, st_bool_dict, st_str_int, st_str_bool, st_str_str, st_str_tuple, st_str_list, st_str_dict, st_tuple_int, st_tuple_bool, st_tuple_str, st_tuple_tuple, st_tuple_list, st_tuple_dict, st_list_int, st_list_bool, st_list_str, st_list_tuple, st_list_list, st_list_dict, st_dict_int, st_dict_bool, st_dict_str, st_dict_tuple, st_dict_list, st_dict_dict, eq_self, Bool.true_eq_false, Bool.false_eq_true, false_implies, true_implies, implies_true, decide_eq_true_eq, decide_eq_false_iff_not, Bool.not_true, Bool.not_false, Bool.not_eq_true, Bool.not_eq_false, Bool.not_eq_true', Bool.not_eq_false', not_true_eq_false, not_false_eq_true, false_and, and_false, or_false, false_or, reduceCtorEq, ↓exLSu, ↓exDKu, ↓exDKd, ↓exLSd, ↓exLu, ↓dIxRu, ↓dPutu, ↓dGetAu, ↓dEq_int, ↓dNe_int, ↓dEq_bl, ↓dNe_bl, ↓dEq_str, ↓dNe_str, ↓dAdd_int, ↓exAt10, ↓exIx10, ↓exAt20, ↓exIx20, ↓exAt21, ↓exIx21, ↓exAt30, ↓exIx30, ↓exAt31, ↓exIx31, ↓exAt32, ↓exIx32, ↓exAt40, ↓exIx40, ↓exAt41, ↓exIx41, ↓exAt42, ↓exIx42, ↓exAt43, ↓exIx43, ↓exAt50, ↓exIx50, ↓exAt51, ↓exIx51, ↓exAt52, ↓exIx52, ↓exAt53, ↓exIx53, ↓exAt54, ↓exIx54, ↓exAt60, ↓exIx60, ↓exAt61, ↓exIx61, ↓exAt62, ↓exIx62, ↓exAt63, ↓exIx63, ↓exAt64, ↓exIx64, ↓exAt65, ↓exIx65, up_up, false_or, or_false, ↓exAtM, ↓dFlag_bl, ↓exBl, ↓exInt, ↓exRef, ↓dVar0, ↓dAug0, ↓dSet0, ↓dTgN0, ↓dTgW0, ↓dVar1, ↓dAug1, ↓dSet1, ↓dTgN1, ↓dTgW1, ↓dVar2, ↓dAug2, ↓dSet2, ↓dTgN2, ↓dTgW2, ↓dVar3, ↓dAug3, ↓dSet3, ↓dTgN3, ↓dTgW3, ↓dVar4, ↓dAug4, ↓dSet4, ↓dTgN4, ↓dTgW4, ↓dVar5, ↓dAug5, ↓dSet5, ↓dTgN5, ↓dTgW5, ↓dVar6, ↓dAug6, ↓dSet6, ↓dTgN6, ↓dTgW6, ↓dVar7, ↓dAug7, ↓dSet7, ↓dTgN7, ↓dTgW7, ↓dVar8, ↓dAug8, ↓dSet8, ↓dTgN8, ↓dTgW8, ↓dVar9, ↓dAug9, ↓dSet9, ↓dTgN9, ↓dTgW9, ↓dVar10, ↓dAug10, ↓dSet10, ↓dTgN10, ↓dTgW10, ↓dVar11, ↓dAug11, ↓dSet11, ↓dTgN11, ↓dTgW11, ↓dVar12, ↓dAug12, ↓dSet12, ↓dTgN12, ↓dTgW12, ↓dVar13, ↓dAug13, ↓dSet13, ↓dTgN13, ↓dTgW13, ↓dVar14, ↓dAug14, ↓dSet14, ↓dTgN14, ↓dTgW14, ↓dVar15, ↓dAug15, ↓dSet15, ↓dTgN15, ↓dTgW15, ↓dVar16, ↓dAug16, ↓dSet16, ↓dTgN16, ↓dTgW16, ↓dVar17, ↓dAug17, ↓dSet17, ↓dTgN17, ↓dTgW17, ↓dVar18, ↓dAug18, ↓dSet18, ↓dTgN18, ↓dTgW18, ↓dVar19, ↓dAug19, ↓dSet19, ↓dTgN19, ↓dTgW19, ↓dTg_t2, ↓dTg_t3, ↓exGetM, ↓exSumU, nD, plD, rwD, ↓dAdd_tup, ↓dAdd_ref, dIx_tup, dIx_str, dIx_ref, dIx_kl, dListOf_tup, dListOf_kl, dListOf_ref, dLen_tup, dLen_str, dLen_kl, dLen_ref, dTupOf_tup, dTupOf_ref, dSeqI_x, sqX_tup, sqX_ref, sqX_str, dEnumI_x, enX_tup, enX_ref, dRevA, dRevD, dSIndex, dLtS, dUpper, dListS, dDisp1, dRevT, dInS, dSortA, dIsi2, isT2, Bool.or_true, Bool.true_or, Bool.or_false, Bool.or_self, dCallX, dRaise, dTryO, dTryA, dRaise1, dExF, dCls, dIsX, ↓exOne, WD0, ↓X0_, ↓X1_, ↓X2_, ↓X3_]
    refine ⟨fun z => ?_, fun z => ⟨cm_l (by omega) (by omega), cm_l (by omega) (by omega), both _⟩⟩
    obtain ⟨a, ha, _⟩ := atI_lt (ys := ns) (show (0 : Int) ≤ (j : Int) by omega) z
    exact ⟨a, ha, both a⟩
theorem pr__law_draw (G : Gv K mg) : Pr P w K mg base "_law_draw" 1 ["_law_state_here", "_law_many"] (S2 fun x m M Q => ∃ (k : Nat), m = nD k ∧ Pool M x ∧ 0 < k ∧ k < 1073741824 ∧ ∀ v : Nat, v < k → Q (nD v) M) := by
  refine (pr3 (k := 0) G.d__law_draw bi__law_draw sc__law_draw S2n (fun f cdv A outer s H E hr => (b_cons (s_if (t_cmp od_gt (e_ix (ixd (hu_of hr)) (e_var 0) e_int) e_int) (b_cons (s_set 2 sc__law_draw.nd (e_op od_mod (e_callTy cd_int (by rfl) G.b_int rfl (a_cons (e_ix (ixd (hu_of hr)) (e_var 0) e_int) a_nil)) (e_var 1)))
      (b_cons (s_put (put3 (hu_of hr)) (e_var 0) e_int (e_op od_fdiv (e_ix (ixd (hu_of hr)) (e_var 0) e_int) (e_var 1)))
      (b_one (s_ret (e_var 2))))) b_nil)
      (b_cons (s_put (put3 (hu_of hr)) (e_var 0) e_int (e_op od_add (e_ix (ixd (hu_of hr)) (e_var 0) e_int) e_int))
      (b_cons (s_set 2 sc__law_draw.nd (e_op od_mod (e_callTy cd_int (by rfl) G.b_int rfl (a_cons (e_op od_mul (e_op od_add (e_op od_add (e_ix (ixd (hu_of hr)) (e_var 0) e_int) (e_op od_mul e_int (e_ix (ixd (hu_of hr)) (e_var 0) e_int))) e_int) e_int) a_nil)) e_int))
      (b_cons (s_set 2 sc__law_draw.nd (e_op od_mod (e_callTy cd_int (by rfl) G.b_int rfl (a_cons (e_op od_mul (e_var 2) (e_op od_add (e_op od_fdiv (e_var 2) e_int) e_int)) a_nil)) e_int))
      (b_cons (s_set 2 sc__law_draw.nd (e_op od_mod (e_callTy cd_int (by rfl) G.b_int rfl (a_cons (e_op od_mul (e_var 2) (e_op od_add (e_op od_add (e_op od_fdiv (e_var 2) e_int) e_int) (e_ix (ixd (hu_of hr)) (e_var 0) e_int))) a_nil)) e_int))
      (b_one (s_ret (e_op od_mod (e_callTy cd_int (by rfl) G.b_int rfl (a_cons (e_op od_fdiv (e_var 2) e_int) a_nil)) (e_var 1))))))))))) ?_
  rintro _ M Q E ⟨_, _, rfl, k, rfl, ⟨p, rfl, hp⟩, hk, hk2, h⟩ H rep
  obtain ⟨ns, ⟨r, x, c, rfl, g1, g2, g3⟩, rep'⟩ := flat_open rep hp
  refine ⟨_, rep', fun a ha => ?_, ?_⟩
  · have n1 : a ≠ p := by rintro rfl; rw [hp] at ha; cases ha
    rw [up_ne n1]; exact ha
  · simp only [startD, List.map_cons, List.map_nil, List.length_cons, List.length_nil, Nat.reduceAdd, Nat.reduceSub, Nat.zero_add, List.replicate, List.cons_append, List.nil_append]; simp (config := {failIfUnchanged := false}) only [dC, dOp, dTest, dChain, dAnd, dOr, dNot, dAndV, dOrV, dNotV, dIf, dNil, dCons, dTup, dLst, dCB, d1, dNoPart, dPart, dSl, dCut, dNeg, dSorted, dSum, dAll, dAny, dInt, dAbs, dMax, dMin, dIsi, isT, dNext, dSeq, dBrk, dCont, dNever, dExpr, dRet, dRetN, dIfS, dAsg, dPutI, dI0, dI, dIsN, dNotN, dRng1, dRng2, dRngDn, dZipI, dYes, dCall, dLM, dAppend, dExtend, dReverse, dInsert, dAugI, dRg1, dRg2, dTupRg, dLstRg, dNewK, dNewT, ↓S0_, ↓S1_, ↓S2_, ↓S3_, ↓S4_, ↓S5_, ↓S6_, List.map_cons, List.map_nil, List.length_cons, List.length_nil, List.replicate, List.cons_append, List.nil_append, Nat.reduceAdd, Nat.reduceSub, Nat.zero_add, List.getElem?_cons_zero, List.getElem?_cons_succ, Option.some.injEq, exists_eq_left, exists_eq_left', List.set_cons_zero, List.set_cons_succ, wipeD, D.int.injEq, D.bl.injEq, D.str.injEq, D.ref.injEq, D.tup.injEq, D.ty.injEq, true_and, and_true, forall_const, forall_eq', forall_eq, mt_int, mt_bool, mt_str, mt_tuple, mt_list, mt_dict, st_int_int, st_int_bool, st_int_str, st_int_tuple, st_int_list, st_int_dict, st_bool_int, st_bool_bool, st_bool_str, st_bool_tuple, st_bool_list, st_bool_dict, st_str_int, st_str_bool, st_str_str, st_str_tuple, st_str_list, st_str_dict, st_tuple_int, st_tuple_bool, st_tuple_str, st_tuple_tuple, st_tuple_list, st_tuple_dict, st_list_int, st_list_bool, st_list_str, st_list_tuple, st_list_list, st_list_dict, st_dict_int, st_dict_bool, st_dict_str, st_dict_tuple, st_dict_list, st_dict_dict, eq_self, Bool.true_eq_false, Bool.false_eq_true, false_implies, true_implies, implies_true, decide_eq_true_eq, decide_eq_false_iff_not, Bool.not_true, Bool.not_false, Bool.not_eq_true, Bool.not_eq_false, Bool.not_eq_true', Bool.not_eq_false', not_true_eq_false, not_false_eq_true, false_and, and_false, or_false, false_or, reduceCtorEq, ↓exLSu, ↓exDKu, ↓exDKd, ↓exLSd, ↓exLu, ↓dIxRu, ↓dPutu, ↓dGetAu, ↓dEq_int, ↓dNe_int, ↓dEq_bl, ↓dNe_bl, ↓dEq_str, ↓dNe_str, ↓dAdd_int, ↓exAt10, ↓exIx10, ↓exAt20, ↓exIx20, ↓exAt21, ↓exIx21, ↓exAt30, ↓exIx30, ↓exAt31, ↓exIx31, ↓exAt32, ↓exIx32, ↓exAt40, ↓exIx40, ↓exAt41, ↓exIx41, ↓exAt42, ↓exIx42, ↓exAt43, ↓exIx43, ↓exAt50, ↓exIx50, ↓exAt51, ↓exIx51, ↓exAt52, ↓exIx52, ↓exAt53, ↓exIx53, ↓exAt54, ↓exIx54, ↓exAt60, ↓exIx60, ↓exAt61, ↓exIx61, ↓exAt62, ↓exIx62, ↓exAt63, ↓exIx63, ↓exAt64, ↓exIx64, ↓exAt65, ↓exIx65, up_up, false_or, or_false, ↓exAtM, ↓dFlag_bl, ↓exBl, ↓exInt, ↓exRef, ↓dVar0, ↓dAug0, ↓dSet0, ↓dTgN0, ↓dTgW0, ↓dVar1, ↓dAug1, ↓dSet1, ↓dTgN1, ↓dTgW1, ↓dVar2, ↓dAug2, ↓dSet2, ↓dTgN2, ↓dTgW2, ↓dVar3, ↓dAug3, ↓dSet3, ↓dTgN3, ↓dTgW3, ↓dVar4, ↓dAug4, ↓dSet4, ↓dTgN4, ↓dTgW4, ↓dVar5, ↓dAug5, ↓dSet5, ↓dTgN5, ↓dTgW5, ↓dVar6, ↓dAug6, ↓dSet6, ↓dTgN6, ↓dTgW6, ↓dVar7, ↓dAug7, ↓dSet7, ↓dTgN7, ↓dTgW7, ↓dVar8, ↓dAug8, ↓dSet8, ↓dTgN8, ↓dTgW8, ↓dVar9, ↓dAug9, ↓dSet9, ↓dTgN9, ↓dTgW9, ↓dVar10, ↓dAug10, ↓dSet10, ↓dTgN10, ↓dTgW10, ↓dVar11, ↓dAug11, ↓dSet11, ↓dTgN11, ↓dTgW11, ↓dVar12, ↓dAug12, ↓dSet12, ↓dTgN12, ↓dTgW12, ↓dVar13, ↓dAug13, ↓dSet13, ↓dTgN13, ↓dTgW13, ↓dVar14, ↓dAug14, ↓dSet14, ↓dTgN14, ↓dTgW14, ↓dVar15, ↓dAug15, ↓dSet15, ↓dTgN15, ↓dTgW15, ↓dVar16, ↓dAug16, ↓dSet16, ↓dTgN16, ↓dTgW16, ↓dVar17, ↓dAug17, ↓dSet17, ↓dTgN17, ↓dTgW17, ↓dVar18, ↓dAug18, ↓dSet18, ↓dTgN18, ↓dTgW18, ↓dVar19, ↓dAug19, ↓dSet19, ↓dTgN19, ↓dTgW19, ↓dTg_t2, ↓dTg_t3, ↓exGetM, ↓exSumU, nD, plD, rwD, ↓dAdd_tup, ↓dAdd_ref, dIx_tup, dIx_str, dIx_ref, dIx_kl, dListOf_tup, dListOf_kl, dListOf_ref, dLen_tup, dLen_str, dLen_kl, dLen_ref, dTupOf_tup, dTupOf_ref, dSeqI_x, sqX_tup, sqX_ref, sqX_str, dEnumI_x, enX_tup, enX_ref, dRevA, dRevD, dSIndex, dLtS, dUpper, dListS, dDisp1, dRevT, dInS, dSortA, dIsi2, isT2, Bool.or_true, Bool.true_or, Bool.or_false, Bool.or_self, dCallX, dRaise, dTryO, dTryA, dRaise1, dExF, dCls, dIsX, ↓exOne, WD0, ↓X0_, ↓X1_, ↓X2_, ↓X3_]
    refine ⟨fun hr => ⟨by omega, cd_k hk hk2, ?_⟩, fun hr => ⟨cm_l (by omega) (by omega), cm_r (by omega) (by omega), by decide, cd_k (k := 1009) (by decide) (by decide), cm_l (by omega) (by omega), by decide, cd_k (k := 2003) (by decide) (by decide), cm_l (by omega) (by omega), by decide, cd_k (k := 16) (by decide) (by decide), by omega, ?_⟩⟩
    · obtain ⟨v, hv, e⟩ := drawn (x := r) hk
      rw [e]
      exact ⟨M, flat_close (ns := [r / (k : Int), x, c]) hp ⟨_, _, _, rfl, Int.ediv_nonneg g1 (by omega), g2, g3⟩, h v hv⟩
    · generalize (_ / 16 : Int) = z
      obtain ⟨v, hv, e⟩ := drawn (x := z) hk
      rw [e]
      exact ⟨M, flat_close (ns := [r, x, c + 1]) hp ⟨_, _, _, rfl, g1, g2, by omega⟩, h v hv⟩
end
/-- the chain that is ahead -/
def Lx : List Nat → List Nat → Bool
  | [], [] => false
  | [], _ :: _ => true
  | _ :: _, [] => false
  | x :: c, y :: d => if x = y then Lx c d else decide (y < x)
theorem lex_neg : ∀ c d : List Nat, HT.lexLt (c.map fun i : Nat => -(i : Int)) (d.map fun i : Nat => -(i : Int)) = Lx c d
  | [], [] => rfl
  | [], _ :: _ => rfl
  | _ :: _, [] => rfl
  | x :: c, y :: d => by
    rw [List.map_cons, List.map_cons, HT.lexLt_cons, lex_neg c d]
    show _ = if x = y then Lx c d else decide (y < x)
    by_cases e : x = y
    · subst e; rw [if_pos rfl, if_pos rfl]
    · rw [if_neg e, if_neg (by omega)]
      exact decide_eq_decide.mpr (by omega)
theorem Lx_eq : ∀ c d : List Nat, Lx c d = false → Lx d c = false → c = d
  | [], [], _, _ => rfl
  | [], _ :: _, h, _ => by simp [Lx] at h
  | _ :: _, [], _, h => by simp [Lx] at h
  | x :: c, y :: d, h1, h2 => by
    unfold Lx at h1 h2
    by_cases e : x = y
    · subst e
      rw [if_pos rfl] at h1 h2
      rw [Lx_eq c d h1 h2]
    · rw [if_neg e] at h1
      rw [if_neg fun z => e z.symm] at h2
      rw [decide_eq_false_iff_not] at h1 h2
      omega
/-! ### words -/
def sg (n : Nat) : Str := ⟨#[n]⟩
def wS (c : List Nat) : Str := ⟨(c.map fun i => 122 - i).toArray⟩
abbrev L26 : Str := Str.ofString "zyxwvutsrqponmlkjihgfedcba"
theorem L26_len : L26.length = 26 := by decide +kernel
theorem L26_at {i : Nat} (h : i < 26) : L26.cps.toList[i]? = some (122 - i) := by
  have : ∀ i < 26, L26.cps.toList[i]? = some (122 - i) := by decide +kernel
  exact this i h
theorem L26_mem {i : Nat} (h : i < 26) : (122 - i) ∈ L26.cps.toList := List.mem_of_getElem? (L26_at h)
theorem L26_index {i : Nat} (h : i < 26) : ∃ rest, Builtin.Str.occurrences L26 (sg (122 - i)) 0 L26.length 1 = i :: rest := by
  have : ∀ i < 26, (Builtin.Str.occurrences L26 (sg (122 - i)) 0 L26.length 1).head? = some i := by decide +kernel
  have e := this i h
  cases o : Builtin.Str.occurrences L26 (sg (122 - i)) 0 L26.length 1 with
  | nil => rw [o] at e; cases e
  | cons a r => rw [o] at e; injection e with e; exact ⟨r, by rw [e]⟩
theorem wS_list (c : List Nat) : (wS c).cps.toList = c.map fun i => 122 - i := rfl
theorem jl27 : ∀ l : List (List Nat), TL.joinL [] l = l.flatten
  | [] => rfl
  | [a] => by simp [TL.joinL]
  | a :: b :: l => by
    have ih := jl27 (b :: l)
    rw [TL.joinL, ih, List.nil_append]; rfl
theorem fl27 : ∀ c : List Nat, (c.map fun i => [122 - i]).flatten = c.map fun i => 122 - i
  | [] => rfl
  | x :: c => by rw [List.map_cons, List.flatten_cons, fl27 c]; rfl
theorem wS_join (c : List Nat) : Txt.join (Str.ofString "") (c.map fun i => sg (122 - i)) = wS c := by
  apply TSS.str_ext
  rw [TL.join_eq]
  have e := TL.tl_join (Str.ofString "") (c.map fun i => sg (122 - i))
  have e0 : TL.tl (Str.ofString "") = [] := by decide +kernel
  rw [e0, jl27, List.map_map] at e
  exact e.trans (fl27 c)
theorem wS_lti : ∀ {c d : List Nat}, (∀ i ∈ c, i < 26) → (∀ i ∈ d, i < 26) → ((wS c).cps.toList < (wS d).cps.toList ↔ Lx c d = true)
  | [], [], _, _ => ⟨fun h => absurd h (List.not_lt_nil _), fun h => nomatch h⟩
  | [], _ :: _, _, _ => ⟨fun _ => rfl, fun _ => List.nil_lt_cons ..⟩
  | _ :: _, [], _, _ => ⟨fun h => absurd h (List.not_lt_nil _), fun h => nomatch h⟩
  | x :: c, y :: d, h1, h2 => by
    have ih := wS_lti (c := c) (d := d) (fun i hi => h1 i (by simp [hi])) fun i hi => h2 i (by simp [hi])
    have hx := h1 x (by simp)
    have hy := h2 y (by simp)
    rw [wS_list, wS_list] at ih ⊢
    rw [List.map_cons, List.map_cons, List.cons_lt_cons_iff, ih]
    show _ ↔ (if x = y then Lx c d else decide (y < x)) = true
    by_cases e : x = y
    · subst e
      rw [if_pos rfl]
      exact ⟨fun h => h.elim (fun z => absurd z (Nat.lt_irrefl _)) (fun z => z.2), fun h => .inr ⟨rfl, h⟩⟩
    · rw [if_neg e, decide_eq_true_eq]
      exact ⟨fun h => h.elim (fun z => by omega) (fun z => by omega), fun h => .inl (by omega)⟩
theorem wS_lt {c d : List Nat} (h1 : ∀ i ∈ c, i < 26) (h2 : ∀ i ∈ d, i < 26) : decide ((wS c).cps.toList < (wS d).cps.toList) = Lx c d := by
  have e := wS_lti h1 h2
  cases h : Lx c d with
  | true => exact decide_eq_true (e.mpr h)
  | false => exact decide_eq_false fun z => by rw [e.mp z] at h; cases h
theorem wS_inj {c d : List Nat} (h1 : ∀ i ∈ c, i < 26) (h2 : ∀ i ∈ d, i < 26) (h : wS c = wS d) : c = d := by
  have e : (c.map fun i => 122 - i) = d.map fun i => 122 - i := by rw [← wS_list, ← wS_list, h]
  have : ∀ {c d : List Nat}, (∀ i ∈ c, i < 26) → (∀ i ∈ d, i < 26) → (c.map fun i => 122 - i) = (d.map fun i => 122 - i) → c = d := fun {c} => by
    induction c with
    | nil => intro d _ _ h; cases d with
      | nil => rfl
      | cons y d => simp at h
    | cons x c ih => intro d h1 h2 h; cases d with
      | nil => simp at h
      | cons y d =>
        rw [List.map_cons, List.map_cons, List.cons.injEq] at h
        have hx := h1 x (by simp)
        have hy := h2 y (by simp)
        rw [ih (fun i hi => h1 i (by simp [hi])) (fun i hi => h2 i (by simp [hi])) h.2, show x = y by omega]
  exact this h1 h2 e
/-! ### falling texts and their beginnings: the plain law -/
theorem rgx {n i : Nat} {x : D} (h : ((List.range n).map nD)[i]? = some x) : i < n ∧ x = nD i := by
  rw [List.getElem?_map] at h
  obtain ⟨j, hj, rfl⟩ := Option.map_eq_some_iff.mp h
  obtain ⟨h1, h2⟩ := List.getElem?_eq_some_iff.mp hj
  rw [List.length_range] at h1
  rw [List.getElem_range] at h2
  exact ⟨by omega, by rw [h2]⟩
theorem rg_len (n : Nat) : ((List.range n).map nD).length = n := by rw [List.length_map, List.length_range]

theorem lx_as31 : ∀ {a b : List Nat}, Lx a b = true → Lx b a = false
  | [], [], h => by simp [Lx] at h
  | [], _ :: _, _ => rfl
  | _ :: _, [], h => by simp [Lx] at h
  | x :: a, y :: b, h => by
    have ih := lx_as31 (a := a) (b := b)
    have h : (if x = y then Lx a b else decide (y < x)) = true := h
    show (if y = x then Lx b a else decide (x < y)) = false
    by_cases e : x = y
    · subst e
      rw [if_pos rfl] at h ⊢
      exact ih h
    · rw [if_neg e, decide_eq_true_eq] at h
      rw [if_neg (fun z => e z.symm)]
      exact decide_eq_false (by omega)
/-- a falling text, its signs counted from z -/
structure Fal (c : List Nat) : Prop where
  ne : c ≠ []
  asc : c.Pairwise (· < ·)
  lt : ∀ i ∈ c, i < 26
theorem asc_len {n : Nat} : ∀ {c : List Nat}, c.Pairwise (· < ·) → (∀ i ∈ c, i < n) → ∀ m, (∀ i ∈ c, m ≤ i) → c.length + m ≤ max n m
  | [], _, _, m, _ => by simp only [List.length_nil]; omega
  | a :: c, h, hb, m, hm => by
    obtain ⟨h1, h2⟩ := List.pairwise_cons.mp h
    have ha := hb a (by simp)
    have hma := hm a (by simp)
    have := asc_len (n := n) h2 (fun i hi => hb i (by simp [hi])) (a + 1) fun i hi => h1 i hi
    rw [List.length_cons]
    omega
theorem Fal.len {c : List Nat} (h : Fal c) : c.length ≤ 26 := by
  have := asc_len h.asc h.lt 0 fun _ _ => Nat.zero_le _
  omega
theorem Fal.pos {c : List Nat} (h : Fal c) : 0 < c.length := List.length_pos_iff.mpr h.ne
theorem Fal.take {c : List Nat} (h : Fal c) {k : Nat} (h0 : 0 < k) : Fal (c.take k) := ⟨fun z => by
  have := h.pos
  have e := congrArg List.length z
  rw [List.length_take, List.length_nil] at e
  omega, h.asc.sublist (List.take_sublist _ _), fun i hi => h.lt i (List.mem_of_mem_take hi)⟩
/-- the beginnings, not whole -/
def Pre (T : List (List Nat)) (c : List Nat) : Prop := ∃ t ∈ T, ∃ k, 0 < k ∧ k < t.length ∧ c = t.take k
theorem Pre.fal {T : List (List Nat)} (h : ∀ t ∈ T, Fal t) {c : List Nat} (p : Pre T c) : Fal c := by
  obtain ⟨t, ht, k, h0, _, rfl⟩ := p
  exact (h t ht).take h0
/-- what lacks, in order -/
structure Lk (T L : List (List Nat)) : Prop where
  ord : L.Pairwise fun c d => Lx c d = true
  mem : ∀ c, c ∈ L ↔ Pre T c ∧ c ∉ T
theorem Lk.nd {T L : List (List Nat)} (h : Lk T L) : L.Nodup := h.ord.imp fun {a b} hab z => by
  subst z
  have := lx_as31 hab
  rw [hab] at this
  cases this
theorem Lk.uni {T L L' : List (List Nat)} (h : Lk T L) (h' : Lk T L') : L = L' :=
  List.Perm.eq_of_pairwise (le := fun a b => Lx a b = true) (fun a b _ _ h1 h2 => by rw [lx_as31 h1] at h2; cases h2) h.ord h'.ord ((List.perm_ext_iff_of_nodup h.nd h'.nd).mpr fun c => (h.mem c).trans (h'.mem c).symm)
theorem Lk.fal {T L : List (List Nat)} (h : Lk T L) (hF : ∀ t ∈ T, Fal t) : ∀ c ∈ L, Fal c := fun c hc => ((h.mem c).mp hc).1.fal hF
theorem pre_pre {T : List (List Nat)} {t c : List Nat} {k : Nat} (p : Pre T t) (h0 : 0 < k) (hk : k < t.length) (e : c = t.take k) : Pre T c := by
  obtain ⟨u, hu, m, m0, hm, rfl⟩ := p
  rw [List.length_take] at hk
  exact ⟨u, hu, k, h0, by omega, by rw [e, List.take_take, Nat.min_eq_left (by omega)]⟩
theorem Lk.pre {T L R : List (List Nat)} (h : Lk T L) (hR : ∀ r ∈ R, r ∈ T ∨ r ∈ L) {c : List Nat} (p : Pre R c) : Pre T c := by
  obtain ⟨t, ht, k, h0, hk, e⟩ := p
  rcases hR t ht with z | z
  · exact ⟨t, z, k, h0, hk, e⟩
  · exact pre_pre ((h.mem t).mp z).1 h0 hk e
theorem Lk.all {T L : List (List Nat)} (h : Lk T L) : Lk (T ++ L.reverse) [] := by
  refine ⟨.nil, fun c => ⟨fun z => (by cases z), fun ⟨p, n⟩ => ?_⟩⟩
  have p2 := h.pre (fun r hr => by rcases List.mem_append.mp hr with z | z; exact .inl z; exact .inr (List.mem_reverse.mp z)) p
  exact absurd (List.mem_append.mpr (Decidable.byCases (p := c ∈ T) (fun y => .inl y) fun y => .inr (List.mem_reverse.mpr ((h.mem c).mpr ⟨p2, y⟩)))) n
theorem Lk.one {T L : List (List Nat)} (h : Lk T L) {k : Nat} (hk : k < L.length) : Lk (T ++ L.take k ++ L.drop (k + 1)) [L.getD k []] := by
  have eL : L = L.take k ++ L.getD k [] :: L.drop (k + 1) := by
    have : L.getD k [] = L[k] := by rw [List.getD_eq_getElem?_getD, List.getElem?_eq_getElem hk]; rfl
    rw [this, List.getElem_cons_drop, List.take_append_drop]
  have nd := h.nd
  have mm := h.mem
  generalize L.getD k [] = x at *
  generalize L.take k = A at *
  generalize L.drop (k + 1) = B at *
  have nA : x ∉ A := fun z => by
    rw [eL] at nd
    exact (List.nodup_append.mp nd).2.2 x z x (by simp) rfl
  have nB : x ∉ B := fun z => by
    rw [eL] at nd
    exact (List.nodup_cons.mp (List.nodup_append.mp nd).2.1).1 z
  have hR : ∀ r ∈ T ++ A ++ B, r ∈ T ∨ r ∈ L := fun r hr => by
    rw [eL]
    simp only [List.mem_append, List.mem_cons] at hr ⊢
    rcases hr with (z | z) | z
    · exact .inl z
    · exact .inr (.inl z)
    · exact .inr (.inr (.inr z))
  refine ⟨List.pairwise_singleton _ _, fun c => ⟨fun z => ?_, fun ⟨p, n⟩ => ?_⟩⟩
  · rw [List.mem_singleton] at z
    subst z
    obtain ⟨⟨t, ht, r⟩, q⟩ := (mm c).mp (by rw [eL]; simp)
    refine ⟨⟨t, by simp [ht], r⟩, fun z => ?_⟩
    simp only [List.mem_append] at z
    rcases z with (z | z) | z
    · exact q z
    · exact nA z
    · exact nB z
  · have p2 := h.pre hR p
    simp only [List.mem_append, not_or] at n
    have := (mm c).mpr ⟨p2, n.1.1⟩
    rw [eL] at this
    simp only [List.mem_append, List.mem_cons] at this
    rcases this with z | z | z
    · exact absurd z n.1.2
    · rw [z]; simp
    · exact absurd z n.2
theorem snoc_ind31 {α : Type} {P : List α → Prop} (h0 : P []) (h : ∀ l a, P l → P (l ++ [a])) (l : List α) : P l := by
  have : ∀ l : List α, P l.reverse := fun l => by
    induction l with
    | nil => exact h0
    | cons a l ih => rw [List.reverse_cons]; exact h _ _ ih
  have := this l.reverse
  rwa [List.reverse_reverse] at this
/-- each once, those that pass -/
def addK (q : List Nat → Bool) (K : List (List Nat)) (c : List Nat) : List (List Nat) := if q c = true ∧ c ∉ K then K ++ [c] else K
def addF (q : List Nat → Bool) (xs : List (List Nat)) : List (List Nat) := xs.foldl (addK q) []
theorem addF_snoc (q : List Nat → Bool) (xs : List (List Nat)) (c : List Nat) : addF q (xs ++ [c]) = addK q (addF q xs) c := by
  unfold addF
  rw [List.foldl_append]; rfl
theorem addF_mem (q : List Nat → Bool) (xs : List (List Nat)) : (addF q xs).Nodup ∧ (∀ c, c ∈ addF q xs ↔ c ∈ xs ∧ q c = true) ∧ (addF q xs).length ≤ xs.length := by
  refine snoc_ind31 (P := fun xs => (addF q xs).Nodup ∧ (∀ c, c ∈ addF q xs ↔ c ∈ xs ∧ q c = true) ∧ (addF q xs).length ≤ xs.length) ⟨.nil, fun c => ⟨fun z => (by cases z), fun z => (by cases z.1)⟩, Nat.le_refl _⟩ (fun xs a ih => ?_) xs
  obtain ⟨h1, h2, h3⟩ := ih
  rw [addF_snoc]
  unfold addK
  by_cases h : q a = true ∧ a ∉ addF q xs
  · rw [if_pos h]
    refine ⟨List.nodup_append.mpr ⟨h1, by simp, fun x hx y hy z => ?_⟩, fun c => ?_, by simp only [List.length_append, List.length_singleton]; omega⟩
    · rw [List.mem_singleton] at hy
      subst hy; subst z
      exact h.2 hx
    · rw [List.mem_append, h2, List.mem_append, List.mem_singleton]
      constructor
      · rintro (z | rfl)
        · exact ⟨.inl z.1, z.2⟩
        · exact ⟨.inr rfl, h.1⟩
      · rintro ⟨z | rfl, w⟩
        · exact .inl ⟨z, w⟩
        · exact .inr rfl
  · rw [if_neg h]
    refine ⟨h1, fun c => ?_, by simp only [List.length_append, List.length_singleton]; omega⟩
    rw [h2, List.mem_append, List.mem_singleton]
    constructor
    · exact fun z => ⟨.inl z.1, z.2⟩
    · rintro ⟨z | rfl, w⟩
      · exact ⟨z, w⟩
      · exact (h2 c).mp (Decidable.byContradiction fun n => h ⟨w, n⟩)
/-- the beginnings of a text, of texts -/
def prT (t : List Nat) : List (List Nat) := (List.range (t.length - 1)).map fun j => t.take (j + 1)
def prA (T : List (List Nat)) : List (List Nat) := (T.map prT).flatten
theorem prA_snoc (T : List (List Nat)) (t : List Nat) : prA (T ++ [t]) = prA T ++ prT t := by
  unfold prA
  rw [List.map_append, List.flatten_append]; simp
theorem prA_mem {T : List (List Nat)} {c : List Nat} : c ∈ prA T ↔ Pre T c := by
  unfold prA prT Pre
  rw [List.mem_flatten]
  constructor
  · rintro ⟨l, hl, hc⟩
    obtain ⟨t, ht, rfl⟩ := List.mem_map.mp hl
    obtain ⟨j, hj, rfl⟩ := List.mem_map.mp hc
    have := List.mem_range.mp hj
    exact ⟨t, ht, j + 1, by omega, by omega, rfl⟩
  · rintro ⟨t, ht, k, h0, hk, rfl⟩
    exact ⟨_, List.mem_map.mpr ⟨t, ht, rfl⟩, List.mem_map.mpr ⟨k - 1, List.mem_range.mpr (by omega), by rw [show k - 1 + 1 = k by omega]⟩⟩
theorem prA_len : ∀ {T : List (List Nat)}, (∀ t ∈ T, Fal t) → (prA T).length ≤ 25 * T.length
  | [], _ => by simp [prA]
  | t :: T, h => by
    have ih := prA_len (T := T) fun t ht => h t (by simp [ht])
    have := (h t (by simp)).len
    have e : prA (t :: T) = prT t ++ prA T := rfl
    rw [e, List.length_append, List.length_cons]
    have : (prT t).length = t.length - 1 := by unfold prT; rw [List.length_map, List.length_range]
    omega
theorem lk_of {T K L : List (List Nat)} (nd : K.Nodup) (mm : ∀ c, c ∈ K ↔ c ∈ prA T ∧ c ∉ T) (p : L.Perm K) (o : L.Pairwise fun c d => Lx d c = false) : Lk T L := by
  refine ⟨?_, fun c => by rw [p.mem_iff, mm, prA_mem]⟩
  have nL : L.Nodup := p.nodup_iff.mpr nd
  refine (o.and nL).imp fun {a b} h => ?_
  cases e : Lx a b with
  | true => rfl
  | false => exact absurd (Lx_eq _ _ e h.1) h.2
theorem get_of31 {xs : List Nat} {j : Nat} (h : j < xs.length) : xs[j]? = some (xs.getD j 0) := by
  rw [List.getD_eq_getElem?_getD, List.getElem?_eq_getElem h]; rfl
/-! ### dicts keyed by texts -/
def wD (c : List Nat) : D := .str (wS c)
def dkW (K : List (List Nat)) : List (Key × D) := K.map fun c => (.inr (wS c), .bl true)
theorem dkW_has {K : List (List Nat)} {c : List Nat} (hK : ∀ d ∈ K, ∀ i ∈ d, i < 26) (hc : ∀ i ∈ c, i < 26) : ((dkW K).any fun kv => decide (kv.1 = (.inr (wS c) : Key))) = decide (c ∈ K) := by
  rw [Bool.eq_iff_iff, List.any_eq_true, decide_eq_true_eq]
  constructor
  · rintro ⟨kv, h1, h2⟩
    obtain ⟨d, hd, rfl⟩ := List.mem_map.mp h1
    have e : wS d = wS c := Sum.inr.inj (of_decide_eq_true h2)
    rw [← wS_inj (hK d hd) hc e]
    exact hd
  · exact fun h => ⟨_, List.mem_map.mpr ⟨c, h, rfl⟩, decide_eq_true rfl⟩
theorem dkW_put {K : List (List Nat)} {c : List Nat} (hK : ∀ d ∈ K, ∀ i ∈ d, i < 26) (hc : ∀ i ∈ c, i < 26) : putKD (dkW K) (.inr (wS c)) (.bl true) = dkW (addK (fun _ => true) K c) := by
  unfold putKD addK
  rw [dkW_has hK hc]
  by_cases h : c ∈ K
  · rw [if_pos (decide_eq_true h), if_neg (by simp [h])]
    unfold dkW
    rw [List.map_map]
    refine List.map_congr_left fun d _ => ?_
    show (if _ then _ else _) = _
    split <;> rfl
  · rw [if_neg (by simp [h]), if_pos ⟨rfl, h⟩]
    unfold dkW
    rw [List.map_append]; rfl
theorem dkW_val {K : List (List Nat)} {c : List Nat} (hK : ∀ d ∈ K, ∀ i ∈ d, i < 26) (hc : ∀ i ∈ c, i < 26) : (valD (dkW K) (.inr (wS c))).isSome = decide (c ∈ K) := by
  rw [← dkW_has hK hc]
  generalize dkW K = l
  induction l with
  | nil => rfl
  | cons a l ih =>
    rw [valD_cons, List.any_cons]
    by_cases e : a.1 = .inr (wS c)
    · rw [if_pos e, decide_eq_true e]; rfl
    · rw [if_neg e, decide_eq_false e, ih]; rfl
theorem wS_len31 (c : List Nat) : (wS c).length = c.length := by
  show (wS c).cps.size = _
  rw [← Array.length_toList, wS_list, List.length_map]
theorem cutW (c : List Nat) (k : Nat) : cutS (wS c) none (some (k : Int)) = wS (c.take k) := by
  apply TSS.str_ext
  show (((wS c).cps.toList.drop (HT.sIx (wS c).length 0 none)).take (HT.sIx (wS c).length (wS c).length (some (k : Int)) - HT.sIx (wS c).length 0 none)).toArray.toList = _
  rw [HT.sIx_none, HT.sIx_nat, List.drop_zero, Nat.sub_zero, wS_len31, wS_list, wS_list, List.map_take]
  conv => rhs; rw [List.take_eq_take_min, List.length_map]
theorem wS_sn31 (c : List Nat) (i : Nat) : wS c ++ (⟨#[122 - i]⟩ : Str) = wS (c ++ [i]) := by
  apply TSS.str_ext
  rw [wS_list, List.map_append, ← wS_list]
  exact Array.toList_append
theorem app31 (a b : Str) : (a ++ b).cps.toList = a.cps.toList ++ b.cps.toList := Array.toList_append
/-! ### is it falling -/
def fallB (l : List Nat) : Bool := decide (l ≠ []) && l.all (fun c => decide (c ∈ L26.cps.toList)) && (List.range (l.length - 1)).all fun a => decide ([l.getD (a + 1) 0] < [l.getD a 0])
theorem one_lt (a b : Nat) : ([a] : List Nat) < [b] ↔ a < b := by
  constructor
  · intro h
    cases h with
    | rel h => exact h
    | cons h => cases h
  · exact fun h => .rel h
theorem fall_out {l : List Nat} {x : Nat} (h : x ∈ l) (n : x ∉ L26.cps.toList) : fallB l = false := by
  unfold fallB
  have : l.all (fun c => decide (c ∈ L26.cps.toList)) = false := by
    rw [Bool.eq_false_iff]
    intro z
    exact n (of_decide_eq_true (List.all_eq_true.mp z x h))
  rw [this, Bool.and_false, Bool.false_and]
theorem fall_step {l : List Nat} {a : Nat} (h : a + 1 < l.length) (n : l.getD (a + 1) 0 = l.getD a 0) : fallB l = false := by
  unfold fallB
  have : ((List.range (l.length - 1)).all fun a => decide ([l.getD (a + 1) 0] < [l.getD a 0])) = false := by
    rw [Bool.eq_false_iff]
    intro z
    have := of_decide_eq_true (List.all_eq_true.mp z a (List.mem_range.mpr (by omega)))
    rw [one_lt] at this
    omega
  rw [this, Bool.and_false]
theorem wS_at {c : List Nat} {i : Nat} (h : i < c.length) : (wS c).cps.toList.getD i 0 = 122 - c.getD i 0 := by
  rw [wS_list, List.getD_eq_getElem?_getD, List.getElem?_map, List.getD_eq_getElem?_getD, List.getElem?_eq_getElem h]; rfl
theorem fall_ok {c : List Nat} (h : Fal c) : fallB (wS c).cps.toList = true := by
  unfold fallB
  rw [Bool.and_eq_true, Bool.and_eq_true]
  have hl : (wS c).cps.toList.length = c.length := by rw [wS_list, List.length_map]
  refine ⟨⟨decide_eq_true fun z => ?_, List.all_eq_true.mpr fun x hx => ?_⟩, List.all_eq_true.mpr fun a ha => ?_⟩
  · rw [z] at hl
    have := h.pos
    rw [List.length_nil] at hl
    omega
  · rw [wS_list] at hx
    obtain ⟨i, hi, rfl⟩ := List.mem_map.mp hx
    exact decide_eq_true (L26_mem (h.lt i hi))
  · have ha := List.mem_range.mp ha
    rw [hl] at ha
    rw [decide_eq_true_eq, one_lt, wS_at (by omega), wS_at (by omega)]
    have h1 := get_of31 (xs := c) (j := a) (by omega)
    have h2 := get_of31 (xs := c) (j := a + 1) (by omega)
    have := List.pairwise_iff_getElem.mp h.asc a (a + 1) (by omega) (by omega) (by omega)
    have := h.lt _ (List.mem_of_getElem? h2)
    rw [List.getElem?_eq_getElem (by omega)] at h1 h2
    have h1 := Option.some.inj h1
    have h2 := Option.some.inj h2
    omega
theorem L26_low {x : Nat} (h : x ∈ L26.cps.toList) : 97 ≤ x ∧ x ≤ 122 := by
  have : ∀ y ∈ L26.cps.toList, 97 ≤ y ∧ y ≤ 122 := by decide +kernel
  exact this x h
theorem up_out {c : List Nat} (h : Fal c) : fallB (Txt.upper (wS c)).cps.toList = false := by
  have low : ∀ x ∈ (wS c).cps.toList, x < 128 := fun x hx => by
    rw [wS_list] at hx
    obtain ⟨i, _, rfl⟩ := List.mem_map.mp hx
    omega
  rw [PyProof.Rows.upper_ascii low]
  obtain ⟨i, c', rfl⟩ : ∃ i c', c = i :: c' := by
    cases c with
    | nil => exact absurd rfl h.ne
    | cons i c' => exact ⟨i, c', rfl⟩
  have hi := h.lt i (by simp)
  refine fall_out (x := PyProof.Rows.up1 (122 - i)) ?_ fun z => ?_
  · rw [Array.toList_map, wS_list]
    simp
  · have := L26_low z
    unfold PyProof.Rows.up1 at this
    rw [if_pos (by omega)] at this
    omega
theorem fall_last {c : List Nat} (h : Fal c) : fallB (wS c ++ (⟨#[122 - c.getD (c.length - 1) 0]⟩ : Str)).cps.toList = false := by
  have hp := h.pos
  have hl : (wS c).cps.toList.length = c.length := by rw [wS_list, List.length_map]
  rw [wS_sn31]
  refine fall_step (a := c.length - 1) (by rw [wS_list, List.length_map, List.length_append, List.length_singleton]; omega) ?_
  generalize hx : c.getD (c.length - 1) 0 = x
  have e1 : (c ++ [x]).getD c.length 0 = x := by rw [List.getD_eq_getElem?_getD, List.getElem?_append_right (Nat.le_refl _), Nat.sub_self]; rfl
  have e2 : (c ++ [x]).getD (c.length - 1) 0 = x := by rw [List.getD_eq_getElem?_getD, List.getElem?_append_left (by omega), ← hx, List.getD_eq_getElem?_getD]
  rw [show c.length - 1 + 1 = c.length by omega, wS_at (by simp), wS_at (by rw [List.length_append, List.length_singleton]; omega), e1, e2]
theorem fall_first {c : List Nat} (h : Fal c) : fallB ((⟨#[122 - c.getD 0 0]⟩ : Str) ++ wS c).cps.toList = false := by
  have hp := h.pos
  have hl : (wS c).cps.toList.length = c.length := by rw [wS_list, List.length_map]
  rw [app31]
  refine fall_step (a := 0) (by rw [List.length_append, hl]; show 0 + 1 < 1 + c.length; omega) ?_
  show (wS c).cps.toList.getD 0 0 = 122 - c.getD 0 0
  exact wS_at hp
theorem strOk_w {c : List Nat} : PyData.strOk (wS c) = true := by
  unfold PyData.strOk
  rw [Array.all_eq_true_iff_forall_mem]
  intro x hx
  have hx : x ∈ (wS c).cps.toList := by simpa using hx
  rw [wS_list] at hx
  obtain ⟨i, _, rfl⟩ := List.mem_map.mp hx
  rw [decide_eq_true_eq]
  omega
theorem like_s : Like (fun a : {s : Str // PyData.strOk s = true} => D.str a.1) (fun a => PyData.str a.1) 0 := ⟨fun a b => by
  rw [PyData.eqv]
  by_cases h : a = b
  · subst h; simp
  · have : ¬ a.1 = b.1 := fun z => h (Subtype.ext z)
    simp [h, this], fun a => by simp [PyData.canLay0, a.2], fun a => by simp [PyData.depth], fun M a => .str a.1⟩
/-- the order of words -/
def ltW (a b : List Nat) : Bool := decide ((wS a).cps.toList < (wS b).cps.toList)
def sT (c : List Nat) : {s : Str // PyData.strOk s = true} := ⟨wS c, strOk_w⟩
theorem ltl_s : LikeLt (fun a : {s : Str // PyData.strOk s = true} => D.str a.1) (fun a => PyData.str a.1) 0 (fun a b => decide (a.1.cps.toList < b.1.cps.toList)) := ⟨like_s, fun _ _ => rfl, fun a b => PySem.W.dataLt_str a.1 b.1⟩
theorem perm_map29 {α β : Type} {f : α → β} {l1 l2 : List β} (h : l1.Perm l2) : ∀ l : List α, l2 = l.map f → ∃ T : List α, T.Perm l ∧ l1 = T.map f := by
  induction h with
  | nil => intro l e; cases l with
    | nil => exact ⟨[], .refl _, rfl⟩
    | cons a l => cases e
  | cons x p ih => intro l e; cases l with
    | nil => cases e
    | cons a l =>
      rw [List.map_cons, List.cons.injEq] at e
      obtain ⟨T, pT, eT⟩ := ih l e.2
      exact ⟨a :: T, pT.cons a, by rw [List.map_cons, e.1, eT]⟩
  | swap x y l0 => intro l e; cases l with
    | nil => cases e
    | cons a l => cases l with
      | nil => cases e
      | cons b l =>
        rw [List.map_cons, List.map_cons, List.cons.injEq, List.cons.injEq] at e
        exact ⟨b :: a :: l, .swap a b l, by rw [List.map_cons, List.map_cons, e.1, e.2.1, e.2.2]⟩
  | trans p q ih1 ih2 =>
    intro l e
    obtain ⟨T2, p2, e2⟩ := ih2 l e
    obtain ⟨T1, p1, e1⟩ := ih1 T2 e2
    exact ⟨T1, p1.trans p2, e1⟩
theorem dkW_fold {T : List (List Nat)} (h : ∀ t ∈ T, ∀ i ∈ t, i < 26) : T.foldl (fun acc t => putKD acc (.inr (wS t) : Key) (.bl true)) [] = dkW (addF (fun _ => true) T) := by
  have : ∀ T, (∀ t ∈ T, ∀ i ∈ t, i < 26) → T.foldl (fun acc t => putKD acc (.inr (wS t) : Key) (.bl true)) [] = dkW (addF (fun _ => true) T) := fun T => by
    refine snoc_ind31 (P := fun T => (∀ t ∈ T, ∀ i ∈ t, i < 26) → T.foldl (fun acc t => putKD acc (.inr (wS t) : Key) (.bl true)) [] = dkW (addF (fun _ => true) T)) (fun _ => rfl) (fun T a ih h => ?_) T
    rw [List.foldl_append, ih fun t ht => h t (by simp [ht]), addF_snoc]
    exact dkW_put (fun d hd => h d (by have := ((addF_mem (fun _ => true) T).2.1 d).mp hd; simp [this.1])) (h a (by simp))
  exact this T h
theorem rng31 (n : Nat) (h : 0 < n) : rngD 1 (n : Int) = (List.range (n - 1)).map fun i : Nat => nD (i + 1) := by
  unfold rngD
  rw [show ((n : Int) - 1).toNat = n - 1 by omega]
  exact List.map_congr_left fun i _ => by show D.int (1 + (i : Int)) = D.int ((i + 1 : Nat) : Int); rw [Int.natCast_add, Int.add_comm]; rfl
/-- no text -/
def NotS (M : Hd) (w : D) : Prop := w = .non ∨ (∃ i, w = .int i) ∨ (∃ b, w = .bl b) ∨ (∃ xs, w = .tup xs) ∨ ∃ p xs, w = .ref p ∧ M p = some (.lst xs)
theorem NotS.sub {M M' : Hd} {w : D} (h : NotS M w) (s : Sub M' M) : NotS M' w := by
  rcases h with h | h | h | h | ⟨p, xs, rfl, h⟩
  · exact .inl h
  · exact .inr (.inl h)
  · exact .inr (.inr (.inl h))
  · exact .inr (.inr (.inr (.inl h)))
  · exact .inr (.inr (.inr (.inr ⟨p, xs, rfl, s.1 _ _ h⟩)))
/-- a thing, and whether it falls -/
def FalR (M : Hd) (w : D) (b : Bool) : Prop := (∃ z : Str, w = .str z ∧ z.length ≤ 100 ∧ b = fallB z.cps.toList) ∨ (NotS M w ∧ b = false)
theorem FalR.sub {M M' : Hd} {w : D} {b : Bool} (h : FalR M w b) (s : Sub M' M) : FalR M' w b := by
  rcases h with h | ⟨h, e⟩
  · exact .inl h
  · exact .inr ⟨h.sub s, e⟩
theorem FalR.ok {M : Hd} {c : List Nat} (h : Fal c) : FalR M (wD c) true := .inl ⟨wS c, rfl, by rw [wS_len31]; have := h.len; omega, (fall_ok h).symm⟩
/-- things that are refused -/
def BadX (M : Hd) (x : D) : Prop := x = .non ∨ (∃ z, x = .str z) ∨ (∃ p kvs, x = .ref p ∧ M p = some (.dK kvs)) ∨
  ∃ (p : Addr) (ps : List (D × Bool)), x = .ref p ∧ M p = some (.lst (ps.map (·.1))) ∧ ps.length ≤ 100 ∧ (∀ d ∈ ps, FalR M d.1 d.2) ∧ ∃ d ∈ ps, d.2 = false
section
variable {P : Program} {w : World} {K : PySem.W.Frag} {mg : Str → Option Value} {base : Heap}
theorem pr_is_listed (G : Gv K mg) : Pr P w K mg base "is_listed" 1 ["thing"] (S1 fun x M Q => (∃ ds, SqO M x ds ∧ Q (.bl true) M) ∨ ((x = .non ∨ (∃ z, x = .str z) ∨ ∃ p kvs, x = .ref p ∧ M p = some (.dK kvs)) ∧ Q (.bl false) M)) := by
  refine (pr3 (k := 0) G.d_is_listed bi_is_listed sc_is_listed S1n (fun f cdv A outer s H E hr => (b_one (s_ret (e_callB cd_isi2 (by rfl) G.b_isinstance rfl (a_cons (e_var 0) (a_cons (e_tup (a_cons (e_ty (by rfl) G.b_list rfl) (a_cons (e_ty (by rfl) G.b_tuple rfl) a_nil))) a_nil))))))) ?_
  rintro _ M Q E ⟨_, rfl, ⟨ds, rfl | ⟨f, rfl, hf⟩, h⟩ | ⟨rfl | ⟨z, rfl⟩ | ⟨p, kvs, rfl, hp⟩, h⟩⟩ H rep
  · refine ⟨M, rep, fun _ h => h, ?_⟩
    simp only [startD, List.map_cons, List.map_nil, List.length_cons, List.length_nil, Nat.reduceAdd, Nat.reduceSub, Nat.zero_add, List.replicate, List.cons_append, List.nil_append]; simp (config := {failIfUnchanged := false}) only [dC, dOp, dTest, dChain, dAnd, dOr, dNot, dAndV, dOrV, dNotV, dIf, dNil, dCons, dTup, dLst, dCB, d1, dNoPart, dPart, dSl, dCut, dNeg, dSorted, dSum, dAll, dAny, dInt, dAbs, dMax, dMin, dIsi, isT, dNext, dSeq, dBrk, dCont, dNever, dExpr, dRet, dRetN, dIfS, dAsg, dPutI, dI0, dI, dIsN, dNotN, dRng1, dRng2, dRngDn, dZipI, dYes, dCall, dLM, dAppend, dExtend, dReverse, dInsert, dAugI, dRg1, dRg2, dTupRg, dLstRg, dNewK, dNewT, ↓S0_, ↓S1_, ↓S2_, ↓S3_, ↓S4_, ↓S5_, ↓S6_, List.map_cons, List.map_nil, List.length_cons, List.length_nil, List.replicate, List.cons_append, List.nil_append, Nat.reduceAdd, Nat.reduceSub, Nat.zero_add, List.getElem?_cons_zero, List.getElem?_cons_succ, Option.some.injEq, exists_eq_left, exists_eq_left', List.set_cons_zero, List.set_cons_succ, wipeD, D.int.injEq, D.bl.injEq, D.str.injEq, D.ref.injEq, D.tup.injEq, D.ty.injEq, true_and, and_true, forall_const, forall_eq', forall_eq, mt_int, mt_bool, mt_str, mt_tuple, mt_list, mt_dict, st_int_int, st_int_bool, st_int_str, st_int_tuple, st_int_list, st_int_dict, st_bool_int, st_bool_bool, st_bool_str, st_bool_tuple, st_bool_list, st_bool_dict, st_str_int, st_str_bool, st_str_str, st_str_tuple, st_str_list, st_str_dict, st_tuple_int, st_tuple_bool, st_tuple_str, st_tuple_tuple, st_tuple_list, st_tuple_dict, st_list_int, st_list_bool, st_list_str, st_list_tuple, st_list_list, st_list_dict, st_dict_int, st_dict_bool, st_dict_str, st_dict_tuple, st_dict_list, st_dict_dict, eq_self, Bool.true_eq_false, Bool.false_eq_true, false_implies, true_implies, implies_true, decide_eq_true_eq, decide_eq_false_iff_not, Bool.not_true, Bool.not_false, Bool.not_eq_true, Bool.not_eq_false, Bool.not_eq_true', Bool.not_eq_false', not_true_eq_false, not_false_eq_true, false_and, and_false, or_false, false_or, reduceCtorEq, ↓exLSu, ↓exDKu, ↓exDKd, ↓exLSd, ↓exLu, ↓dIxRu, ↓dPutu, ↓dGetAu, ↓dEq_int, ↓dNe_int, ↓dEq_bl, ↓dNe_bl, ↓dEq_str, ↓dNe_str, ↓dAdd_int, ↓exAt10, ↓exIx10, ↓exAt20, ↓exIx20, ↓exAt21, ↓exIx21, ↓exAt30, ↓exIx30, ↓exAt31, ↓exIx31, ↓exAt32, ↓exIx32, ↓exAt40, ↓exIx40, ↓exAt41, ↓exIx41, ↓exAt42, ↓exIx42, ↓exAt43, ↓exIx43, ↓exAt50, ↓exIx50, ↓exAt51, ↓exIx51, ↓exAt52, ↓exIx52, ↓exAt53, ↓exIx53, ↓exAt54, ↓exIx54, ↓exAt60, ↓exIx60, ↓exAt61, ↓exIx61, ↓exAt62, ↓exIx62, ↓exAt63, ↓exIx63, ↓exAt64, ↓exIx64, ↓exAt65, ↓exIx65, up_up, false_or, or_false, ↓exAtM, ↓dFlag_bl, ↓exBl, ↓exInt, ↓exRef, ↓dVar0, ↓dAug0, ↓dSet0, ↓dTgN0, ↓dTgW0, ↓dVar1, ↓dAug1, ↓dSet1, ↓dTgN1, ↓dTgW1, ↓dVar2, ↓dAug2, ↓dSet2, ↓dTgN2, ↓dTgW2, ↓dVar3, ↓dAug3, ↓dSet3, ↓dTgN3, ↓dTgW3, ↓dVar4, ↓dAug4, ↓dSet4, ↓dTgN4, ↓dTgW4, ↓dVar5, ↓dAug5, ↓dSet5, ↓dTgN5, ↓dTgW5, ↓dVar6, ↓dAug6, ↓dSet6, ↓dTgN6, ↓dTgW6, ↓dVar7, ↓dAug7, ↓dSet7, ↓dTgN7, ↓dTgW7, ↓dVar8, ↓dAug8, ↓dSet8, ↓dTgN8, ↓dTgW8, ↓dVar9, ↓dAug9, ↓dSet9, ↓dTgN9, ↓dTgW9, ↓dVar10, ↓dAug10, ↓dSet10, ↓dTgN10, ↓dTgW10, ↓dVar11, ↓dAug11, ↓dSet11, ↓dTgN11, ↓dTgW11, ↓dVar12, ↓dAug12, ↓dSet12, ↓dTgN12, ↓dTgW12, ↓dVar13, ↓dAug13, ↓dSet13, ↓dTgN13, ↓dTgW13, ↓dVar14, ↓dAug14, ↓dSet14, ↓dTgN14, ↓dTgW14, ↓dVar15, ↓dAug15, ↓dSet15, ↓dTgN15, ↓dTgW15, ↓dVar16, ↓dAug16, ↓dSet16, ↓dTgN16, ↓dTgW16, ↓dVar17, ↓dAug17, ↓dSet17, ↓dTgN17, ↓dTgW17, ↓dVar18, ↓dAug18, ↓dSet18, ↓dTgN18, ↓dTgW18, ↓dVar19, ↓dAug19, ↓dSet19, ↓dTgN19, ↓dTgW19, ↓dTg_t2, ↓dTg_t3, ↓exGetM, ↓exSumU, nD, plD, rwD, ↓dAdd_tup, ↓dAdd_ref, dIx_tup, dIx_str, dIx_ref, dIx_kl, dListOf_tup, dListOf_kl, dListOf_ref, dLen_tup, dLen_str, dLen_kl, dLen_ref, dTupOf_tup, dTupOf_ref, dSeqI_x, sqX_tup, sqX_ref, sqX_str, dEnumI_x, enX_tup, enX_ref, dRevA, dRevD, dSIndex, dLtS, dUpper, dListS, dDisp1, dRevT, dInS, dSortA, dIsi2, isT2, Bool.or_true, Bool.true_or, Bool.or_false, Bool.or_self, dCallX, dRaise, dTryO, dTryA, dRaise1, dExF, dCls, dIsX, ↓exOne, WD0, ↓X0_, ↓X1_, ↓X2_, ↓X3_]
    exact dn0 h
  · refine ⟨M, rep, fun _ h => h, ?_⟩
    simp only [startD, List.map_cons, List.map_nil, List.length_cons, List.length_nil, Nat.reduceAdd, Nat.reduceSub, Nat.zero_add, List.replicate, List.cons_append, List.nil_append]; simp (config := {failIfUnchanged := false}) only [dC, dOp, dTest, dChain, dAnd, dOr, dNot, dAndV, dOrV, dNotV, dIf, dNil, dCons, dTup, dLst, dCB, d1, dNoPart, dPart, dSl, dCut, dNeg, dSorted, dSum, dAll, dAny, dInt, dAbs, dMax, dMin, dIsi, isT, dNext, dSeq, dBrk, dCont, dNever, dExpr, dRet, dRetN, dIfS, dAsg, dPutI, dI0, dI, dIsN, dNotN, dRng1, dRng2, dRngDn, dZipI, dYes, dCall, dLM, dAppend, dExtend, dReverse, dInsert, dAugI, dRg1, dRg2, dTupRg, dLstRg, dNewK, dNewT, ↓S0_, ↓S1_, ↓S2_, ↓S3_, ↓S4_, ↓S5_, ↓S6_, List.map_cons, List.map_nil, List.length_cons, List.length_nil, List.replicate, List.cons_append, List.nil_append, Nat.reduceAdd, Nat.reduceSub, Nat.zero_add, List.getElem?_cons_zero, List.getElem?_cons_succ, Option.some.injEq, exists_eq_left, exists_eq_left', List.set_cons_zero, List.set_cons_succ, wipeD, D.int.injEq, D.bl.injEq, D.str.injEq, D.ref.injEq, D.tup.injEq, D.ty.injEq, true_and, and_true, forall_const, forall_eq', forall_eq, mt_int, mt_bool, mt_str, mt_tuple, mt_list, mt_dict, st_int_int, st_int_bool, st_int_str, st_int_tuple, st_int_list, st_int_dict, st_bool_int, st_bool_bool, st_bool_str, st_bool_tuple, st_bool_list, st_bool_dict, st_str_int, st_str_bool, st_str_str, st_str_tuple, st_str_list, st_str_dict, st_tuple_int, st_tuple_bool, st_tuple_str, st_tuple_tuple, st_tuple_list, st_tuple_dict, st_list_int, st_list_bool, st_list_str, st_list_tuple, st_list_list, st_list_dict, st_dict_int, st_dict_bool, st_dict_str, st_dict_tuple, st_dict_list, st_dict_dict, eq_self, Bool.true_eq_false, Bool.false_eq_true, false_implies, true_implies, implies_true, decide_eq_true_eq, decide_eq_false_iff_not, Bool.not_true, Bool.not_false, Bool.not_eq_true, Bool.not_eq_false, Bool.not_eq_true', Bool.not_eq_false', not_true_eq_false, not_false_eq_true, false_and, and_false, or_false, false_or, reduceCtorEq, ↓exLSu, ↓exDKu, ↓exDKd, ↓exLSd, ↓exLu, ↓dIxRu, ↓dPutu, ↓dGetAu, ↓dEq_int, ↓dNe_int, ↓dEq_bl, ↓dNe_bl, ↓dEq_str, ↓dNe_str, ↓dAdd_int, ↓exAt10, ↓exIx10, ↓exAt20, ↓exIx20, ↓exAt21, ↓exIx21, ↓exAt30, ↓exIx30, ↓exAt31, ↓exIx31, ↓exAt32, ↓exIx32, ↓exAt40, ↓exIx40, ↓exAt41, ↓exIx41, ↓exAt42, ↓exIx42, ↓exAt43, ↓exIx43, ↓exAt50, ↓exIx50, ↓exAt51, ↓exIx51, ↓exAt52, ↓exIx52, ↓exAt53, ↓exIx53, ↓exAt54, ↓exIx54, ↓exAt60, ↓exIx60, ↓exAt61, ↓exIx61, ↓exAt62, ↓exIx62, ↓exAt63, ↓exIx63, ↓exAt64, ↓exIx64, ↓exAt65, ↓exIx65, up_up, false_or, or_false, ↓exAtM, ↓dFlag_bl, ↓exBl, ↓exInt, ↓exRef, ↓dVar0, ↓dAug0, ↓dSet0, ↓dTgN0, ↓dTgW0, ↓dVar1, ↓dAug1, ↓dSet1, ↓dTgN1, ↓dTgW1, ↓dVar2, ↓dAug2, ↓dSet2, ↓dTgN2, ↓dTgW2, ↓dVar3, ↓dAug3, ↓dSet3, ↓dTgN3, ↓dTgW3, ↓dVar4, ↓dAug4, ↓dSet4, ↓dTgN4, ↓dTgW4, ↓dVar5, ↓dAug5, ↓dSet5, ↓dTgN5, ↓dTgW5, ↓dVar6, ↓dAug6, ↓dSet6, ↓dTgN6, ↓dTgW6, ↓dVar7, ↓dAug7, ↓dSet7, ↓dTgN7, ↓dTgW7, ↓dVar8, ↓dAug8, ↓dSet8, ↓dTgN8, ↓dTgW8, ↓dVar9, ↓dAug9, ↓dSet9, ↓dTgN9, ↓dTgW9, ↓dVar10, ↓dAug10, ↓dSet10, ↓dTgN10, ↓dTgW10, ↓dVar11, ↓dAug11, ↓dSet11, ↓dTgN11, ↓dTgW11, ↓dVar12, ↓dAug12, ↓dSet12, ↓dTgN12, ↓dTgW12, ↓dVar13, ↓dAug13, ↓dSet13, ↓dTgN13, ↓dTgW13, ↓dVar14, ↓dAug14, ↓dSet14, ↓dTgN14, ↓dTgW14, ↓dVar15, ↓dAug15, ↓dSet15, ↓dTgN15, ↓dTgW15, ↓dVar16, ↓dAug16, ↓dSet16, ↓dTgN16, ↓dTgW16, ↓dVar17, ↓dAug17, ↓dSet17, ↓dTgN17, ↓dTgW17, ↓dVar18, ↓dAug18, ↓dSet18, ↓dTgN18, ↓dTgW18, ↓dVar19, ↓dAug19, ↓dSet19, ↓dTgN19, ↓dTgW19, ↓dTg_t2, ↓dTg_t3, ↓exGetM, ↓exSumU, nD, plD, rwD, ↓dAdd_tup, ↓dAdd_ref, dIx_tup, dIx_str, dIx_ref, dIx_kl, dListOf_tup, dListOf_kl, dListOf_ref, dLen_tup, dLen_str, dLen_kl, dLen_ref, dTupOf_tup, dTupOf_ref, dSeqI_x, sqX_tup, sqX_ref, sqX_str, dEnumI_x, enX_tup, enX_ref, dRevA, dRevD, dSIndex, dLtS, dUpper, dListS, dDisp1, dRevT, dInS, dSortA, dIsi2, isT2, Bool.or_true, Bool.true_or, Bool.or_false, Bool.or_self, dCallX, dRaise, dTryO, dTryA, dRaise1, dExF, dCls, dIsX, ↓exOne, WD0, ↓X0_, ↓X1_, ↓X2_, ↓X3_]
    exact .inl ⟨ds, hf, dn0 h⟩
  · refine ⟨M, rep, fun _ h => h, ?_⟩
    simp only [startD, List.map_cons, List.map_nil, List.length_cons, List.length_nil, Nat.reduceAdd, Nat.reduceSub, Nat.zero_add, List.replicate, List.cons_append, List.nil_append]; simp (config := {failIfUnchanged := false}) only [dC, dOp, dTest, dChain, dAnd, dOr, dNot, dAndV, dOrV, dNotV, dIf, dNil, dCons, dTup, dLst, dCB, d1, dNoPart, dPart, dSl, dCut, dNeg, dSorted, dSum, dAll, dAny, dInt, dAbs, dMax, dMin, dIsi, isT, dNext, dSeq, dBrk, dCont, dNever, dExpr, dRet, dRetN, dIfS, dAsg, dPutI, dI0, dI, dIsN, dNotN, dRng1, dRng2, dRngDn, dZipI, dYes, dCall, dLM, dAppend, dExtend, dReverse, dInsert, dAugI, dRg1, dRg2, dTupRg, dLstRg, dNewK, dNewT, ↓S0_, ↓S1_, ↓S2_, ↓S3_, ↓S4_, ↓S5_, ↓S6_, List.map_cons, List.map_nil, List.length_cons, List.length_nil, List.replicate, List.cons_append, List.nil_append, Nat.reduceAdd, Nat.reduceSub, Nat.zero_add, List.getElem?_cons_zero, List.getElem?_cons_succ, Option.some.injEq, exists_eq_left, exists_eq_left', List.set_cons_zero, List.set_cons_succ, wipeD, D.int.injEq, D.bl.injEq, D.str.injEq, D.ref.injEq, D.tup.injEq, D.ty.injEq, true_and, and_true, forall_const, forall_eq', forall_eq, mt_int, mt_bool, mt_str, mt_tuple, mt_list, mt_dict, st_int_int, st_int_bool, st_int_str, st_int_tuple, st_int_list, st_int_dict, st_bool_int, st_bool_bool, st_bool_str, st_bool_tuple, st_bool_list, st_bool_dict, st_str_int, st_str_bool, st_str_str, st_str_tuple, st_str_list, st_str_dict, st_tuple_int, st_tuple_bool, st_tuple_str, st_tuple_tuple, st_tuple_list, st_tuple_dict, st_list_int, st_list_bool, st_list_str, st_list_tuple, st_list_list, st_list_dict, st_dict_int, st_dict_bool, st_dict_str, st_dict_tuple, st_dict_list, st_dict_dict, eq_self, Bool.true_eq_false, Bool.false_eq_true, false_implies, true_implies, implies_true, decide_eq_true_eq, decide_eq_false_iff_not, Bool.not_true, Bool.not_false, Bool.not_eq_true, Bool.not_eq_false, Bool.not_eq_true', Bool.not_eq_false', not_true_eq_false, not_false_eq_true, false_and, and_false, or_false, false_or, reduceCtorEq, ↓exLSu, ↓exDKu, ↓exDKd, ↓exLSd, ↓exLu, ↓dIxRu, ↓dPutu, ↓dGetAu, ↓dEq_int, ↓dNe_int, ↓dEq_bl, ↓dNe_bl, ↓dEq_str, ↓dNe_str, ↓dAdd_int, ↓exAt10, ↓exIx10, ↓exAt20, ↓exIx20, ↓exAt21, ↓exIx21, ↓exAt30, ↓exIx30, ↓exAt31, ↓exIx31, ↓exAt32, ↓exIx32, ↓exAt40, ↓exIx40, ↓exAt41, ↓exIx41, ↓exAt42, ↓exIx42, ↓exAt43, ↓exIx43, ↓exAt50, ↓exIx50, ↓exAt51, ↓exIx51, ↓exAt52, ↓exIx52, ↓exAt53, ↓exIx53, ↓exAt54, ↓exIx54, ↓exAt60, ↓exIx60, ↓exAt61, ↓exIx61, ↓exAt62, ↓exIx62, ↓exAt63, ↓exIx63, ↓exAt64, ↓exIx64, ↓exAt65, ↓exIx65, up_up, false_or, or_false, ↓exAtM, ↓dFlag_bl, ↓exBl, ↓exInt, ↓exRef, ↓dVar0, ↓dAug0, ↓dSet0, ↓dTgN0, ↓dTgW0, ↓dVar1, ↓dAug1, ↓dSet1, ↓dTgN1, ↓dTgW1, ↓dVar2, ↓dAug2, ↓dSet2, ↓dTgN2, ↓dTgW2, ↓dVar3, ↓dAug3, ↓dSet3, ↓dTgN3, ↓dTgW3, ↓dVar4, ↓dAug4, ↓dSet4, ↓dTgN4, ↓dTgW4, ↓dVar5, ↓dAug5, ↓dSet5, ↓dTgN5, ↓dTgW5, ↓dVar6, ↓dAug6, ↓dSet6, ↓dTgN6, ↓dTgW6, ↓dVar7, ↓dAug7, ↓dSet7, ↓dTgN7, ↓dTgW7, ↓dVar8, ↓dAug8, ↓dSet8, ↓dTgN8, ↓dTgW8, ↓dVar9, ↓dAug9, ↓dSet9, ↓dTgN9, ↓dTgW9, ↓dVar10, ↓dAug10, ↓dSet10, ↓dTgN10, ↓dTgW10, ↓dVar11, ↓dAug11, ↓dSet11, ↓dTgN11, ↓dTgW11, ↓dVar12, ↓dAug12, ↓dSet12, ↓dTgN12, ↓dTgW12, ↓dVar13, ↓dAug13, ↓dSet13, ↓dTgN13, ↓dTgW13, ↓dVar14, ↓dAug14, ↓dSet14, ↓dTgN14, ↓dTgW14, ↓dVar15, ↓dAug15, ↓dSet15, ↓dTgN15, ↓dTgW15, ↓dVar16, ↓dAug16, ↓dSet16, ↓dTgN16, ↓dTgW16, ↓dVar17, ↓dAug17, ↓dSet17, ↓dTgN17, ↓dTgW17, ↓dVar18, ↓dAug18, ↓dSet18, ↓dTgN18, ↓dTgW18, ↓dVar19, ↓dAug19, ↓dSet19, ↓dTgN19, ↓dTgW19, ↓dTg_t2, ↓dTg_t3, ↓exGetM, ↓exSumU, nD, plD, rwD, ↓dAdd_tup, ↓dAdd_ref, dIx_tup, dIx_str, dIx_ref, dIx_kl, dListOf_tup, dListOf_kl, dListOf_ref, dLen_tup, dLen_str, dLen_kl, dLen_ref, dTupOf_tup, dTupOf_ref, dSeqI_x, sqX_tup, sqX_ref, sqX_str, dEnumI_x, enX_tup, enX_ref, dRevA, dRevD, dSIndex, dLtS, dUpper, dListS, dDisp1, dRevT, dInS, dSortA, dIsi2, isT2, Bool.or_true, Bool.true_or, Bool.or_false, Bool.or_self, dCallX, dRaise, dTryO, dTryA, dRaise1, dExF, dCls, dIsX, ↓exOne, WD0, ↓X0_, ↓X1_, ↓X2_, ↓X3_]
    exact dn0 h
  · refine ⟨M, rep, fun _ h => h, ?_⟩
    simp only [startD, List.map_cons, List.map_nil, List.length_cons, List.length_nil, Nat.reduceAdd, Nat.reduceSub, Nat.zero_add, List.replicate, List.cons_append, List.nil_append]; simp (config := {failIfUnchanged := false}) only [dC, dOp, dTest, dChain, dAnd, dOr, dNot, dAndV, dOrV, dNotV, dIf, dNil, dCons, dTup, dLst, dCB, d1, dNoPart, dPart, dSl, dCut, dNeg, dSorted, dSum, dAll, dAny, dInt, dAbs, dMax, dMin, dIsi, isT, dNext, dSeq, dBrk, dCont, dNever, dExpr, dRet, dRetN, dIfS, dAsg, dPutI, dI0, dI, dIsN, dNotN, dRng1, dRng2, dRngDn, dZipI, dYes, dCall, dLM, dAppend, dExtend, dReverse, dInsert, dAugI, dRg1, dRg2, dTupRg, dLstRg, dNewK, dNewT, ↓S0_, ↓S1_, ↓S2_, ↓S3_, ↓S4_, ↓S5_, ↓S6_, List.map_cons, List.map_nil, List.length_cons, List.length_nil, List.replicate, List.cons_append, List.nil_append, Nat.reduceAdd, Nat.reduceSub, Nat.zero_add, List.getElem?_cons_zero, List.getElem?_cons_succ, Option.some.injEq, exists_eq_left, exists_eq_left', List.set_cons_zero, List.set_cons_succ, wipeD, D.int.injEq, D.bl.injEq, D.str.injEq, D.ref.injEq, D.tup.injEq, D.ty.injEq, true_and, and_true, forall_const, forall_eq', forall_eq, mt_int, mt_bool, mt_str, mt_tuple, mt_list, mt_dict, st_int_int, st_int_bool, st_int_str, st_int_tuple, st_int_list, st_int_dict, st_bool_int, st_bool_bool, st_bool_str, st_bool_tuple, st_bool_list, st_bool_dict, st_str_int, st_str_bool, st_str_str, st_str_tuple, st_str_list, st_str_dict, st_tuple_int, st_tuple_bool, st_tuple_str, st_tuple_tuple, st_tuple_list, st_tuple_dict, st_list_int, st_list_bool, st_list_str, st_list_tuple, st_list_list, st_list_dict, st_dict_int, st_dict_bool, st_dict_str, st_dict_tuple, st_dict_list, st_dict_dict, eq_self, Bool.true_eq_false, Bool.false_eq_true, false_implies, true_implies, implies_true, decide_eq_true_eq, decide_eq_false_iff_not, Bool.not_true, Bool.not_false, Bool.not_eq_true, Bool.not_eq_false, Bool.not_eq_true', Bool.not_eq_false', not_true_eq_false, not_false_eq_true, false_and, and_false, or_false, false_or, reduceCtorEq, ↓exLSu, ↓exDKu, ↓exDKd, ↓exLSd, ↓exLu, ↓dIxRu, ↓dPutu, ↓dGetAu, ↓dEq_int, ↓dNe_int, ↓dEq_bl, ↓dNe_bl, ↓dEq_str, ↓dNe_str, ↓dAdd_int, ↓exAt10, ↓exIx10, ↓exAt20, ↓exIx20, ↓exAt21, ↓exIx21, ↓exAt30, ↓exIx30, ↓exAt31, ↓exIx31, ↓exAt32, ↓exIx32, ↓exAt40, ↓exIx40, ↓exAt41, ↓exIx41, ↓exAt42, ↓exIx42, ↓exAt43, ↓exIx43, ↓exAt50, ↓exIx50, ↓exAt51, ↓exIx51, ↓exAt52, ↓exIx52, ↓exAt53, ↓exIx53, ↓exAt54, ↓exIx54, ↓exAt60, ↓exIx60, ↓exAt61, ↓exIx61, ↓exAt62, ↓exIx62, ↓exAt63, ↓exIx63, ↓exAt64, ↓exIx64, ↓exAt65, ↓exIx65, up_up, false_or, or_false, ↓exAtM, ↓dFlag_bl, ↓exBl, ↓exInt, ↓exRef, ↓dVar0, ↓dAug0, ↓dSet0, ↓dTgN0, ↓dTgW0, ↓dVar1, ↓dAug1, ↓dSet1, ↓dTgN1, ↓dTgW1, ↓dVar2, ↓dAug2, ↓dSet2, ↓dTgN2, ↓dTgW2, ↓dVar3, ↓dAug3, ↓dSet3, ↓dTgN3, ↓dTgW3, ↓dVar4, ↓dAug4, ↓dSet4, ↓dTgN4, ↓dTgW4, ↓dVar5, ↓dAug5, ↓dSet5, ↓dTgN5, ↓dTgW5, ↓dVar6, ↓dAug6, ↓dSet6, ↓dTgN6, ↓dTgW6, ↓dVar7, ↓dAug7, ↓dSet7, ↓dTgN7, ↓dTgW7, ↓dVar8, ↓dAug8, ↓dSet8, ↓dTgN8, ↓dTgW8, ↓dVar9, ↓dAug9, ↓dSet9, ↓dTgN9, ↓dTgW9, ↓dVar10, ↓dAug10, ↓dSet10, ↓dTgN10, ↓dTgW10, ↓dVar11, ↓dAug11, ↓dSet11, ↓dTgN11, ↓dTgW11, ↓dVar12, ↓dAug12, ↓dSet12, ↓dTgN12, ↓dTgW12, ↓dVar13, ↓dAug13, ↓dSet13, ↓dTgN13, ↓dTgW13, ↓dVar14, ↓dAug14, ↓dSet14, ↓dTgN14, ↓dTgW14, ↓dVar15, ↓dAug15, ↓dSet15, ↓dTgN15, ↓dTgW15, ↓dVar16, ↓dAug16, ↓dSet16, ↓dTgN16, ↓dTgW16, ↓dVar17, ↓dAug17, ↓dSet17, ↓dTgN17, ↓dTgW17, ↓dVar18, ↓dAug18, ↓dSet18, ↓dTgN18, ↓dTgW18, ↓dVar19, ↓dAug19, ↓dSet19, ↓dTgN19, ↓dTgW19, ↓dTg_t2, ↓dTg_t3, ↓exGetM, ↓exSumU, nD, plD, rwD, ↓dAdd_tup, ↓dAdd_ref, dIx_tup, dIx_str, dIx_ref, dIx_kl, dListOf_tup, dListOf_kl, dListOf_ref, dLen_tup, dLen_str, dLen_kl, dLen_ref, dTupOf_tup, dTupOf_ref, dSeqI_x, sqX_tup, sqX_ref, sqX_str, dEnumI_x, enX_tup, enX_ref, dRevA, dRevD, dSIndex, dLtS, dUpper, dListS, dDisp1, dRevT, dInS, dSortA, dIsi2, isT2, Bool.or_true, Bool.true_or, Bool.or_false, Bool.or_self, dCallX, dRaise, dTryO, dTryA, dRaise1, dExF, dCls, dIsX, ↓exOne, WD0, ↓X0_, ↓X1_, ↓X2_, ↓X3_]
    exact dn0 h
  · refine ⟨M, rep, fun _ h => h, ?_⟩
    simp only [startD, List.map_cons, List.map_nil, List.length_cons, List.length_nil, Nat.reduceAdd, Nat.reduceSub, Nat.zero_add, List.replicate, List.cons_append, List.nil_append]; simp (config := {failIfUnchanged := false}) only [dC, dOp, dTest, dChain, dAnd, dOr, dNot, dAndV, dOrV, dNotV, dIf, dNil, dCons, dTup, dLst, dCB, d1, dNoPart, dPart, dSl, dCut, dNeg, dSorted, dSum, dAll, dAny, dInt, dAbs, dMax, dMin, dIsi, isT, dNext, dSeq, dBrk, dCont, dNever, dExpr, dRet, dRetN, dIfS, dAsg, dPutI, dI0, dI, dIsN, dNotN, dRng1, dRng2, dRngDn, dZipI, dYes, dCall, dLM, dAppend, dExtend, dReverse, dInsert, dAugI, dRg1, dRg2, dTupRg, dLstRg, dNewK, dNewT, ↓S0_, ↓S1_, ↓S2_, ↓S3_, ↓S4_, ↓S5_, ↓S6_, List.map_cons, List.map_nil, List.length_cons, List.length_nil, List.replicate, List.cons_append, List.nil_append, Nat.reduceAdd, Nat.reduceSub, Nat.zero_add, List.getElem?_cons_zero, List.getElem?_cons_succ, Option.some.injEq, exists_eq_left, exists_eq_left', List.set_cons_zero, List.set_cons_succ, wipeD, D.int.injEq, D.bl.injEq, D.str.injEq, D.ref.injEq, D.tup.injEq, D.ty.injEq, true_and, and_true, forall_const, forall_eq', forall_eq, mt_int, mt_bool, mt_str, mt_tuple, mt_list, mt_dict, st_int_int, st_int_bool, st_int_str, st_int_tuple, st_int_list, st_int_dict, st_bool_int, st_bool_bool, st_bool_str, st_bool_tuple, st_bool_list, st_bool_dict, st_str_int, st_str_bool, st_str_str, st_str_tuple, st_str_list, st_str_dict, st_tuple_int, st_tuple_bool, st_tuple_str, st_tuple_tuple, st_tuple_list, st_tuple_dict, st_list_int, st_list_bool, st_list_str, st_list_tuple, st_list_list, st_list_dict, st_dict_int, st_dict_bool, st_dict_str, st_dict_tuple, st_dict_list, st_dict_dict, eq_self, Bool.true_eq_false, Bool.false_eq_true, false_implies, true_implies, implies_true, decide_eq_true_eq, decide_eq_false_iff_not, Bool.not_true, Bool.not_false, Bool.not_eq_true, Bool.not_eq_false, Bool.not_eq_true', Bool.not_eq_false', not_true_eq_false, not_false_eq_true, false_and, and_false, or_false, false_or, reduceCtorEq, ↓exLSu, ↓exDKu, ↓exDKd, ↓exLSd, ↓exLu, ↓dIxRu, ↓dPutu, ↓dGetAu, ↓dEq_int, ↓dNe_int, ↓dEq_bl, ↓dNe_bl, ↓dEq_str, ↓dNe_str, ↓dAdd_int, ↓exAt10, ↓exIx10, ↓exAt20, ↓exIx20, ↓exAt21, ↓exIx21, ↓exAt30, ↓exIx30, ↓exAt31, ↓exIx31, ↓exAt32, ↓exIx32, ↓exAt40, ↓exIx40, ↓exAt41, ↓exIx41, ↓exAt42, ↓exIx42, ↓exAt43, ↓exIx43, ↓exAt50, ↓exIx50, ↓exAt51, ↓exIx51, ↓exAt52, ↓exIx52, ↓exAt53, ↓exIx53, ↓exAt54, ↓exIx54, ↓exAt60, ↓exIx60, ↓exAt61, ↓exIx61, ↓exAt62, ↓exIx62, ↓exAt63, ↓exIx63, ↓exAt64, ↓exIx64, ↓exAt65, ↓exIx65, up_up, false_or, or_false, ↓exAtM, ↓dFlag_bl, ↓exBl, ↓exInt, ↓exRef, ↓dVar0, ↓dAug0, ↓dSet0, ↓dTgN0, ↓dTgW0, ↓dVar1, ↓dAug1, ↓dSet1, ↓dTgN1, ↓dTgW1, ↓dVar2, ↓dAug2, ↓dSet2, ↓dTgN2, ↓dTgW2, ↓dVar3, ↓dAug3, ↓dSet3, ↓dTgN3, ↓dTgW3, ↓dVar4, ↓dAug4, ↓dSet4, ↓dTgN4, ↓dTgW4, ↓dVar5, ↓dAug5, ↓dSet5, ↓dTgN5, ↓dTgW5, ↓dVar6, ↓dAug6, ↓dSet6, ↓dTgN6, ↓dTgW6, ↓dVar7, ↓dAug7, ↓dSet7, ↓dTgN7, ↓dTgW7, ↓dVar8, ↓dAug8, ↓dSet8, ↓dTgN8, ↓dTgW8, ↓dVar9, ↓dAug9, ↓dSet9, ↓dTgN9, ↓dTgW9, ↓dVar10, ↓dAug10, ↓dSet10, ↓dTgN10, ↓dTgW10, ↓dVar11, ↓dAug11, ↓dSet11, ↓dTgN11, ↓dTgW11, ↓dVar12, ↓dAug12, ↓dSet12, ↓dTgN12, ↓dTgW12, ↓dVar13, ↓dAug13, ↓dSet13, ↓dTgN13, ↓dTgW13, ↓dVar14, ↓dAug14, ↓dSet14, ↓dTgN14, ↓dTgW14, ↓dVar15, ↓dAug15, ↓dSet15, ↓dTgN15, ↓dTgW15, ↓dVar16, ↓dAug16, ↓dSet16, ↓dTgN16, ↓dTgW16, ↓dVar17, ↓dAug17, ↓dSet17, ↓dTgN17, ↓dTgW17, ↓dVar18, ↓dAug18, ↓dSet18, ↓dTgN18, ↓dTgW18, ↓dVar19, ↓dAug19, ↓dSet19, ↓dTgN19, ↓dTgW19, ↓dTg_t2, ↓dTg_t3, ↓exGetM, ↓exSumU, nD, plD, rwD, ↓dAdd_tup, ↓dAdd_ref, dIx_tup, dIx_str, dIx_ref, dIx_kl, dListOf_tup, dListOf_kl, dListOf_ref, dLen_tup, dLen_str, dLen_kl, dLen_ref, dTupOf_tup, dTupOf_ref, dSeqI_x, sqX_tup, sqX_ref, sqX_str, dEnumI_x, enX_tup, enX_ref, dRevA, dRevD, dSIndex, dLtS, dUpper, dListS, dDisp1, dRevT, dInS, dSortA, dIsi2, isT2, Bool.or_true, Bool.true_or, Bool.or_false, Bool.or_self, dCallX, dRaise, dTryO, dTryA, dRaise1, dExF, dCls, dIsX, ↓exOne, WD0, ↓X0_, ↓X1_, ↓X2_, ↓X3_]
    exact .inr ⟨kvs, hp, dn0 h⟩
theorem pr_is_falling (G : Gv K mg) : Pr P w K mg base "is_falling" 1 ["thing"] (S1 fun x M Q => ∃ b, FalR M x b ∧ Q (.bl b) M) := by
  refine (pr3 (k := 0) G.d_is_falling bi_is_falling sc_is_falling S1n (fun f cdv A outer s H E hr => (b_cons (s_if (PW3.pt (w_or (t_not (t_val (e_callB cd_isi (by rfl) G.b_isinstance rfl (a_cons (e_var 0) (a_cons (e_ty (by rfl) G.b_str rfl) a_nil))))) (w_or (t_cmp (od_eq (hu3 hr)) (e_var 0) e_str) (w_or1 (t_not (t_val (e_callB (cd_all rfl) (by rfl) G.b_all rfl (a_cons (e_lc (own := [("letter", 2)]) rfl sc_is_falling.nd (i_seq (e_var 0)) (blkOk_by (by rfl)) (fun _ _ _ _ _ => (g_nm 2 sc_is_falling.nd)) (fun _ _ _ _ _ => ts_nil) (fun _ _ _ _ _ => (e_cmp od_inS (e_var 2) (e_gstrP G.c_LETTERS (by rfl))))) a_nil)))))))) (b_one (s_ret e_bl)) b_nil)
      (b_one (s_ret (e_callB (cd_all rfl) (by rfl) G.b_all rfl (a_cons (e_lc (own := [("at", 1)]) rfl sc_is_falling.nd (i_rng1 (by rfl) G.b_range (a_cons (e_op od_sub (e_callB cd_len (by rfl) G.b_len rfl (a_cons (e_var 0) a_nil)) e_int) a_nil)) (blkOk_by (by rfl)) (fun _ _ _ _ _ => (g_nm 1 sc_is_falling.nd)) (fun _ _ _ _ _ => ts_nil) (fun _ _ _ _ _ => (e_cmp od_ltS (e_ix (ixd (hu_of hr)) (e_var 0) (e_op od_add (e_var 1) e_int)) (e_ix (ixd (hu_of hr)) (e_var 0) (e_var 1))))) a_nil))))))) ?_
  rintro _ M Q E ⟨_, rfl, b, ⟨z, rfl, hz, rfl⟩ | ⟨rfl | ⟨i, rfl⟩ | ⟨i, rfl⟩ | ⟨xs, rfl⟩ | ⟨p, xs, rfl, hp⟩, rfl⟩, h⟩ H rep
  · refine ⟨M, rep, fun _ h => h, ?_⟩
    simp only [startD, List.map_cons, List.map_nil, List.length_cons, List.length_nil, Nat.reduceAdd, Nat.reduceSub, Nat.zero_add, List.replicate, List.cons_append, List.nil_append]; simp (config := {failIfUnchanged := false}) only [dC, dOp, dTest, dChain, dAnd, dOr, dNot, dAndV, dOrV, dNotV, dIf, dNil, dCons, dTup, dLst, dCB, d1, dNoPart, dPart, dSl, dCut, dNeg, dSorted, dSum, dAll, dAny, dInt, dAbs, dMax, dMin, dIsi, isT, dNext, dSeq, dBrk, dCont, dNever, dExpr, dRet, dRetN, dIfS, dAsg, dPutI, dI0, dI, dIsN, dNotN, dRng1, dRng2, dRngDn, dZipI, dYes, dCall, dLM, dAppend, dExtend, dReverse, dInsert, dAugI, dRg1, dRg2, dTupRg, dLstRg, dNewK, dNewT, ↓S0_, ↓S1_, ↓S2_, ↓S3_, ↓S4_, ↓S5_, ↓S6_, List.map_cons, List.map_nil, List.length_cons, List.length_nil, List.replicate, List.cons_append, List.nil_append, Nat.reduceAdd, Nat.reduceSub, Nat.zero_add, List.getElem?_cons_zero, List.getElem?_cons_succ, Option.some.injEq, exists_eq_left, exists_eq_left', List.set_cons_zero, List.set_cons_succ, wipeD, D.int.injEq, D.bl.injEq, D.str.injEq, D.ref.injEq, D.tup.injEq, D.ty.injEq, true_and, and_true, forall_const, forall_eq', forall_eq, mt_int, mt_bool, mt_str, mt_tuple, mt_list, mt_dict, st_int_int, st_int_bool, st_int_str, st_int_tuple, st_int_list, st_int_dict, st_bool_int, st_bool_bool, st_bool_str, st_bool_tuple, st_bool_list, st_bool_dict, st_str_int, st_str_bool, st_str_str, st_str_tuple, st_str_list, st_str_dict, st_tuple_int, st_tuple_bool, st_tuple_str, st_tuple_tuple, st_tuple_list, st_tuple_dict, st_list_int, st_list_bool, st_list_str, st_list_tuple, st_list_list, st_list_dict, st_dict_int, st_dict_bool, st_dict_str, st_dict_tuple, st_dict_list, st_dict_dict, eq_self, Bool.true_eq_false, Bool.false_eq_true, false_implies, true_implies, implies_true, decide_eq_true_eq, decide_eq_false_iff_not, Bool.not_true, Bool.not_false, Bool.not_eq_true, Bool.not_eq_false, Bool.not_eq_true', Bool.not_eq_false', not_true_eq_false, not_false_eq_true, false_and, and_false, or_false, false_or, reduceCtorEq, ↓exLSu, ↓exDKu, ↓exDKd, ↓exLSd, ↓exLu, ↓dIxRu, ↓dPutu, ↓dGetAu, ↓dEq_int, ↓dNe_int, ↓dEq_bl, ↓dNe_bl, ↓dEq_str, ↓dNe_str, ↓dAdd_int, ↓exAt10, ↓exIx10, ↓exAt20, ↓exIx20, ↓exAt21, ↓exIx21, ↓exAt30, ↓exIx30, ↓exAt31, ↓exIx31, ↓exAt32, ↓exIx32, ↓exAt40, ↓exIx40, ↓exAt41, ↓exIx41, ↓exAt42, ↓exIx42, ↓exAt43, ↓exIx43, ↓exAt50, ↓exIx50, ↓exAt51, ↓exIx51, ↓exAt52, ↓exIx52, ↓exAt53, ↓exIx53, ↓exAt54, ↓exIx54, ↓exAt60, ↓exIx60, ↓exAt61, ↓exIx61, ↓exAt62, ↓exIx62, ↓exAt63, ↓exIx63, ↓exAt64, ↓exIx64, ↓exAt65, ↓exIx65, up_up, false_or, or_false, ↓exAtM, ↓dFlag_bl, ↓exBl, ↓exInt, ↓exRef, ↓dVar0, ↓dAug0, ↓dSet0, ↓dTgN0, ↓dTgW0, ↓dVar1, ↓dAug1, ↓dSet1, ↓dTgN1, ↓dTgW1, ↓dVar2, ↓dAug2, ↓dSet2, ↓dTgN2, ↓dTgW2, ↓dVar3, ↓dAug3, ↓dSet3, ↓dTgN3, ↓dTgW3, ↓dVar4, ↓dAug4, ↓dSet4, ↓dTgN4, ↓dTgW4, ↓dVar5, ↓dAug5, ↓dSet5, ↓dTgN5, ↓dTgW5, ↓dVar6, ↓dAug6, ↓dSet6, ↓dTgN6, ↓dTgW6, ↓dVar7, ↓dAug7, ↓dSet7, ↓dTgN7, ↓dTgW7, ↓dVar8, ↓dAug8, ↓dSet8, ↓dTgN8, ↓dTgW8, ↓dVar9, ↓dAug9, ↓dSet9, ↓dTgN9, ↓dTgW9, ↓dVar10, ↓dAug10, ↓dSet10, ↓dTgN10, ↓dTgW10, ↓dVar11, ↓dAug11, ↓dSet11, ↓dTgN11, ↓dTgW11, ↓dVar12, ↓dAug12, ↓dSet12, ↓dTgN12, ↓dTgW12, ↓dVar13, ↓dAug13, ↓dSet13, ↓dTgN13, ↓dTgW13, ↓dVar14, ↓dAug14, ↓dSet14, ↓dTgN14, ↓dTgW14, ↓dVar15, ↓dAug15, ↓dSet15, ↓dTgN15, ↓dTgW15, ↓dVar16, ↓dAug16, ↓dSet16, ↓dTgN16, ↓dTgW16, ↓dVar17, ↓dAug17, ↓dSet17, ↓dTgN17, ↓dTgW17, ↓dVar18, ↓dAug18, ↓dSet18, ↓dTgN18, ↓dTgW18, ↓dVar19, ↓dAug19, ↓dSet19, ↓dTgN19, ↓dTgW19, ↓dTg_t2, ↓dTg_t3, ↓exGetM, ↓exSumU, nD, plD, rwD, ↓dAdd_tup, ↓dAdd_ref, dIx_tup, dIx_str, dIx_ref, dIx_kl, dListOf_tup, dListOf_kl, dListOf_ref, dLen_tup, dLen_str, dLen_kl, dLen_ref, dTupOf_tup, dTupOf_ref, dSeqI_x, sqX_tup, sqX_ref, sqX_str, dEnumI_x, enX_tup, enX_ref, dRevA, dRevD, dSIndex, dLtS, dUpper, dListS, dDisp1, dRevT, dInS, dSortA, dIsi2, isT2, Bool.or_true, Bool.true_or, Bool.or_false, Bool.or_self, dCallX, dRaise, dTryO, dTryA, dRaise1, dExF, dCls, dIsX, ↓exOne, WD0, ↓X0_, ↓X1_, ↓X2_, ↓X3_]
    refine ⟨fun e => ?_, fun ne => ?_⟩
    · subst e
      rw [show fallB (Str.ofString "").cps.toList = false by decide] at h
      exact dn0 h
    have hl : z.cps.toList.length = z.length := by rw [Array.length_toList]; rfl
    have hz0 : z.cps.toList ≠ [] := fun e => ne (by apply TSS.str_ext; rw [e]; rfl)
    have hp0 : 0 < z.cps.toList.length := List.length_pos_iff.mpr hz0
    refine dLc_g fun F1 T1 U1 h1 t1 u1 => ?_; simp only [dLc, dC, dOp, dTest, dChain, dAnd, dOr, dNot, dAndV, dOrV, dNotV, dIf, dNil, dCons, dTup, dLst, dCB, d1, dNoPart, dPart, dSl, dCut, dNeg, dSorted, dSum, dAll, dAny, dInt, dAbs, dMax, dMin, dIsi, isT, dNext, dSeq, dBrk, dCont, dNever, dExpr, dRet, dRetN, dIfS, dAsg, dPutI, dI0, dI, dIsN, dNotN, dRng1, dRng2, dRngDn, dZipI, dYes, dCall, dLM, dAppend, dExtend, dReverse, dInsert, dAugI, dRg1, dRg2, dTupRg, dLstRg, dNewK, dNewT, ↓S0_, ↓S1_, ↓S2_, ↓S3_, ↓S4_, ↓S5_, ↓S6_, List.map_cons, List.map_nil, List.length_cons, List.length_nil, List.replicate, List.cons_append, List.nil_append, Nat.reduceAdd, Nat.reduceSub, Nat.zero_add, List.getElem?_cons_zero, List.getElem?_cons_succ, Option.some.injEq, exists_eq_left, exists_eq_left', List.set_cons_zero, List.set_cons_succ, wipeD, D.int.injEq, D.bl.injEq, D.str.injEq, D.ref.injEq, D.tup.injEq, D.ty.injEq, true_and, and_true, forall_const, forall_eq', forall_eq, mt_int, mt_bool, mt_str, mt_tuple, mt_list, mt_dict, st_int_int, st_int_bool, st_int_str, st_int_tuple, st_int_list, st_int_dict, st_bool_int, st_bool_bool, st_bool_str, st_bool_tuple, st_bool_list, st_bool_dict, st_str_int, st_str_bool, st_str_str, st_str_tuple, st_str_list, st_str_dict, st_tuple_int, st_tuple_bool, st_tuple_str, st_tuple_tuple, st_tuple_list, st_tuple_dict, st_list_int, st_list_bool, st_list_str, st_list_tuple, st_list_list, st_list_dict, st_dict_int, st_dict_bool, st_dict_str, st_dict_tuple, st_dict_list, st_dict_dict, eq_self, Bool.true_eq_false, Bool.false_eq_true, false_implies, true_implies, implies_true, decide_eq_true_eq, decide_eq_false_iff_not, Bool.not_true, Bool.not_false, Bool.not_eq_true, Bool.not_eq_false, Bool.not_eq_true', Bool.not_eq_false', not_true_eq_false, not_false_eq_true, false_and, and_false, or_false, false_or, reduceCtorEq, ↓exLSu, ↓exDKu, ↓exDKd, ↓exLSd, ↓exLu, ↓dIxRu, ↓dPutu, ↓dGetAu, ↓dEq_int, ↓dNe_int, ↓dEq_bl, ↓dNe_bl, ↓dEq_str, ↓dNe_str, ↓dAdd_int, ↓exAt10, ↓exIx10, ↓exAt20, ↓exIx20, ↓exAt21, ↓exIx21, ↓exAt30, ↓exIx30, ↓exAt31, ↓exIx31, ↓exAt32, ↓exIx32, ↓exAt40, ↓exIx40, ↓exAt41, ↓exIx41, ↓exAt42, ↓exIx42, ↓exAt43, ↓exIx43, ↓exAt50, ↓exIx50, ↓exAt51, ↓exIx51, ↓exAt52, ↓exIx52, ↓exAt53, ↓exIx53, ↓exAt54, ↓exIx54, ↓exAt60, ↓exIx60, ↓exAt61, ↓exIx61, ↓exAt62, ↓exIx62, ↓exAt63, ↓exIx63, ↓exAt64, ↓exIx64, ↓exAt65, ↓exIx65, up_up, false_or, or_false, ↓exAtM, ↓dFlag_bl, ↓exBl, ↓exInt, ↓exRef, ↓dVar0, ↓dAug0, ↓dSet0, ↓dTgN0, ↓dTgW0, ↓dVar1, ↓dAug1, ↓dSet1, ↓dTgN1, ↓dTgW1, ↓dVar2, ↓dAug2, ↓dSet2, ↓dTgN2, ↓dTgW2, ↓dVar3, ↓dAug3, ↓dSet3, ↓dTgN3, ↓dTgW3, ↓dVar4, ↓dAug4, ↓dSet4, ↓dTgN4, ↓dTgW4, ↓dVar5, ↓dAug5, ↓dSet5, ↓dTgN5, ↓dTgW5, ↓dVar6, ↓dAug6, ↓dSet6, ↓dTgN6, ↓dTgW6, ↓dVar7, ↓dAug7, ↓dSet7, ↓dTgN7, ↓dTgW7, ↓dVar8, ↓dAug8, ↓dSet8, ↓dTgN8, ↓dTgW8, ↓dVar9, ↓dAug9, ↓dSet9, ↓dTgN9, ↓dTgW9, ↓dVar10, ↓dAug10, ↓dSet10, ↓dTgN10, ↓dTgW10, ↓dVar11, ↓dAug11, ↓dSet11, ↓dTgN11, ↓dTgW11, ↓dVar12, ↓dAug12, ↓dSet12, ↓dTgN12, ↓dTgW12, ↓dVar13, ↓dAug13, ↓dSet13, ↓dTgN13, ↓dTgW13, ↓dVar14, ↓dAug14, ↓dSet14, ↓dTgN14, ↓dTgW14, ↓dVar15, ↓dAug15, ↓dSet15, ↓dTgN15, ↓dTgW15, ↓dVar16, ↓dAug16, ↓dSet16, ↓dTgN16, ↓dTgW16, ↓dVar17, ↓dAug17, ↓dSet17, ↓dTgN17, ↓dTgW17, ↓dVar18, ↓dAug18, ↓dSet18, ↓dTgN18, ↓dTgW18, ↓dVar19, ↓dAug19, ↓dSet19, ↓dTgN19, ↓dTgW19, ↓dTg_t2, ↓dTg_t3, ↓exGetM, ↓exSumU, nD, plD, rwD, ↓dAdd_tup, ↓dAdd_ref, dIx_tup, dIx_str, dIx_ref, dIx_kl, dListOf_tup, dListOf_kl, dListOf_ref, dLen_tup, dLen_str, dLen_kl, dLen_ref, dTupOf_tup, dTupOf_ref, dSeqI_x, sqX_tup, sqX_ref, sqX_str, dEnumI_x, enX_tup, enX_ref, dRevA, dRevD, dSIndex, dLtS, dUpper, dListS, dDisp1, dRevT, dInS, dSortA, dIsi2, isT2, Bool.or_true, Bool.true_or, Bool.or_false, Bool.or_self, dCallX, dRaise, dTryO, dTryA, dRaise1, dExF, dCls, dIsX, ↓exOne, WD0, ↓X0_, ↓X1_, ↓X2_, ↓X3_]
    refine ⟨by rw [List.length_map, hl]; exact small_es (by omega), lcM (fun c : Nat => .str ⟨#[c]⟩) (fun c => .bl (decide (c ∈ L26.cps.toList))) z.cps.toList rfl (fun l c t pre acc P2 e hP2 => ?_) (fun q hq => ?_)⟩
    · subst t1; subst u1
      simp (config := {failIfUnchanged := false}) only [dC, dOp, dTest, dChain, dAnd, dOr, dNot, dAndV, dOrV, dNotV, dIf, dNil, dCons, dTup, dLst, dCB, d1, dNoPart, dPart, dSl, dCut, dNeg, dSorted, dSum, dAll, dAny, dInt, dAbs, dMax, dMin, dIsi, isT, dNext, dSeq, dBrk, dCont, dNever, dExpr, dRet, dRetN, dIfS, dAsg, dPutI, dI0, dI, dIsN, dNotN, dRng1, dRng2, dRngDn, dZipI, dYes, dCall, dLM, dAppend, dExtend, dReverse, dInsert, dAugI, dRg1, dRg2, dTupRg, dLstRg, dNewK, dNewT, ↓S0_, ↓S1_, ↓S2_, ↓S3_, ↓S4_, ↓S5_, ↓S6_, List.map_cons, List.map_nil, List.length_cons, List.length_nil, List.replicate, List.cons_append, List.nil_append, Nat.reduceAdd, Nat.reduceSub, Nat.zero_add, List.getElem?_cons_zero, List.getElem?_cons_succ, Option.some.injEq, exists_eq_left, exists_eq_left', List.set_cons_zero, List.set_cons_succ, wipeD, D.int.injEq, D.bl.injEq, D.str.injEq, D.ref.injEq, D.tup.injEq, D.ty.injEq, true_and, and_true, forall_const, forall_eq', forall_eq, mt_int, mt_bool, mt_str, mt_tuple, mt_list, mt_dict, st_int_int, st_int_bool, st_int_str, st_int_tuple, st_int_list, st_int_dict, st_bool_int, st_bool_bool, st_bool_str, st_bool_tuple, st_bool_list, st_bool_dict, st_str_int, st_str_bool, st_str_str, st_str_tuple, st_str_list, st_str_dict, st_tuple_int, st_tuple_bool, st_tuple_str, st_tuple_tuple, st_tuple_list, st_tuple_dict, st_list_int, st_list_bool, st_list_str, st_list_tuple, st_list_list, st_list_dict, st_dict_int, st_dict_bool, st_dict_str, st_dict_tuple, st_dict_list, st_dict_dict, eq_self, Bool.true_eq_false, Bool.false_eq_true, false_implies, true_implies, implies_true, decide_eq_true_eq, decide_eq_false_iff_not, Bool.not_true, Bool.not_false, Bool.not_eq_true, Bool.not_eq_false, Bool.not_eq_true', Bool.not_eq_false', not_true_eq_false, not_false_eq_true, false_and, and_false, or_false, false_or, reduceCtorEq, ↓exLSu, ↓exDKu, ↓exDKd, ↓exLSd, ↓exLu, ↓dIxRu, ↓dPutu, ↓dGetAu, ↓dEq_int, ↓dNe_int, ↓dEq_bl, ↓dNe_bl, ↓dEq_str, ↓dNe_str, ↓dAdd_int, ↓exAt10, ↓exIx10, ↓exAt20, ↓exIx20, ↓exAt21, ↓exIx21, ↓exAt30, ↓exIx30, ↓exAt31, ↓exIx31, ↓exAt32, ↓exIx32, ↓exAt40, ↓exIx40, ↓exAt41, ↓exIx41, ↓exAt42, ↓exIx42, ↓exAt43, ↓exIx43, ↓exAt50, ↓exIx50, ↓exAt51, ↓exIx51, ↓exAt52, ↓exIx52, ↓exAt53, ↓exIx53, ↓exAt54, ↓exIx54, ↓exAt60, ↓exIx60, ↓exAt61, ↓exIx61, ↓exAt62, ↓exIx62, ↓exAt63, ↓exIx63, ↓exAt64, ↓exIx64, ↓exAt65, ↓exIx65, up_up, false_or, or_false, ↓exAtM, ↓dFlag_bl, ↓exBl, ↓exInt, ↓exRef, ↓dVar0, ↓dAug0, ↓dSet0, ↓dTgN0, ↓dTgW0, ↓dVar1, ↓dAug1, ↓dSet1, ↓dTgN1, ↓dTgW1, ↓dVar2, ↓dAug2, ↓dSet2, ↓dTgN2, ↓dTgW2, ↓dVar3, ↓dAug3, ↓dSet3, ↓dTgN3, ↓dTgW3, ↓dVar4, ↓dAug4, ↓dSet4, ↓dTgN4, ↓dTgW4, ↓dVar5, ↓dAug5, ↓dSet5, ↓dTgN5, ↓dTgW5, ↓dVar6, ↓dAug6, ↓dSet6, ↓dTgN6, ↓dTgW6, ↓dVar7, ↓dAug7, ↓dSet7, ↓dTgN7, ↓dTgW7, ↓dVar8, ↓dAug8, ↓dSet8, ↓dTgN8, ↓dTgW8, ↓dVar9, ↓dAug9, ↓dSet9, ↓dTgN9, ↓dTgW9, ↓dVar10, ↓dAug10, ↓dSet10, ↓dTgN10, ↓dTgW10, ↓dVar11, ↓dAug11, ↓dSet11, ↓dTgN11, ↓dTgW11, ↓dVar12, ↓dAug12, ↓dSet12, ↓dTgN12, ↓dTgW12, ↓dVar13, ↓dAug13, ↓dSet13, ↓dTgN13, ↓dTgW13, ↓dVar14, ↓dAug14, ↓dSet14, ↓dTgN14, ↓dTgW14, ↓dVar15, ↓dAug15, ↓dSet15, ↓dTgN15, ↓dTgW15, ↓dVar16, ↓dAug16, ↓dSet16, ↓dTgN16, ↓dTgW16, ↓dVar17, ↓dAug17, ↓dSet17, ↓dTgN17, ↓dTgW17, ↓dVar18, ↓dAug18, ↓dSet18, ↓dTgN18, ↓dTgW18, ↓dVar19, ↓dAug19, ↓dSet19, ↓dTgN19, ↓dTgW19, ↓dTg_t2, ↓dTg_t3, ↓exGetM, ↓exSumU, nD, plD, rwD, ↓dAdd_tup, ↓dAdd_ref, dIx_tup, dIx_str, dIx_ref, dIx_kl, dListOf_tup, dListOf_kl, dListOf_ref, dLen_tup, dLen_str, dLen_kl, dLen_ref, dTupOf_tup, dTupOf_ref, dSeqI_x, sqX_tup, sqX_ref, sqX_str, dEnumI_x, enX_tup, enX_ref, dRevA, dRevD, dSIndex, dLtS, dUpper, dListS, dDisp1, dRevT, dInS, dSortA, dIsi2, isT2, Bool.or_true, Bool.true_or, Bool.or_false, Bool.or_self, dCallX, dRaise, dTryO, dTryA, dRaise1, dExF, dCls, dIsX, ↓exOne, WD0, ↓X0_, ↓X1_, ↓X2_, ↓X3_]
      exact ⟨c, _, rfl, rfl, sb0 hP2⟩
    · rw [h1]; clear h1 t1 u1
      simp (config := {failIfUnchanged := false}) only [dC, dOp, dTest, dChain, dAnd, dOr, dNot, dAndV, dOrV, dNotV, dIf, dNil, dCons, dTup, dLst, dCB, d1, dNoPart, dPart, dSl, dCut, dNeg, dSorted, dSum, dAll, dAny, dInt, dAbs, dMax, dMin, dIsi, isT, dNext, dSeq, dBrk, dCont, dNever, dExpr, dRet, dRetN, dIfS, dAsg, dPutI, dI0, dI, dIsN, dNotN, dRng1, dRng2, dRngDn, dZipI, dYes, dCall, dLM, dAppend, dExtend, dReverse, dInsert, dAugI, dRg1, dRg2, dTupRg, dLstRg, dNewK, dNewT, ↓S0_, ↓S1_, ↓S2_, ↓S3_, ↓S4_, ↓S5_, ↓S6_, List.map_cons, List.map_nil, List.length_cons, List.length_nil, List.replicate, List.cons_append, List.nil_append, Nat.reduceAdd, Nat.reduceSub, Nat.zero_add, List.getElem?_cons_zero, List.getElem?_cons_succ, Option.some.injEq, exists_eq_left, exists_eq_left', List.set_cons_zero, List.set_cons_succ, wipeD, D.int.injEq, D.bl.injEq, D.str.injEq, D.ref.injEq, D.tup.injEq, D.ty.injEq, true_and, and_true, forall_const, forall_eq', forall_eq, mt_int, mt_bool, mt_str, mt_tuple, mt_list, mt_dict, st_int_int, st_int_bool, st_int_str, st_int_tuple, st_int_list, st_int_dict, st_bool_int, st_bool_bool, st_bool_str, st_bool_tuple, st_bool_list, st_bool_dict, st_str_int, st_str_bool, st_str_str, st_str_tuple, st_str_list, st_str_dict, st_tuple_int, st_tuple_bool, st_tuple_str, st_tuple_tuple, st_tuple_list, st_tuple_dict, st_list_int, st_list_bool, st_list_str, st_list_tuple, st_list_list, st_list_dict, st_dict_int, st_dict_bool, st_dict_str, st_dict_tuple, st_dict_list, st_dict_dict, eq_self, Bool.true_eq_false, Bool.false_eq_true, false_implies, true_implies, implies_true, decide_eq_true_eq, decide_eq_false_iff_not, Bool.not_true, Bool.not_false, Bool.not_eq_true, Bool.not_eq_false, Bool.not_eq_true', Bool.not_eq_false', not_true_eq_false, not_false_eq_true, false_and, and_false, or_false, false_or, reduceCtorEq, ↓exLSu, ↓exDKu, ↓exDKd, ↓exLSd, ↓exLu, ↓dIxRu, ↓dPutu, ↓dGetAu, ↓dEq_int, ↓dNe_int, ↓dEq_bl, ↓dNe_bl, ↓dEq_str, ↓dNe_str, ↓dAdd_int, ↓exAt10, ↓exIx10, ↓exAt20, ↓exIx20, ↓exAt21, ↓exIx21, ↓exAt30, ↓exIx30, ↓exAt31, ↓exIx31, ↓exAt32, ↓exIx32, ↓exAt40, ↓exIx40, ↓exAt41, ↓exIx41, ↓exAt42, ↓exIx42, ↓exAt43, ↓exIx43, ↓exAt50, ↓exIx50, ↓exAt51, ↓exIx51, ↓exAt52, ↓exIx52, ↓exAt53, ↓exIx53, ↓exAt54, ↓exIx54, ↓exAt60, ↓exIx60, ↓exAt61, ↓exIx61, ↓exAt62, ↓exIx62, ↓exAt63, ↓exIx63, ↓exAt64, ↓exIx64, ↓exAt65, ↓exIx65, up_up, false_or, or_false, ↓exAtM, ↓dFlag_bl, ↓exBl, ↓exInt, ↓exRef, ↓dVar0, ↓dAug0, ↓dSet0, ↓dTgN0, ↓dTgW0, ↓dVar1, ↓dAug1, ↓dSet1, ↓dTgN1, ↓dTgW1, ↓dVar2, ↓dAug2, ↓dSet2, ↓dTgN2, ↓dTgW2, ↓dVar3, ↓dAug3, ↓dSet3, ↓dTgN3, ↓dTgW3, ↓dVar4, ↓dAug4, ↓dSet4, ↓dTgN4, ↓dTgW4, ↓dVar5, ↓dAug5, ↓dSet5, ↓dTgN5, ↓dTgW5, ↓dVar6, ↓dAug6, ↓dSet6, ↓dTgN6, ↓dTgW6, ↓dVar7, ↓dAug7, ↓dSet7, ↓dTgN7, ↓dTgW7, ↓dVar8, ↓dAug8, ↓dSet8, ↓dTgN8, ↓dTgW8, ↓dVar9, ↓dAug9, ↓dSet9, ↓dTgN9, ↓dTgW9, ↓dVar10, ↓dAug10, ↓dSet10, ↓dTgN10, ↓dTgW10, ↓dVar11, ↓dAug11, ↓dSet11, ↓dTgN11, ↓dTgW11, ↓dVar12, ↓dAug12, ↓dSet12, ↓dTgN12, ↓dTgW12, ↓dVar13, ↓dAug13, ↓dSet13, ↓dTgN13, ↓dTgW13, ↓dVar14, ↓dAug14, ↓dSet14, ↓dTgN14, ↓dTgW14, ↓dVar15, ↓dAug15, ↓dSet15, ↓dTgN15, ↓dTgW15, ↓dVar16, ↓dAug16, ↓dSet16, ↓dTgN16, ↓dTgW16, ↓dVar17, ↓dAug17, ↓dSet17, ↓dTgN17, ↓dTgW17, ↓dVar18, ↓dAug18, ↓dSet18, ↓dTgN18, ↓dTgW18, ↓dVar19, ↓dAug19, ↓dSet19, ↓dTgN19, ↓dTgW19, ↓dTg_t2, ↓dTg_t3, ↓exGetM, ↓exSumU, nD, plD, rwD, ↓dAdd_tup, ↓dAdd_ref, dIx_tup, dIx_str, dIx_ref, dIx_kl, dListOf_tup, dListOf_kl, dListOf_ref, dLen_tup, dLen_str, dLen_kl, dLen_ref, dTupOf_tup, dTupOf_ref, dSeqI_x, sqX_tup, sqX_ref, sqX_str, dEnumI_x, enX_tup, enX_ref, dRevA, dRevD, dSIndex, dLtS, dUpper, dListS, dDisp1, dRevT, dInS, dSortA, dIsi2, isT2, Bool.or_true, Bool.true_or, Bool.or_false, Bool.or_self, dCallX, dRaise, dTryO, dTryA, dRaise1, dExF, dCls, dIsX, ↓exOne, WD0, ↓X0_, ↓X1_, ↓X2_, ↓X3_, LS_up]
      have s1 : Sub (up M q (.lst (z.cps.toList.map fun c => D.bl (decide (c ∈ L26.cps.toList))))) M := Sub.new hq (by intro _ z; cases z)
      generalize up M q (.lst (z.cps.toList.map fun c => D.bl (decide (c ∈ L26.cps.toList)))) = M1 at *
      have ea : (z.cps.toList.map fun c => decide (c ∈ L26.cps.toList)).all id = z.cps.toList.all fun c => decide (c ∈ L26.cps.toList) := by rw [List.all_map]; rfl
      refine ⟨z.cps.toList.map fun c => decide (c ∈ L26.cps.toList), by rw [List.map_map]; rfl, fun e => ?_, fun e => ?_⟩
      · rw [ea] at e
        have : fallB z.cps.toList = false := by unfold fallB; rw [e, Bool.and_false, Bool.false_and]
        rw [this] at h
        exact s1.dn h
      rw [ea] at e
      refine dLc_g fun F2 T2 U2 h2 t2 u2 => ?_; simp only [dLc, dC, dOp, dTest, dChain, dAnd, dOr, dNot, dAndV, dOrV, dNotV, dIf, dNil, dCons, dTup, dLst, dCB, d1, dNoPart, dPart, dSl, dCut, dNeg, dSorted, dSum, dAll, dAny, dInt, dAbs, dMax, dMin, dIsi, isT, dNext, dSeq, dBrk, dCont, dNever, dExpr, dRet, dRetN, dIfS, dAsg, dPutI, dI0, dI, dIsN, dNotN, dRng1, dRng2, dRngDn, dZipI, dYes, dCall, dLM, dAppend, dExtend, dReverse, dInsert, dAugI, dRg1, dRg2, dTupRg, dLstRg, dNewK, dNewT, ↓S0_, ↓S1_, ↓S2_, ↓S3_, ↓S4_, ↓S5_, ↓S6_, List.map_cons, List.map_nil, List.length_cons, List.length_nil, List.replicate, List.cons_append, List.nil_append, Nat.reduceAdd, Nat.reduceSub, Nat.zero_add, List.getElem?_cons_zero, List.getElem?_cons_succ, Option.some.injEq, exists_eq_left, exists_eq_left', List.set_cons_zero, List.set_cons_succ, wipeD, D.int.injEq, D.bl.injEq, D.str.injEq, D.ref.injEq, D.tup.injEq, D.ty.injEq, true_and, and_true, forall_const, forall_eq', forall_eq, mt_int, mt_bool, mt_str, mt_tuple, mt_list, mt_dict, st_int_int, st_int_bool, st_int_str, st_int_tuple, st_int_list, st_int_dict, st_bool_int, st_bool_bool, st_bool_str, st_bool_tuple, st_bool_list, st_bool_dict, st_str_int, st_str_bool, st_str_str, st_str_tuple, st_str_list, st_str_dict, st_tuple_int, st_tuple_bool, st_tuple_str, st_tuple_tuple, st_tuple_list, st_tuple_dict, st_list_int, st_list_bool, st_list_str, st_list_tuple, st_list_list, st_list_dict, st_dict_int, st_dict_bool, st_dict_str, st_dict_tuple, st_dict_list, st_dict_dict, eq_self, Bool.true_eq_false, Bool.false_eq_true, false_implies, true_implies, implies_true, decide_eq_true_eq, decide_eq_false_iff_not, Bool.not_true, Bool.not_false, Bool.not_eq_true, Bool.not_eq_false, Bool.not_eq_true', Bool.not_eq_false', not_true_eq_false, not_false_eq_true, false_and, and_false, or_false, false_or, reduceCtorEq, ↓exLSu, ↓exDKu, ↓exDKd, ↓exLSd, ↓exLu, ↓dIxRu, ↓dPutu, ↓dGetAu, ↓dEq_int, ↓dNe_int, ↓dEq_bl, ↓dNe_bl, ↓dEq_str, ↓dNe_str, ↓dAdd_int, ↓exAt10, ↓exIx10, ↓exAt20, ↓exIx20, ↓exAt21, ↓exIx21, ↓exAt30, ↓exIx30, ↓exAt31, ↓exIx31, ↓exAt32, ↓exIx32, ↓exAt40, ↓exIx40, ↓exAt41, ↓exIx41, ↓exAt42, ↓exIx42, ↓exAt43, ↓exIx43, ↓exAt50, ↓exIx50, ↓exAt51, ↓exIx51, ↓exAt52, ↓exIx52, ↓exAt53, ↓exIx53, ↓exAt54, ↓exIx54, ↓exAt60, ↓exIx60, ↓exAt61, ↓exIx61, ↓exAt62, ↓exIx62, ↓exAt63, ↓exIx63, ↓exAt64, ↓exIx64, ↓exAt65, ↓exIx65, up_up, false_or, or_false, ↓exAtM, ↓dFlag_bl, ↓exBl, ↓exInt, ↓exRef, ↓dVar0, ↓dAug0, ↓dSet0, ↓dTgN0, ↓dTgW0, ↓dVar1, ↓dAug1, ↓dSet1, ↓dTgN1, ↓dTgW1, ↓dVar2, ↓dAug2, ↓dSet2, ↓dTgN2, ↓dTgW2, ↓dVar3, ↓dAug3, ↓dSet3, ↓dTgN3, ↓dTgW3, ↓dVar4, ↓dAug4, ↓dSet4, ↓dTgN4, ↓dTgW4, ↓dVar5, ↓dAug5, ↓dSet5, ↓dTgN5, ↓dTgW5, ↓dVar6, ↓dAug6, ↓dSet6, ↓dTgN6, ↓dTgW6, ↓dVar7, ↓dAug7, ↓dSet7, ↓dTgN7, ↓dTgW7, ↓dVar8, ↓dAug8, ↓dSet8, ↓dTgN8, ↓dTgW8, ↓dVar9, ↓dAug9, ↓dSet9, ↓dTgN9, ↓dTgW9, ↓dVar10, ↓dAug10, ↓dSet10, ↓dTgN10, ↓dTgW10, ↓dVar11, ↓dAug11, ↓dSet11, ↓dTgN11, ↓dTgW11, ↓dVar12, ↓dAug12, ↓dSet12, ↓dTgN12, ↓dTgW12, ↓dVar13, ↓dAug13, ↓dSet13, ↓dTgN13, ↓dTgW13, ↓dVar14, ↓dAug14, ↓dSet14, ↓dTgN14, ↓dTgW14, ↓dVar15, ↓dAug15, ↓dSet15, ↓dTgN15, ↓dTgW15, ↓dVar16, ↓dAug16, ↓dSet16, ↓dTgN16, ↓dTgW16, ↓dVar17, ↓dAug17, ↓dSet17, ↓dTgN17, ↓dTgW17, ↓dVar18, ↓dAug18, ↓dSet18, ↓dTgN18, ↓dTgW18, ↓dVar19, ↓dAug19, ↓dSet19, ↓dTgN19, ↓dTgW19, ↓dTg_t2, ↓dTg_t3, ↓exGetM, ↓exSumU, nD, plD, rwD, ↓dAdd_tup, ↓dAdd_ref, dIx_tup, dIx_str, dIx_ref, dIx_kl, dListOf_tup, dListOf_kl, dListOf_ref, dLen_tup, dLen_str, dLen_kl, dLen_ref, dTupOf_tup, dTupOf_ref, dSeqI_x, sqX_tup, sqX_ref, sqX_str, dEnumI_x, enX_tup, enX_ref, dRevA, dRevD, dSIndex, dLtS, dUpper, dListS, dDisp1, dRevT, dInS, dSortA, dIsi2, isT2, Bool.or_true, Bool.true_or, Bool.or_false, Bool.or_self, dCallX, dRaise, dTryO, dTryA, dRaise1, dExF, dCls, dIsX, ↓exOne, WD0, ↓X0_, ↓X1_, ↓X2_, ↓X3_]
      rw [show ((z.length : Nat) : Int) - 1 = ((z.cps.toList.length - 1 : Nat) : Int) by omega, rng0]
      refine ⟨small_es (by omega), by omega, by rw [List.length_map, List.length_range]; exact small_es (by omega), lcM nD (fun a => .bl (decide ([z.cps.toList.getD (a + 1) 0] < [z.cps.toList.getD a 0]))) (List.range (z.cps.toList.length - 1)) rfl (fun l a t pre acc P2 e hP2 => ?_) (fun q2 hq2 => ?_)⟩
      · have ha := List.mem_range.mp (show a ∈ List.range (z.cps.toList.length - 1) by rw [e]; simp)
        subst t2; subst u2
        simp (config := {failIfUnchanged := false}) only [dC, dOp, dTest, dChain, dAnd, dOr, dNot, dAndV, dOrV, dNotV, dIf, dNil, dCons, dTup, dLst, dCB, d1, dNoPart, dPart, dSl, dCut, dNeg, dSorted, dSum, dAll, dAny, dInt, dAbs, dMax, dMin, dIsi, isT, dNext, dSeq, dBrk, dCont, dNever, dExpr, dRet, dRetN, dIfS, dAsg, dPutI, dI0, dI, dIsN, dNotN, dRng1, dRng2, dRngDn, dZipI, dYes, dCall, dLM, dAppend, dExtend, dReverse, dInsert, dAugI, dRg1, dRg2, dTupRg, dLstRg, dNewK, dNewT, ↓S0_, ↓S1_, ↓S2_, ↓S3_, ↓S4_, ↓S5_, ↓S6_, List.map_cons, List.map_nil, List.length_cons, List.length_nil, List.replicate, List.cons_append, List.nil_append, Nat.reduceAdd, Nat.reduceSub, Nat.zero_add, List.getElem?_cons_zero, List.getElem?_cons_succ, Option.some.injEq, exists_eq_left, exists_eq_left', List.set_cons_zero, List.set_cons_succ, wipeD, D.int.injEq, D.bl.injEq, D.str.injEq, D.ref.injEq, D.tup.injEq, D.ty.injEq, true_and, and_true, forall_const, forall_eq', forall_eq, mt_int, mt_bool, mt_str, mt_tuple, mt_list, mt_dict, st_int_int, st_int_bool, st_int_str, st_int_tuple, st_int_list, st_int_dict, st_bool_int, st_bool_bool, st_bool_str, st_bool_tuple, st_bool_list, st_bool_dict, st_str_int, st_str_bool, st_str_str, st_str_tuple, st_str_list, st_str_dict, st_tuple_int, st_tuple_bool, st_tuple_str, st_tuple_tuple, st_tuple_list, st_tuple_dict, st_list_int, st_list_bool, st_list_str, st_list_tuple, st_list_list, st_list_dict, st_dict_int, st_dict_bool, st_dict_str, st_dict_tuple, st_dict_list, st_dict_dict, eq_self, Bool.true_eq_false, Bool.false_eq_true, false_implies, true_implies, implies_true, decide_eq_true_eq, decide_eq_false_iff_not, Bool.not_true, Bool.not_false, Bool.not_eq_true, Bool.not_eq_false, Bool.not_eq_true', Bool.not_eq_false', not_true_eq_false, not_false_eq_true, false_and, and_false, or_false, false_or, reduceCtorEq, ↓exLSu, ↓exDKu, ↓exDKd, ↓exLSd, ↓exLu, ↓dIxRu, ↓dPutu, ↓dGetAu, ↓dEq_int, ↓dNe_int, ↓dEq_bl, ↓dNe_bl, ↓dEq_str, ↓dNe_str, ↓dAdd_int, ↓exAt10, ↓exIx10, ↓exAt20, ↓exIx20, ↓exAt21, ↓exIx21, ↓exAt30, ↓exIx30, ↓exAt31, ↓exIx31, ↓exAt32, ↓exIx32, ↓exAt40, ↓exIx40, ↓exAt41, ↓exIx41, ↓exAt42, ↓exIx42, ↓exAt43, ↓exIx43, ↓exAt50, ↓exIx50, ↓exAt51, ↓exIx51, ↓exAt52, ↓exIx52, ↓exAt53, ↓exIx53, ↓exAt54, ↓exIx54, ↓exAt60, ↓exIx60, ↓exAt61, ↓exIx61, ↓exAt62, ↓exIx62, ↓exAt63, ↓exIx63, ↓exAt64, ↓exIx64, ↓exAt65, ↓exIx65, up_up, false_or, or_false, ↓exAtM, ↓dFlag_bl, ↓exBl, ↓exInt, ↓exRef, ↓dVar0, ↓dAug0, ↓dSet0, ↓dTgN0, ↓dTgW0, ↓dVar1, ↓dAug1, ↓dSet1, ↓dTgN1, ↓dTgW1, ↓dVar2, ↓dAug2, ↓dSet2, ↓dTgN2, ↓dTgW2, ↓dVar3, ↓dAug3, ↓dSet3, ↓dTgN3, ↓dTgW3, ↓dVar4, ↓dAug4, ↓dSet4, ↓dTgN4, ↓dTgW4, ↓dVar5, ↓dAug5, ↓dSet5, ↓dTgN5, ↓dTgW5, ↓dVar6, ↓dAug6, ↓dSet6, ↓dTgN6, ↓dTgW6, ↓dVar7, ↓dAug7, ↓dSet7, ↓dTgN7, ↓dTgW7, ↓dVar8, ↓dAug8, ↓dSet8, ↓dTgN8, ↓dTgW8, ↓dVar9, ↓dAug9, ↓dSet9, ↓dTgN9, ↓dTgW9, ↓dVar10, ↓dAug10, ↓dSet10, ↓dTgN10, ↓dTgW10, ↓dVar11, ↓dAug11, ↓dSet11, ↓dTgN11, ↓dTgW11, ↓dVar12, ↓dAug12, ↓dSet12, ↓dTgN12, ↓dTgW12, ↓dVar13, ↓dAug13, ↓dSet13, ↓dTgN13, ↓dTgW13, ↓dVar14, ↓dAug14, ↓dSet14, ↓dTgN14, ↓dTgW14, ↓dVar15, ↓dAug15, ↓dSet15, ↓dTgN15, ↓dTgW15, ↓dVar16, ↓dAug16, ↓dSet16, ↓dTgN16, ↓dTgW16, ↓dVar17, ↓dAug17, ↓dSet17, ↓dTgN17, ↓dTgW17, ↓dVar18, ↓dAug18, ↓dSet18, ↓dTgN18, ↓dTgW18, ↓dVar19, ↓dAug19, ↓dSet19, ↓dTgN19, ↓dTgW19, ↓dTg_t2, ↓dTg_t3, ↓exGetM, ↓exSumU, nD, plD, rwD, ↓dAdd_tup, ↓dAdd_ref, dIx_tup, dIx_str, dIx_ref, dIx_kl, dListOf_tup, dListOf_kl, dListOf_ref, dLen_tup, dLen_str, dLen_kl, dLen_ref, dTupOf_tup, dTupOf_ref, dSeqI_x, sqX_tup, sqX_ref, sqX_str, dEnumI_x, enX_tup, enX_ref, dRevA, dRevD, dSIndex, dLtS, dUpper, dListS, dDisp1, dRevT, dInS, dSortA, dIsi2, isT2, Bool.or_true, Bool.true_or, Bool.or_false, Bool.or_self, dCallX, dRaise, dTryO, dTryA, dRaise1, dExF, dCls, dIsX, ↓exOne, WD0, ↓X0_, ↓X1_, ↓X2_, ↓X3_]
        refine ⟨_, small_es (by omega), by rw [show ((a : Int) + 1) = ((a + 1 : Nat) : Int) by omega]; exact atI_nat (get_of31 (by omega)), _, small_es (by omega), atI_nat (get_of31 (by omega)), _, _, rfl, rfl, sb0 hP2⟩
      · rw [h2]; clear h2 t2 u2
        simp (config := {failIfUnchanged := false}) only [dC, dOp, dTest, dChain, dAnd, dOr, dNot, dAndV, dOrV, dNotV, dIf, dNil, dCons, dTup, dLst, dCB, d1, dNoPart, dPart, dSl, dCut, dNeg, dSorted, dSum, dAll, dAny, dInt, dAbs, dMax, dMin, dIsi, isT, dNext, dSeq, dBrk, dCont, dNever, dExpr, dRet, dRetN, dIfS, dAsg, dPutI, dI0, dI, dIsN, dNotN, dRng1, dRng2, dRngDn, dZipI, dYes, dCall, dLM, dAppend, dExtend, dReverse, dInsert, dAugI, dRg1, dRg2, dTupRg, dLstRg, dNewK, dNewT, ↓S0_, ↓S1_, ↓S2_, ↓S3_, ↓S4_, ↓S5_, ↓S6_, List.map_cons, List.map_nil, List.length_cons, List.length_nil, List.replicate, List.cons_append, List.nil_append, Nat.reduceAdd, Nat.reduceSub, Nat.zero_add, List.getElem?_cons_zero, List.getElem?_cons_succ, Option.some.injEq, exists_eq_left, exists_eq_left', List.set_cons_zero, List.set_cons_succ, wipeD, D.int.injEq, D.bl.injEq, D.str.injEq, D.ref.injEq, D.tup.injEq, D.ty.injEq, true_and, and_true, forall_const, forall_eq', forall_eq, mt_int, mt_bool, mt_str, mt_tuple, mt_list, mt_dict, st_int_int, st_int_bool, st_int_str, st_int_tuple, st_int_list, st_int_dict, st_bool_int, st_bool_bool, st_bool_str, st_bool_tuple, st_bool_list, st_bool_dict, st_str_int, st_str_bool, st_str_str, st_str_tuple, st_str_list, st_str_dict, st_tuple_int, st_tuple_bool, st_tuple_str, st_tuple_tuple, st_tuple_list, st_tuple_dict, st_list_int, st_list_bool, st_list_str, st_list_tuple, st_list_list, st_list_dict, st_dict_int, st_dict_bool, st_dict_str, st_dict_tuple, st_dict_list, st_dict_dict, eq_self, Bool.true_eq_false, Bool.false_eq_true, false_implies, true_implies, implies_true, decide_eq_true_eq, decide_eq_false_iff_not, Bool.not_true, Bool.not_false, Bool.not_eq_true, Bool.not_eq_false, Bool.not_eq_true', Bool.not_eq_false', not_true_eq_false, not_false_eq_true, false_and, and_false, or_false, false_or, reduceCtorEq, ↓exLSu, ↓exDKu, ↓exDKd, ↓exLSd, ↓exLu, ↓dIxRu, ↓dPutu, ↓dGetAu, ↓dEq_int, ↓dNe_int, ↓dEq_bl, ↓dNe_bl, ↓dEq_str, ↓dNe_str, ↓dAdd_int, ↓exAt10, ↓exIx10, ↓exAt20, ↓exIx20, ↓exAt21, ↓exIx21, ↓exAt30, ↓exIx30, ↓exAt31, ↓exIx31, ↓exAt32, ↓exIx32, ↓exAt40, ↓exIx40, ↓exAt41, ↓exIx41, ↓exAt42, ↓exIx42, ↓exAt43, ↓exIx43, ↓exAt50, ↓exIx50, ↓exAt51, ↓exIx51, ↓exAt52, ↓exIx52, ↓exAt53, ↓exIx53, ↓exAt54, ↓exIx54, ↓exAt60, ↓exIx60, ↓exAt61, ↓exIx61, ↓exAt62, ↓exIx62, ↓exAt63, ↓exIx63, ↓exAt64, ↓exIx64, ↓exAt65, ↓exIx65, up_up, false_or, or_false, ↓exAtM, ↓dFlag_bl, ↓exBl, ↓exInt, ↓exRef, ↓dVar0, ↓dAug0, ↓dSet0, ↓dTgN0, ↓dTgW0, ↓dVar1, ↓dAug1, ↓dSet1, ↓dTgN1, ↓dTgW1, ↓dVar2, ↓dAug2, ↓dSet2, ↓dTgN2, ↓dTgW2, ↓dVar3, ↓dAug3, ↓dSet3, ↓dTgN3, ↓dTgW3, ↓dVar4, ↓dAug4, ↓dSet4, ↓dTgN4, ↓dTgW4, ↓dVar5, ↓dAug5, ↓dSet5, ↓dTgN5, ↓dTgW5, ↓dVar6, ↓dAug6, ↓dSet6, ↓dTgN6, ↓dTgW6, ↓dVar7, ↓dAug7, ↓dSet7, ↓dTgN7, ↓dTgW7, ↓dVar8, ↓dAug8, ↓dSet8, ↓dTgN8, ↓dTgW8, ↓dVar9, ↓dAug9, ↓dSet9, ↓dTgN9, ↓dTgW9, ↓dVar10, ↓dAug10, ↓dSet10, ↓dTgN10, ↓dTgW10, ↓dVar11, ↓dAug11, ↓dSet11, ↓dTgN11, ↓dTgW11, ↓dVar12, ↓dAug12, ↓dSet12, ↓dTgN12, ↓dTgW12, ↓dVar13, ↓dAug13, ↓dSet13, ↓dTgN13, ↓dTgW13, ↓dVar14, ↓dAug14, ↓dSet14, ↓dTgN14, ↓dTgW14, ↓dVar15, ↓dAug15, ↓dSet15, ↓dTgN15, ↓dTgW15, ↓dVar16, ↓dAug16, ↓dSet16, ↓dTgN16, ↓dTgW16, ↓dVar17, ↓dAug17, ↓dSet17, ↓dTgN17, ↓dTgW17, ↓dVar18, ↓dAug18, ↓dSet18, ↓dTgN18, ↓dTgW18, ↓dVar19, ↓dAug19, ↓dSet19, ↓dTgN19, ↓dTgW19, ↓dTg_t2, ↓dTg_t3, ↓exGetM, ↓exSumU, nD, plD, rwD, ↓dAdd_tup, ↓dAdd_ref, dIx_tup, dIx_str, dIx_ref, dIx_kl, dListOf_tup, dListOf_kl, dListOf_ref, dLen_tup, dLen_str, dLen_kl, dLen_ref, dTupOf_tup, dTupOf_ref, dSeqI_x, sqX_tup, sqX_ref, sqX_str, dEnumI_x, enX_tup, enX_ref, dRevA, dRevD, dSIndex, dLtS, dUpper, dListS, dDisp1, dRevT, dInS, dSortA, dIsi2, isT2, Bool.or_true, Bool.true_or, Bool.or_false, Bool.or_self, dCallX, dRaise, dTryO, dTryA, dRaise1, dExF, dCls, dIsX, ↓exOne, WD0, ↓X0_, ↓X1_, ↓X2_, ↓X3_, LS_up]
        refine ⟨(List.range (z.cps.toList.length - 1)).map fun a => decide ([z.cps.toList.getD (a + 1) 0] < [z.cps.toList.getD a 0]), by rw [List.map_map]; rfl, ?_⟩
        have : fallB z.cps.toList = ((List.range (z.cps.toList.length - 1)).map fun a => decide ([z.cps.toList.getD (a + 1) 0] < [z.cps.toList.getD a 0])).all id := by
          unfold fallB
          rw [e, decide_eq_true hz0, Bool.true_and, Bool.true_and, List.all_map]
          rfl
        rw [← this]
        exact ((Sub.new hq2 (by intro _ z; cases z)).trans s1).dn h
  · refine ⟨M, rep, fun _ h => h, ?_⟩
    simp only [startD, List.map_cons, List.map_nil, List.length_cons, List.length_nil, Nat.reduceAdd, Nat.reduceSub, Nat.zero_add, List.replicate, List.cons_append, List.nil_append]; simp (config := {failIfUnchanged := false}) only [dC, dOp, dTest, dChain, dAnd, dOr, dNot, dAndV, dOrV, dNotV, dIf, dNil, dCons, dTup, dLst, dCB, d1, dNoPart, dPart, dSl, dCut, dNeg, dSorted, dSum, dAll, dAny, dInt, dAbs, dMax, dMin, dIsi, isT, dNext, dSeq, dBrk, dCont, dNever, dExpr, dRet, dRetN, dIfS, dAsg, dPutI, dI0, dI, dIsN, dNotN, dRng1, dRng2, dRngDn, dZipI, dYes, dCall, dLM, dAppend, dExtend, dReverse, dInsert, dAugI, dRg1, dRg2, dTupRg, dLstRg, dNewK, dNewT, ↓S0_, ↓S1_, ↓S2_, ↓S3_, ↓S4_, ↓S5_, ↓S6_, List.map_cons, List.map_nil, List.length_cons, List.length_nil, List.replicate, List.cons_append, List.nil_append, Nat.reduceAdd, Nat.reduceSub, Nat.zero_add, List.getElem?_cons_zero, List.getElem?_cons_succ, Option.some.injEq, exists_eq_left, exists_eq_left', List.set_cons_zero, List.set_cons_succ, wipeD, D.int.injEq, D.bl.injEq, D.str.injEq, D.ref.injEq, D.tup.injEq, D.ty.injEq, true_and, and_true, forall_const, forall_eq', forall_eq, mt_int, mt_bool, mt_str, mt_tuple, mt_list, mt_dict, st_int_int, st_int_bool, st_int_str, st_int_tuple, st_int_list, st_int_dict, st_bool_int, st_bool_bool, st_bool_str, st_bool_tuple, st_bool_list, st_bool_dict, st_str_int, st_str_bool, st_str_str, st_str_tuple, st_str_list, st_str_dict, st_tuple_int, st_tuple_bool, st_tuple_str, st_tuple_tuple, st_tuple_list, st_tuple_dict, st_list_int, st_list_bool, st_list_str, st_list_tuple, st_list_list, st_list_dict, st_dict_int, st_dict_bool, st_dict_str, st_dict_tuple, st_dict_list, st_dict_dict, eq_self, Bool.true_eq_false, Bool.false_eq_true, false_implies, true_implies, implies_true, decide_eq_true_eq, decide_eq_false_iff_not, Bool.not_true, Bool.not_false, Bool.not_eq_true, Bool.not_eq_false, Bool.not_eq_true', Bool.not_eq_false', not_true_eq_false, not_false_eq_true, false_and, and_false, or_false, false_or, reduceCtorEq, ↓exLSu, ↓exDKu, ↓exDKd, ↓exLSd, ↓exLu, ↓dIxRu, ↓dPutu, ↓dGetAu, ↓dEq_int, ↓dNe_int, ↓dEq_bl, ↓dNe_bl, ↓dEq_str, ↓dNe_str, ↓dAdd_int, ↓exAt10, ↓exIx10, ↓exAt20, ↓exIx20, ↓exAt21, ↓exIx21, ↓exAt30, ↓exIx30, ↓exAt31, ↓exIx31, ↓exAt32, ↓exIx32, ↓exAt40, ↓exIx40, ↓exAt41, ↓exIx41, ↓exAt42, ↓exIx42, ↓exAt43, ↓exIx43, ↓exAt50, ↓exIx50, ↓exAt51, ↓exIx51, ↓exAt52, ↓exIx52, ↓exAt53, ↓exIx53, ↓exAt54, ↓exIx54, ↓exAt60, ↓exIx60, ↓exAt61, ↓exIx61, ↓exAt62, ↓exIx62, ↓exAt63, ↓exIx63, ↓exAt64, ↓exIx64, ↓exAt65, ↓exIx65, up_up, false_or, or_false, ↓exAtM, ↓dFlag_bl, ↓exBl, ↓exInt, ↓exRef, ↓dVar0, ↓dAug0, ↓dSet0, ↓dTgN0, ↓dTgW0, ↓dVar1, ↓dAug1, ↓dSet1, ↓dTgN1, ↓dTgW1, ↓dVar2, ↓dAug2, ↓dSet2, ↓dTgN2, ↓dTgW2, ↓dVar3, ↓dAug3, ↓dSet3, ↓dTgN3, ↓dTgW3, ↓dVar4, ↓dAug4, ↓dSet4, ↓dTgN4, ↓dTgW4, ↓dVar5, ↓dAug5, ↓dSet5, ↓dTgN5, ↓dTgW5, ↓dVar6, ↓dAug6, ↓dSet6, ↓dTgN6, ↓dTgW6, ↓dVar7, ↓dAug7, ↓dSet7, ↓dTgN7, ↓dTgW7, ↓dVar8, ↓dAug8, ↓dSet8, ↓dTgN8, ↓dTgW8, ↓dVar9, ↓dAug9, ↓dSet9, ↓dTgN9, ↓dTgW9, ↓dVar10, ↓dAug10, ↓dSet10, ↓dTgN10, ↓dTgW10, ↓dVar11, ↓dAug11, ↓dSet11, ↓dTgN11, ↓dTgW11, ↓dVar12, ↓dAug12, ↓dSet12, ↓dTgN12, ↓dTgW12, ↓dVar13, ↓dAug13, ↓dSet13, ↓dTgN13, ↓dTgW13, ↓dVar14, ↓dAug14, ↓dSet14, ↓dTgN14, ↓dTgW14, ↓dVar15, ↓dAug15, ↓dSet15, ↓dTgN15, ↓dTgW15, ↓dVar16, ↓dAug16, ↓dSet16, ↓dTgN16, ↓dTgW16, ↓dVar17, ↓dAug17, ↓dSet17, ↓dTgN17, ↓dTgW17, ↓dVar18, ↓dAug18, ↓dSet18, ↓dTgN18, ↓dTgW18, ↓dVar19, ↓dAug19, ↓dSet19, ↓dTgN19, ↓dTgW19, ↓dTg_t2, ↓dTg_t3, ↓exGetM, ↓exSumU, nD, plD, rwD, ↓dAdd_tup, ↓dAdd_ref, dIx_tup, dIx_str, dIx_ref, dIx_kl, dListOf_tup, dListOf_kl, dListOf_ref, dLen_tup, dLen_str, dLen_kl, dLen_ref, dTupOf_tup, dTupOf_ref, dSeqI_x, sqX_tup, sqX_ref, sqX_str, dEnumI_x, enX_tup, enX_ref, dRevA, dRevD, dSIndex, dLtS, dUpper, dListS, dDisp1, dRevT, dInS, dSortA, dIsi2, isT2, Bool.or_true, Bool.true_or, Bool.or_false, Bool.or_self, dCallX, dRaise, dTryO, dTryA, dRaise1, dExF, dCls, dIsX, ↓exOne, WD0, ↓X0_, ↓X1_, ↓X2_, ↓X3_]
    exact dn0 h
  · refine ⟨M, rep, fun _ h => h, ?_⟩
    simp only [startD, List.map_cons, List.map_nil, List.length_cons, List.length_nil, Nat.reduceAdd, Nat.reduceSub, Nat.zero_add, List.replicate, List.cons_append, List.nil_append]; simp (config := {failIfUnchanged := false}) only [dC, dOp, dTest, dChain, dAnd, dOr, dNot, dAndV, dOrV, dNotV, dIf, dNil, dCons, dTup, dLst, dCB, d1, dNoPart, dPart, dSl, dCut, dNeg, dSorted, dSum, dAll, dAny, dInt, dAbs, dMax, dMin, dIsi, isT, dNext, dSeq, dBrk, dCont, dNever, dExpr, dRet, dRetN, dIfS, dAsg, dPutI, dI0, dI, dIsN, dNotN, dRng1, dRng2, dRngDn, dZipI, dYes, dCall, dLM, dAppend, dExtend, dReverse, dInsert, dAugI, dRg1, dRg2, dTupRg, dLstRg, dNewK, dNewT, ↓S0_, ↓S1_, ↓S2_, ↓S3_, ↓S4_, ↓S5_, ↓S6_, List.map_cons, List.map_nil, List.length_cons, List.length_nil, List.replicate, List.cons_append, List.nil_append, Nat.reduceAdd, Nat.reduceSub, Nat.zero_add, List.getElem?_cons_zero, List.getElem?_cons_succ, Option.some.injEq, exists_eq_left, exists_eq_left', List.set_cons_zero, List.set_cons_succ, wipeD, D.int.injEq, D.bl.injEq, D.str.injEq, D.ref.injEq, D.tup.injEq, D.ty.injEq, true_and, and_true, forall_const, forall_eq', forall_eq, mt_int, mt_bool, mt_str, mt_tuple, mt_list, mt_dict, st_int_int, st_int_bool, st_int_str, st_int_tuple, st_int_list, st_int_dict, st_bool_int, st_bool_bool, st_bool_str, st_bool_tuple, st_bool_list, st_bool_dict, st_str_int, st_str_bool, st_str_str, st_str_tuple, st_str_list, st_str_dict, st_tuple_int, st_tuple_bool, st_tuple_str, st_tuple_tuple, st_tuple_list, st_tuple_dict, st_list_int, st_list_bool, st_list_str, st_list_tuple, st_list_list, st_list_dict, st_dict_int, st_dict_bool, st_dict_str, st_dict_tuple, st_dict_list, st_dict_dict, eq_self, Bool.true_eq_false, Bool.false_eq_true, false_implies, true_implies, implies_true, decide_eq_true_eq, decide_eq_false_iff_not, Bool.not_true, Bool.not_false, Bool.not_eq_true, Bool.not_eq_false, Bool.not_eq_true', Bool.not_eq_false', not_true_eq_false, not_false_eq_true, false_and, and_false, or_false, false_or, reduceCtorEq, ↓exLSu, ↓exDKu, ↓exDKd, ↓exLSd, ↓exLu, ↓dIxRu, ↓dPutu, ↓dGetAu, ↓dEq_int, ↓dNe_int, ↓dEq_bl, ↓dNe_bl, ↓dEq_str, ↓dNe_str, ↓dAdd_int, ↓exAt10, ↓exIx10, ↓exAt20, ↓exIx20, ↓exAt21, ↓exIx21, ↓exAt30, ↓exIx30, ↓exAt31, ↓exIx31, ↓exAt32, ↓exIx32, ↓exAt40, ↓exIx40, ↓exAt41, ↓exIx41, ↓exAt42, ↓exIx42, ↓exAt43, ↓exIx43, ↓exAt50, ↓exIx50, ↓exAt51, ↓exIx51, ↓exAt52, ↓exIx52, ↓exAt53, ↓exIx53, ↓exAt54, ↓exIx54, ↓exAt60, ↓exIx60, ↓exAt61, ↓exIx61, ↓exAt62, ↓exIx62, ↓exAt63, ↓exIx63, ↓exAt64, ↓exIx64, ↓exAt65, ↓exIx65, up_up, false_or, or_false, ↓exAtM, ↓dFlag_bl, ↓exBl, ↓exInt, ↓exRef, ↓dVar0, ↓dAug0, ↓dSet0, ↓dTgN0, ↓dTgW0, ↓dVar1, ↓dAug1, ↓dSet1, ↓dTgN1, ↓dTgW1, ↓dVar2, ↓dAug2, ↓dSet2, ↓dTgN2, ↓dTgW2, ↓dVar3, ↓dAug3, ↓dSet3, ↓dTgN3, ↓dTgW3, ↓dVar4, ↓dAug4, ↓dSet4, ↓dTgN4, ↓dTgW4, ↓dVar5, ↓dAug5, ↓dSet5, ↓dTgN5, ↓dTgW5, ↓dVar6, ↓dAug6, ↓dSet6, ↓dTgN6, ↓dTgW6, ↓dVar7, ↓dAug7, ↓dSet7, ↓dTgN7, ↓dTgW7, ↓dVar8, ↓dAug8, ↓dSet8, ↓dTgN8, ↓dTgW8, ↓dVar9, ↓dAug9, ↓dSet9, ↓dTgN9, ↓dTgW9, ↓dVar10, ↓dAug10, ↓dSet10, ↓dTgN10, ↓dTgW10, ↓dVar11, ↓dAug11, ↓dSet11, ↓dTgN11, ↓dTgW11, ↓dVar12, ↓dAug12, ↓dSet12, ↓dTgN12, ↓dTgW12, ↓dVar13, ↓dAug13, ↓dSet13, ↓dTgN13, ↓dTgW13, ↓dVar14, ↓dAug14, ↓dSet14, ↓dTgN14, ↓dTgW14, ↓dVar15, ↓dAug15, ↓dSet15, ↓dTgN15, ↓dTgW15, ↓dVar16, ↓dAug16, ↓dSet16, ↓dTgN16, ↓dTgW16, ↓dVar17, ↓dAug17, ↓dSet17, ↓dTgN17, ↓dTgW17, ↓dVar18, ↓dAug18, ↓dSet18, ↓dTgN18, ↓dTgW18, ↓dVar19, ↓dAug19, ↓dSet19, ↓dTgN19, ↓dTgW19, ↓dTg_t2, ↓dTg_t3, ↓exGetM, ↓exSumU, nD, plD, rwD, ↓dAdd_tup, ↓dAdd_ref, dIx_tup, dIx_str, dIx_ref, dIx_kl, dListOf_tup, dListOf_kl, dListOf_ref, dLen_tup, dLen_str, dLen_kl, dLen_ref, dTupOf_tup, dTupOf_ref, dSeqI_x, sqX_tup, sqX_ref, sqX_str, dEnumI_x, enX_tup, enX_ref, dRevA, dRevD, dSIndex, dLtS, dUpper, dListS, dDisp1, dRevT, dInS, dSortA, dIsi2, isT2, Bool.or_true, Bool.true_or, Bool.or_false, Bool.or_self, dCallX, dRaise, dTryO, dTryA, dRaise1, dExF, dCls, dIsX, ↓exOne, WD0, ↓X0_, ↓X1_, ↓X2_, ↓X3_]
    exact dn0 h
  · refine ⟨M, rep, fun _ h => h, ?_⟩
    simp only [startD, List.map_cons, List.map_nil, List.length_cons, List.length_nil, Nat.reduceAdd, Nat.reduceSub, Nat.zero_add, List.replicate, List.cons_append, List.nil_append]; simp (config := {failIfUnchanged := false}) only [dC, dOp, dTest, dChain, dAnd, dOr, dNot, dAndV, dOrV, dNotV, dIf, dNil, dCons, dTup, dLst, dCB, d1, dNoPart, dPart, dSl, dCut, dNeg, dSorted, dSum, dAll, dAny, dInt, dAbs, dMax, dMin, dIsi, isT, dNext, dSeq, dBrk, dCont, dNever, dExpr, dRet, dRetN, dIfS, dAsg, dPutI, dI0, dI, dIsN, dNotN, dRng1, dRng2, dRngDn, dZipI, dYes, dCall, dLM, dAppend, dExtend, dReverse, dInsert, dAugI, dRg1, dRg2, dTupRg, dLstRg, dNewK, dNewT, ↓S0_, ↓S1_, ↓S2_, ↓S3_, ↓S4_, ↓S5_, ↓S6_, List.map_cons, List.map_nil, List.length_cons, List.length_nil, List.replicate, List.cons_append, List.nil_append, Nat.reduceAdd, Nat.reduceSub, Nat.zero_add, List.getElem?_cons_zero, List.getElem?_cons_succ, Option.some.injEq, exists_eq_left, exists_eq_left', List.set_cons_zero, List.set_cons_succ, wipeD, D.int.injEq, D.bl.injEq, D.str.injEq, D.ref.injEq, D.tup.injEq, D.ty.injEq, true_and, and_true, forall_const, forall_eq', forall_eq, mt_int, mt_bool, mt_str, mt_tuple, mt_list, mt_dict, st_int_int, st_int_bool, st_int_str, st_int_tuple, st_int_list, st_int_dict, st_bool_int, st_bool_bool, st_bool_str, st_bool_tuple, st_bool_list, st_bool_dict, st_str_int, st_str_bool, st_str_str, st_str_tuple, st_str_list, st_str_dict, st_tuple_int, st_tuple_bool, st_tuple_str, st_tuple_tuple, st_tuple_list, st_tuple_dict, st_list_int, st_list_bool, st_list_str, st_list_tuple, st_list_list, st_list_dict, st_dict_int, st_dict_bool, st_dict_str, st_dict_tuple, st_dict_list, st_dict_dict, eq_self, Bool.true_eq_false, Bool.false_eq_true, false_implies, true_implies, implies_true, decide_eq_true_eq, decide_eq_false_iff_not, Bool.not_true, Bool.not_false, Bool.not_eq_true, Bool.not_eq_false, Bool.not_eq_true', Bool.not_eq_false', not_true_eq_false, not_false_eq_true, false_and, and_false, or_false, false_or, reduceCtorEq, ↓exLSu, ↓exDKu, ↓exDKd, ↓exLSd, ↓exLu, ↓dIxRu, ↓dPutu, ↓dGetAu, ↓dEq_int, ↓dNe_int, ↓dEq_bl, ↓dNe_bl, ↓dEq_str, ↓dNe_str, ↓dAdd_int, ↓exAt10, ↓exIx10, ↓exAt20, ↓exIx20, ↓exAt21, ↓exIx21, ↓exAt30, ↓exIx30, ↓exAt31, ↓exIx31, ↓exAt32, ↓exIx32, ↓exAt40, ↓exIx40, ↓exAt41, ↓exIx41, ↓exAt42, ↓exIx42, ↓exAt43, ↓exIx43, ↓exAt50, ↓exIx50, ↓exAt51, ↓exIx51, ↓exAt52, ↓exIx52, ↓exAt53, ↓exIx53, ↓exAt54, ↓exIx54, ↓exAt60, ↓exIx60, ↓exAt61, ↓exIx61, ↓exAt62, ↓exIx62, ↓exAt63, ↓exIx63, ↓exAt64, ↓exIx64, ↓exAt65, ↓exIx65, up_up, false_or, or_false, ↓exAtM, ↓dFlag_bl, ↓exBl, ↓exInt, ↓exRef, ↓dVar0, ↓dAug0, ↓dSet0, ↓dTgN0, ↓dTgW0, ↓dVar1, ↓dAug1, ↓dSet1, ↓dTgN1, ↓dTgW1, ↓dVar2, ↓dAug2, ↓dSet2, ↓dTgN2, ↓dTgW2, ↓dVar3, ↓dAug3, ↓dSet3, ↓dTgN3, ↓dTgW3, ↓dVar4, ↓dAug4, ↓dSet4, ↓dTgN4, ↓dTgW4, ↓dVar5, ↓dAug5, ↓dSet5, ↓dTgN5, ↓dTgW5, ↓dVar6, ↓dAug6, ↓dSet6, ↓dTgN6, ↓dTgW6, ↓dVar7, ↓dAug7, ↓dSet7, ↓dTgN7, ↓dTgW7, ↓dVar8, ↓dAug8, ↓dSet8, ↓dTgN8, ↓dTgW8, ↓dVar9, ↓dAug9, ↓dSet9, ↓dTgN9, ↓dTgW9, ↓dVar10, ↓dAug10, ↓dSet10, ↓dTgN10, ↓dTgW10, ↓dVar11, ↓dAug11, ↓dSet11, ↓dTgN11, ↓dTgW11, ↓dVar12, ↓dAug12, ↓dSet12, ↓dTgN12, ↓dTgW12, ↓dVar13, ↓dAug13, ↓dSet13, ↓dTgN13, ↓dTgW13, ↓dVar14, ↓dAug14, ↓dSet14, ↓dTgN14, ↓dTgW14, ↓dVar15, ↓dAug15, ↓dSet15, ↓dTgN15, ↓dTgW15, ↓dVar16, ↓dAug16, ↓dSet16, ↓dTgN16, ↓dTgW16, ↓dVar17, ↓dAug17, ↓dSet17, ↓dTgN17, ↓dTgW17, ↓dVar18, ↓dAug18, ↓dSet18, ↓dTgN18, ↓dTgW18, ↓dVar19, ↓dAug19, ↓dSet19, ↓dTgN19, ↓dTgW19, ↓dTg_t2, ↓dTg_t3, ↓exGetM, ↓exSumU, nD, plD, rwD, ↓dAdd_tup, ↓dAdd_ref, dIx_tup, dIx_str, dIx_ref, dIx_kl, dListOf_tup, dListOf_kl, dListOf_ref, dLen_tup, dLen_str, dLen_kl, dLen_ref, dTupOf_tup, dTupOf_ref, dSeqI_x, sqX_tup, sqX_ref, sqX_str, dEnumI_x, enX_tup, enX_ref, dRevA, dRevD, dSIndex, dLtS, dUpper, dListS, dDisp1, dRevT, dInS, dSortA, dIsi2, isT2, Bool.or_true, Bool.true_or, Bool.or_false, Bool.or_self, dCallX, dRaise, dTryO, dTryA, dRaise1, dExF, dCls, dIsX, ↓exOne, WD0, ↓X0_, ↓X1_, ↓X2_, ↓X3_]
    exact dn0 h
  · refine ⟨M, rep, fun _ h => h, ?_⟩
    simp only [startD, List.map_cons, List.map_nil, List.length_cons, List.length_nil, Nat.reduceAdd, Nat.reduceSub, Nat.zero_add, List.replicate, List.cons_append, List.nil_append]; simp (config := {failIfUnchanged := false}) only [dC, dOp, dTest, dChain, dAnd, dOr, dNot, dAndV, dOrV, dNotV, dIf, dNil, dCons, dTup, dLst, dCB, d1, dNoPart, dPart, dSl, dCut, dNeg, dSorted, dSum, dAll, dAny, dInt, dAbs, dMax, dMin, dIsi, isT, dNext, dSeq, dBrk, dCont, dNever, dExpr, dRet, dRetN, dIfS, dAsg, dPutI, dI0, dI, dIsN, dNotN, dRng1, dRng2, dRngDn, dZipI, dYes, dCall, dLM, dAppend, dExtend, dReverse, dInsert, dAugI, dRg1, dRg2, dTupRg, dLstRg, dNewK, dNewT, ↓S0_, ↓S1_, ↓S2_, ↓S3_, ↓S4_, ↓S5_, ↓S6_, List.map_cons, List.map_nil, List.length_cons, List.length_nil, List.replicate, List.cons_append, List.nil_append, Nat.reduceAdd, Nat.reduceSub, Nat.zero_add, List.getElem?_cons_zero, List.getElem?_cons_succ, Option.some.injEq, exists_eq_left, exists_eq_left', List.set_cons_zero, List.set_cons_succ, wipeD, D.int.injEq, D.bl.injEq, D.str.injEq, D.ref.injEq, D.tup.injEq, D.ty.injEq, true_and, and_true, forall_const, forall_eq', forall_eq, mt_int, mt_bool, mt_str, mt_tuple, mt_list, mt_dict, st_int_int, st_int_bool, st_int_str, st_int_tuple, st_int_list, st_int_dict, st_bool_int, st_bool_bool, st_bool_str, st_bool_tuple, st_bool_list, st_bool_dict, st_str_int, st_str_bool, st_str_str, st_str_tuple, st_str_list, st_str_dict, st_tuple_int, st_tuple_bool, st_tuple_str, st_tuple_tuple, st_tuple_list, st_tuple_dict, st_list_int, st_list_bool, st_list_str, st_list_tuple, st_list_list, st_list_dict, st_dict_int, st_dict_bool, st_dict_str, st_dict_tuple, st_dict_list, st_dict_dict, eq_self, Bool.true_eq_false, Bool.false_eq_true, false_implies, true_implies, implies_true, decide_eq_true_eq, decide_eq_false_iff_not, Bool.not_true, Bool.not_false, Bool.not_eq_true, Bool.not_eq_false, Bool.not_eq_true', Bool.not_eq_false', not_true_eq_false, not_false_eq_true, false_and, and_false, or_false, false_or, reduceCtorEq, ↓exLSu, ↓exDKu, ↓exDKd, ↓exLSd, ↓exLu, ↓dIxRu, ↓dPutu, ↓dGetAu, ↓dEq_int, ↓dNe_int, ↓dEq_bl, ↓dNe_bl, ↓dEq_str, ↓dNe_str, ↓dAdd_int, ↓exAt10, ↓exIx10, ↓exAt20, ↓exIx20, ↓exAt21, ↓exIx21, ↓exAt30, ↓exIx30, ↓exAt31, ↓exIx31, ↓exAt32, ↓exIx32, ↓exAt40, ↓exIx40, ↓exAt41, ↓exIx41, ↓exAt42, ↓exIx42, ↓exAt43, ↓exIx43, ↓exAt50, ↓exIx50, ↓exAt51, ↓exIx51, ↓exAt52, ↓exIx52, ↓exAt53, ↓exIx53, ↓exAt54, ↓exIx54, ↓exAt60, ↓exIx60, ↓exAt61, ↓exIx61, ↓exAt62, ↓exIx62, ↓exAt63, ↓exIx63, ↓exAt64, ↓exIx64, ↓exAt65, ↓exIx65, up_up, false_or, or_false, ↓exAtM, ↓dFlag_bl, ↓exBl, ↓exInt, ↓exRef, ↓dVar0, ↓dAug0, ↓dSet0, ↓dTgN0, ↓dTgW0, ↓dVar1, ↓dAug1, ↓dSet1, ↓dTgN1, ↓dTgW1, ↓dVar2, ↓dAug2, ↓dSet2, ↓dTgN2, ↓dTgW2, ↓dVar3, ↓dAug3, ↓dSet3, ↓dTgN3, ↓dTgW3, ↓dVar4, ↓dAug4, ↓dSet4, ↓dTgN4, ↓dTgW4, ↓dVar5, ↓dAug5, ↓dSet5, ↓dTgN5, ↓dTgW5, ↓dVar6, ↓dAug6, ↓dSet6, ↓dTgN6, ↓dTgW6, ↓dVar7, ↓dAug7, ↓dSet7, ↓dTgN7, ↓dTgW7, ↓dVar8, ↓dAug8, ↓dSet8, ↓dTgN8, ↓dTgW8, ↓dVar9, ↓dAug9, ↓dSet9, ↓dTgN9, ↓dTgW9, ↓dVar10, ↓dAug10, ↓dSet10, ↓dTgN10, ↓dTgW10, ↓dVar11, ↓dAug11, ↓dSet11, ↓dTgN11, ↓dTgW11, ↓dVar12, ↓dAug12, ↓dSet12, ↓dTgN12, ↓dTgW12, ↓dVar13, ↓dAug13, ↓dSet13, ↓dTgN13, ↓dTgW13, ↓dVar14, ↓dAug14, ↓dSet14, ↓dTgN14, ↓dTgW14, ↓dVar15, ↓dAug15, ↓dSet15, ↓dTgN15, ↓dTgW15, ↓dVar16, ↓dAug16, ↓dSet16, ↓dTgN16, ↓dTgW16, ↓dVar17, ↓dAug17, ↓dSet17, ↓dTgN17, ↓dTgW17, ↓dVar18, ↓dAug18, ↓dSet18, ↓dTgN18, ↓dTgW18, ↓dVar19, ↓dAug19, ↓dSet19, ↓dTgN19, ↓dTgW19, ↓dTg_t2, ↓dTg_t3, ↓exGetM, ↓exSumU, nD, plD, rwD, ↓dAdd_tup, ↓dAdd_ref, dIx_tup, dIx_str, dIx_ref, dIx_kl, dListOf_tup, dListOf_kl, dListOf_ref, dLen_tup, dLen_str, dLen_kl, dLen_ref, dTupOf_tup, dTupOf_ref, dSeqI_x, sqX_tup, sqX_ref, sqX_str, dEnumI_x, enX_tup, enX_ref, dRevA, dRevD, dSIndex, dLtS, dUpper, dListS, dDisp1, dRevT, dInS, dSortA, dIsi2, isT2, Bool.or_true, Bool.true_or, Bool.or_false, Bool.or_self, dCallX, dRaise, dTryO, dTryA, dRaise1, dExF, dCls, dIsX, ↓exOne, WD0, ↓X0_, ↓X1_, ↓X2_, ↓X3_]
    exact dn0 h
  · refine ⟨M, rep, fun _ h => h, ?_⟩
    simp only [startD, List.map_cons, List.map_nil, List.length_cons, List.length_nil, Nat.reduceAdd, Nat.reduceSub, Nat.zero_add, List.replicate, List.cons_append, List.nil_append]; simp (config := {failIfUnchanged := false}) only [dC, dOp, dTest, dChain, dAnd, dOr, dNot, dAndV, dOrV, dNotV, dIf, dNil, dCons, dTup, dLst, dCB, d1, dNoPart, dPart, dSl, dCut, dNeg, dSorted, dSum, dAll, dAny, dInt, dAbs, dMax, dMin, dIsi, isT, dNext, dSeq, dBrk, dCont, dNever, dExpr, dRet, dRetN, dIfS, dAsg, dPutI, dI0, dI, dIsN, dNotN, dRng1, dRng2, dRngDn, dZipI, dYes, dCall, dLM, dAppend, dExtend, dReverse, dInsert, dAugI, dRg1, dRg2, dTupRg, dLstRg, dNewK, dNewT, ↓S0_, ↓S1_, ↓S2_, ↓S3_, ↓S4_, ↓S5_, ↓S6_, List.map_cons, List.map_nil, List.length_cons, List.length_nil, List.replicate, List.cons_append, List.nil_append, Nat.reduceAdd, Nat.reduceSub, Nat.zero_add, List.getElem?_cons_zero, List.getElem?_cons_succ, Option.some.injEq, exists_eq_left, exists_eq_left', List.set_cons_zero, List.set_cons_succ, wipeD, D.int.injEq, D.bl.injEq, D.str.injEq, D.ref.injEq, D.tup.injEq, D.ty.injEq, true_and, and_true, forall_const, forall_eq', forall_eq, mt_int, mt_bool, mt_str, mt_tuple, mt_list, mt_dict, st_int_int, st_int_bool, st_int_str, st_int_tuple, st_int_list, st_int_dict, st_bool_int, st_bool_bool, st_bool_str, st_bool_tuple, st_bool_list, st_bool_dict, st_str_int, st_str_bool, st_str_str, st_str_tuple, st_str_list, st_str_dict, st_tuple_int, st_tuple_bool, st_tuple_str, st_tuple_tuple, st_tuple_list, st_tuple_dict, st_list_int, st_list_bool, st_list_str, st_list_tuple, st_list_list, st_list_dict, st_dict_int, st_dict_bool, st_dict_str, st_dict_tuple, st_dict_list, st_dict_dict, eq_self, Bool.true_eq_false, Bool.false_eq_true, false_implies, true_implies, implies_true, decide_eq_true_eq, decide_eq_false_iff_not, Bool.not_true, Bool.not_false, Bool.not_eq_true, Bool.not_eq_false, Bool.not_eq_true', Bool.not_eq_false', not_true_eq_false, not_false_eq_true, false_and, and_false, or_false, false_or, reduceCtorEq, ↓exLSu, ↓exDKu, ↓exDKd, ↓exLSd, ↓exLu, ↓dIxRu, ↓dPutu, ↓dGetAu, ↓dEq_int, ↓dNe_int, ↓dEq_bl, ↓dNe_bl, ↓dEq_str, ↓dNe_str, ↓dAdd_int, ↓exAt10, ↓exIx10, ↓exAt20, ↓exIx20, ↓exAt21, ↓exIx21, ↓exAt30, ↓exIx30, ↓exAt31, ↓exIx31, ↓exAt32, ↓exIx32, ↓exAt40, ↓exIx40, ↓exAt41, ↓exIx41, ↓exAt42, ↓exIx42, ↓exAt43, ↓exIx43, ↓exAt50, ↓exIx50, ↓exAt51, ↓exIx51, ↓exAt52, ↓exIx52, ↓exAt53, ↓exIx53, ↓exAt54, ↓exIx54, ↓exAt60, ↓exIx60, ↓exAt61, ↓exIx61, ↓exAt62, ↓exIx62, ↓exAt63, ↓exIx63, ↓exAt64, ↓exIx64, ↓exAt65, ↓exIx65, up_up, false_or, or_false, ↓exAtM, ↓dFlag_bl, ↓exBl, ↓exInt, ↓exRef, ↓dVar0, ↓dAug0, ↓dSet0, ↓dTgN0, ↓dTgW0, ↓dVar1, ↓dAug1, ↓dSet1, ↓dTgN1, ↓dTgW1, ↓dVar2, ↓dAug2, ↓dSet2, ↓dTgN2, ↓dTgW2, ↓dVar3, ↓dAug3, ↓dSet3, ↓dTgN3, ↓dTgW3, ↓dVar4, ↓dAug4, ↓dSet4, ↓dTgN4, ↓dTgW4, ↓dVar5, ↓dAug5, ↓dSet5, ↓dTgN5, ↓dTgW5, ↓dVar6, ↓dAug6, ↓dSet6, ↓dTgN6, ↓dTgW6, ↓dVar7, ↓dAug7, ↓dSet7, ↓dTgN7, ↓dTgW7, ↓dVar8, ↓dAug8, ↓dSet8, ↓dTgN8, ↓dTgW8, ↓dVar9, ↓dAug9, ↓dSet9, ↓dTgN9, ↓dTgW9, ↓dVar10, ↓dAug10, ↓dSet10, ↓dTgN10, ↓dTgW10, ↓dVar11, ↓dAug11, ↓dSet11, ↓dTgN11, ↓dTgW11, ↓dVar12, ↓dAug12, ↓dSet12, ↓dTgN12, ↓dTgW12, ↓dVar13, ↓dAug13, ↓dSet13, ↓dTgN13, ↓dTgW13, ↓dVar14, ↓dAug14, ↓dSet14, ↓dTgN14, ↓dTgW14, ↓dVar15, ↓dAug15, ↓dSet15, ↓dTgN15, ↓dTgW15, ↓dVar16, ↓dAug16, ↓dSet16, ↓dTgN16, ↓dTgW16, ↓dVar17, ↓dAug17, ↓dSet17, ↓dTgN17, ↓dTgW17, ↓dVar18, ↓dAug18, ↓dSet18, ↓dTgN18, ↓dTgW18, ↓dVar19, ↓dAug19, ↓dSet19, ↓dTgN19, ↓dTgW19, ↓dTg_t2, ↓dTg_t3, ↓exGetM, ↓exSumU, nD, plD, rwD, ↓dAdd_tup, ↓dAdd_ref, dIx_tup, dIx_str, dIx_ref, dIx_kl, dListOf_tup, dListOf_kl, dListOf_ref, dLen_tup, dLen_str, dLen_kl, dLen_ref, dTupOf_tup, dTupOf_ref, dSeqI_x, sqX_tup, sqX_ref, sqX_str, dEnumI_x, enX_tup, enX_ref, dRevA, dRevD, dSIndex, dLtS, dUpper, dListS, dDisp1, dRevT, dInS, dSortA, dIsi2, isT2, Bool.or_true, Bool.true_or, Bool.or_false, Bool.or_self, dCallX, dRaise, dTryO, dTryA, dRaise1, dExF, dCls, dIsX, ↓exOne, WD0, ↓X0_, ↓X1_, ↓X2_, ↓X3_]
    exact .inl ⟨xs, hp, dn0 h⟩
theorem pr_lacking (G : Gv K mg) : PrX P w K mg base "lacking" 2 ["things"] (X1 fun x M Q E => (∃ T : List (List Nat), SqO M x (T.map wD) ∧ (∀ t ∈ T, Fal t) ∧ T.length ≤ 4000 ∧ ∀ L f M', Lk T L → L.length ≤ 25 * T.length → Sub M' M → M f = none → M' f = some (.lst (L.map wD)) → Q (.ref f) M') ∨ (BadX M x ∧ ∀ c, mg "NoHeap" = some c → E c [] M)) := by
  refine (pr3X (k := 1) G.d_lacking bi_lacking sc_lacking X1n (fun f cdv A outer s H E B WD hr hpo tk => (b_cons (s_if (PW3.pt (w_or (t_not (t_val (e_callP (pr_is_listed G) (hr.mono (by decide)) (by rfl) pass0 (a_cons (e_var 0) a_nil)))) (w_or1 (t_not (t_val (e_callB (cd_all rfl) (by rfl) G.b_all rfl (a_cons (e_lc (own := [("thing", 5)]) rfl sc_lacking.nd (i_seq (e_var 0)) (blkOk_by (by rfl)) (fun _ _ _ _ _ => (g_nm 5 sc_lacking.nd)) (fun _ _ _ _ _ => ts_nil) (fun _ _ _ _ _ => (e_callP (pr_is_falling G) (hr.mono (by decide)) (by rfl) pass0 (a_cons (e_var 5) a_nil)))) a_nil))))))) (b_one (s_raise0 rfl G.x_NoHeap (by rfl) tk)) b_nil)
      (b_cons (s_setDc 1 (own := [("text", 3)]) rfl sc_lacking.nd (swd_true rfl rfl rfl (by decide +kernel)) (i_seq (e_var 0)) (blkOk_by (by rfl)) (fun _ _ _ _ _ => (g_nm 3 sc_lacking.nd)) (fun _ _ _ _ _ => ts_nil) (fun _ _ _ _ _ => (e_var 3)) (fun _ _ _ _ _ => e_bl))
      (b_cons (s_set 2 sc_lacking.nd e_newK)
      (b_cons (s_for hpo rfl (i_seq (e_var 0)) (g_nm 3 sc_lacking.nd)
      (b_one (s_for hpo rfl (i_rng2 (by rfl) G.b_range (a_cons e_int (a_cons (e_callB cd_len (by rfl) G.b_len rfl (a_cons (e_var 3) a_nil)) a_nil))) (g_nm 4 sc_lacking.nd)
      (b_one (s_if (t_cmp (od_notin (hu_of hr)) (e_slice slD (e_var 3) o_none (o_some (e_var 4))) (e_var 1)) (b_one (s_put (put3 (hu_of hr)) (e_var 2) (e_slice slD (e_var 3) o_none (o_some (e_var 4))) e_bl)) b_nil)))))
      (b_one (s_ret (e_callB (cd_sortA (hu3 hr)) (by rfl) G.b_sorted rfl (a_cons (e_callTy (cd_list rfl) (by rfl) G.b_list rfl (a_cons (e_var 2) a_nil)) a_nil)))))))))) ?_
  rintro _ M Q E ⟨x, rfl, ⟨T, hx, hF, hl, h⟩ | ⟨hb, h⟩⟩ H rep
  · refine ⟨M, rep, fun _ h => h, ?_⟩
    simp only [startD, List.map_cons, List.map_nil, List.length_cons, List.length_nil, Nat.reduceAdd, Nat.reduceSub, Nat.zero_add, List.replicate, List.cons_append, List.nil_append]; simp (config := {failIfUnchanged := false}) only [dC, dOp, dTest, dChain, dAnd, dOr, dNot, dAndV, dOrV, dNotV, dIf, dNil, dCons, dTup, dLst, dCB, d1, dNoPart, dPart, dSl, dCut, dNeg, dSorted, dSum, dAll, dAny, dInt, dAbs, dMax, dMin, dIsi, isT, dNext, dSeq, dBrk, dCont, dNever, dExpr, dRet, dRetN, dIfS, dAsg, dPutI, dI0, dI, dIsN, dNotN, dRng1, dRng2, dRngDn, dZipI, dYes, dCall, dLM, dAppend, dExtend, dReverse, dInsert, dAugI, dRg1, dRg2, dTupRg, dLstRg, dNewK, dNewT, ↓S0_, ↓S1_, ↓S2_, ↓S3_, ↓S4_, ↓S5_, ↓S6_, List.map_cons, List.map_nil, List.length_cons, List.length_nil, List.replicate, List.cons_append, List.nil_append, Nat.reduceAdd, Nat.reduceSub, Nat.zero_add, List.getElem?_cons_zero, List.getElem?_cons_succ, Option.some.injEq, exists_eq_left, exists_eq_left', List.set_cons_zero, List.set_cons_succ, wipeD, D.int.injEq, D.bl.injEq, D.str.injEq, D.ref.injEq, D.tup.injEq, D.ty.injEq, true_and, and_true, forall_const, forall_eq', forall_eq, mt_int, mt_bool, mt_str, mt_tuple, mt_list, mt_dict, st_int_int, st_int_bool, st_int_str, st_int_tuple, st_int_list, st_int_dict, st_bool_int, st_bool_bool, st_bool_str, st_bool_tuple, st_bool_list, st_bool_dict, st_str_int, st_str_bool, st_str_str, st_str_tuple, st_str_list, st_str_dict, st_tuple_int, st_tuple_bool, st_tuple_str, st_tuple_tuple, st_tuple_list, st_tuple_dict, st_list_int, st_list_bool, st_list_str, st_list_tuple, st_list_list, st_list_dict, st_dict_int, st_dict_bool, st_dict_str, st_dict_tuple, st_dict_list, st_dict_dict, eq_self, Bool.true_eq_false, Bool.false_eq_true, false_implies, true_implies, implies_true, decide_eq_true_eq, decide_eq_false_iff_not, Bool.not_true, Bool.not_false, Bool.not_eq_true, Bool.not_eq_false, Bool.not_eq_true', Bool.not_eq_false', not_true_eq_false, not_false_eq_true, false_and, and_false, or_false, false_or, reduceCtorEq, ↓exLSu, ↓exDKu, ↓exDKd, ↓exLSd, ↓exLu, ↓dIxRu, ↓dPutu, ↓dGetAu, ↓dEq_int, ↓dNe_int, ↓dEq_bl, ↓dNe_bl, ↓dEq_str, ↓dNe_str, ↓dAdd_int, ↓exAt10, ↓exIx10, ↓exAt20, ↓exIx20, ↓exAt21, ↓exIx21, ↓exAt30, ↓exIx30, ↓exAt31, ↓exIx31, ↓exAt32, ↓exIx32, ↓exAt40, ↓exIx40, ↓exAt41, ↓exIx41, ↓exAt42, ↓exIx42, ↓exAt43, ↓exIx43, ↓exAt50, ↓exIx50, ↓exAt51, ↓exIx51, ↓exAt52, ↓exIx52, ↓exAt53, ↓exIx53, ↓exAt54, ↓exIx54, ↓exAt60, ↓exIx60, ↓exAt61, ↓exIx61, ↓exAt62, ↓exIx62, ↓exAt63, ↓exIx63, ↓exAt64, ↓exIx64, ↓exAt65, ↓exIx65, up_up, false_or, or_false, ↓exAtM, ↓dFlag_bl, ↓exBl, ↓exInt, ↓exRef, ↓dVar0, ↓dAug0, ↓dSet0, ↓dTgN0, ↓dTgW0, ↓dVar1, ↓dAug1, ↓dSet1, ↓dTgN1, ↓dTgW1, ↓dVar2, ↓dAug2, ↓dSet2, ↓dTgN2, ↓dTgW2, ↓dVar3, ↓dAug3, ↓dSet3, ↓dTgN3, ↓dTgW3, ↓dVar4, ↓dAug4, ↓dSet4, ↓dTgN4, ↓dTgW4, ↓dVar5, ↓dAug5, ↓dSet5, ↓dTgN5, ↓dTgW5, ↓dVar6, ↓dAug6, ↓dSet6, ↓dTgN6, ↓dTgW6, ↓dVar7, ↓dAug7, ↓dSet7, ↓dTgN7, ↓dTgW7, ↓dVar8, ↓dAug8, ↓dSet8, ↓dTgN8, ↓dTgW8, ↓dVar9, ↓dAug9, ↓dSet9, ↓dTgN9, ↓dTgW9, ↓dVar10, ↓dAug10, ↓dSet10, ↓dTgN10, ↓dTgW10, ↓dVar11, ↓dAug11, ↓dSet11, ↓dTgN11, ↓dTgW11, ↓dVar12, ↓dAug12, ↓dSet12, ↓dTgN12, ↓dTgW12, ↓dVar13, ↓dAug13, ↓dSet13, ↓dTgN13, ↓dTgW13, ↓dVar14, ↓dAug14, ↓dSet14, ↓dTgN14, ↓dTgW14, ↓dVar15, ↓dAug15, ↓dSet15, ↓dTgN15, ↓dTgW15, ↓dVar16, ↓dAug16, ↓dSet16, ↓dTgN16, ↓dTgW16, ↓dVar17, ↓dAug17, ↓dSet17, ↓dTgN17, ↓dTgW17, ↓dVar18, ↓dAug18, ↓dSet18, ↓dTgN18, ↓dTgW18, ↓dVar19, ↓dAug19, ↓dSet19, ↓dTgN19, ↓dTgW19, ↓dTg_t2, ↓dTg_t3, ↓exGetM, ↓exSumU, nD, plD, rwD, ↓dAdd_tup, ↓dAdd_ref, dIx_tup, dIx_str, dIx_ref, dIx_kl, dListOf_tup, dListOf_kl, dListOf_ref, dLen_tup, dLen_str, dLen_kl, dLen_ref, dTupOf_tup, dTupOf_ref, dSeqI_x, sqX_tup, sqX_ref, sqX_str, dEnumI_x, enX_tup, enX_ref, dRevA, dRevD, dSIndex, dLtS, dUpper, dListS, dDisp1, dRevT, dInS, dSortA, dIsi2, isT2, Bool.or_true, Bool.true_or, Bool.or_false, Bool.or_self, dCallX, dRaise, dTryO, dTryA, dRaise1, dExF, dCls, dIsX, ↓exOne, WD0, ↓X0_, ↓X1_, ↓X2_, ↓X3_]
    have hF26 : ∀ t ∈ T, ∀ i ∈ t, i < 26 := fun t ht => (hF t ht).lt
    refine .inl ⟨_, hx, ?_⟩
    refine dLc_g fun F1 T1 U1 h1 t1 u1 => ?_; simp only [dLc, dC, dOp, dTest, dChain, dAnd, dOr, dNot, dAndV, dOrV, dNotV, dIf, dNil, dCons, dTup, dLst, dCB, d1, dNoPart, dPart, dSl, dCut, dNeg, dSorted, dSum, dAll, dAny, dInt, dAbs, dMax, dMin, dIsi, isT, dNext, dSeq, dBrk, dCont, dNever, dExpr, dRet, dRetN, dIfS, dAsg, dPutI, dI0, dI, dIsN, dNotN, dRng1, dRng2, dRngDn, dZipI, dYes, dCall, dLM, dAppend, dExtend, dReverse, dInsert, dAugI, dRg1, dRg2, dTupRg, dLstRg, dNewK, dNewT, ↓S0_, ↓S1_, ↓S2_, ↓S3_, ↓S4_, ↓S5_, ↓S6_, List.map_cons, List.map_nil, List.length_cons, List.length_nil, List.replicate, List.cons_append, List.nil_append, Nat.reduceAdd, Nat.reduceSub, Nat.zero_add, List.getElem?_cons_zero, List.getElem?_cons_succ, Option.some.injEq, exists_eq_left, exists_eq_left', List.set_cons_zero, List.set_cons_succ, wipeD, D.int.injEq, D.bl.injEq, D.str.injEq, D.ref.injEq, D.tup.injEq, D.ty.injEq, true_and, and_true, forall_const, forall_eq', forall_eq, mt_int, mt_bool, mt_str, mt_tuple, mt_list, mt_dict, st_int_int, st_int_bool, st_int_str, st_int_tuple, st_int_list, st_int_dict, st_bool_int, st_bool_bool, st_bool_str, st_bool_tuple, st_bool_list, st_bool_dict, st_str_int, st_str_bool, st_str_str, st_str_tuple, st_str_list, st_str_dict, st_tuple_int, st_tuple_bool, st_tuple_str, st_tuple_tuple, st_tuple_list, st_tuple_dict, st_list_int, st_list_bool, st_list_str, st_list_tuple, st_list_list, st_list_dict, st_dict_int, st_dict_bool, st_dict_str, st_dict_tuple, st_dict_list, st_dict_dict, eq_self, Bool.true_eq_false, Bool.false_eq_true, false_implies, true_implies, implies_true, decide_eq_true_eq, decide_eq_false_iff_not, Bool.not_true, Bool.not_false, Bool.not_eq_true, Bool.not_eq_false, Bool.not_eq_true', Bool.not_eq_false', not_true_eq_false, not_false_eq_true, false_and, and_false, or_false, false_or, reduceCtorEq, ↓exLSu, ↓exDKu, ↓exDKd, ↓exLSd, ↓exLu, ↓dIxRu, ↓dPutu, ↓dGetAu, ↓dEq_int, ↓dNe_int, ↓dEq_bl, ↓dNe_bl, ↓dEq_str, ↓dNe_str, ↓dAdd_int, ↓exAt10, ↓exIx10, ↓exAt20, ↓exIx20, ↓exAt21, ↓exIx21, ↓exAt30, ↓exIx30, ↓exAt31, ↓exIx31, ↓exAt32, ↓exIx32, ↓exAt40, ↓exIx40, ↓exAt41, ↓exIx41, ↓exAt42, ↓exIx42, ↓exAt43, ↓exIx43, ↓exAt50, ↓exIx50, ↓exAt51, ↓exIx51, ↓exAt52, ↓exIx52, ↓exAt53, ↓exIx53, ↓exAt54, ↓exIx54, ↓exAt60, ↓exIx60, ↓exAt61, ↓exIx61, ↓exAt62, ↓exIx62, ↓exAt63, ↓exIx63, ↓exAt64, ↓exIx64, ↓exAt65, ↓exIx65, up_up, false_or, or_false, ↓exAtM, ↓dFlag_bl, ↓exBl, ↓exInt, ↓exRef, ↓dVar0, ↓dAug0, ↓dSet0, ↓dTgN0, ↓dTgW0, ↓dVar1, ↓dAug1, ↓dSet1, ↓dTgN1, ↓dTgW1, ↓dVar2, ↓dAug2, ↓dSet2, ↓dTgN2, ↓dTgW2, ↓dVar3, ↓dAug3, ↓dSet3, ↓dTgN3, ↓dTgW3, ↓dVar4, ↓dAug4, ↓dSet4, ↓dTgN4, ↓dTgW4, ↓dVar5, ↓dAug5, ↓dSet5, ↓dTgN5, ↓dTgW5, ↓dVar6, ↓dAug6, ↓dSet6, ↓dTgN6, ↓dTgW6, ↓dVar7, ↓dAug7, ↓dSet7, ↓dTgN7, ↓dTgW7, ↓dVar8, ↓dAug8, ↓dSet8, ↓dTgN8, ↓dTgW8, ↓dVar9, ↓dAug9, ↓dSet9, ↓dTgN9, ↓dTgW9, ↓dVar10, ↓dAug10, ↓dSet10, ↓dTgN10, ↓dTgW10, ↓dVar11, ↓dAug11, ↓dSet11, ↓dTgN11, ↓dTgW11, ↓dVar12, ↓dAug12, ↓dSet12, ↓dTgN12, ↓dTgW12, ↓dVar13, ↓dAug13, ↓dSet13, ↓dTgN13, ↓dTgW13, ↓dVar14, ↓dAug14, ↓dSet14, ↓dTgN14, ↓dTgW14, ↓dVar15, ↓dAug15, ↓dSet15, ↓dTgN15, ↓dTgW15, ↓dVar16, ↓dAug16, ↓dSet16, ↓dTgN16, ↓dTgW16, ↓dVar17, ↓dAug17, ↓dSet17, ↓dTgN17, ↓dTgW17, ↓dVar18, ↓dAug18, ↓dSet18, ↓dTgN18, ↓dTgW18, ↓dVar19, ↓dAug19, ↓dSet19, ↓dTgN19, ↓dTgW19, ↓dTg_t2, ↓dTg_t3, ↓exGetM, ↓exSumU, nD, plD, rwD, ↓dAdd_tup, ↓dAdd_ref, dIx_tup, dIx_str, dIx_ref, dIx_kl, dListOf_tup, dListOf_kl, dListOf_ref, dLen_tup, dLen_str, dLen_kl, dLen_ref, dTupOf_tup, dTupOf_ref, dSeqI_x, sqX_tup, sqX_ref, sqX_str, dEnumI_x, enX_tup, enX_ref, dRevA, dRevD, dSIndex, dLtS, dUpper, dListS, dDisp1, dRevT, dInS, dSortA, dIsi2, isT2, Bool.or_true, Bool.true_or, Bool.or_false, Bool.or_self, dCallX, dRaise, dTryO, dTryA, dRaise1, dExF, dCls, dIsX, ↓exOne, WD0, ↓X0_, ↓X1_, ↓X2_, ↓X3_]
    refine sqX_of hx Sub.refl fun g hg => ⟨by rw [List.length_map]; exact Nat.le_trans hl (by decide), lcM wD (fun _ => .bl true) T rfl (fun l t r pre acc P2 e hP2 => ⟨hg _ Sub.refl, ?_⟩) ⟨hg _ Sub.refl, fun q1 hq1 => ?_⟩⟩
    · subst t1; subst u1
      simp (config := {failIfUnchanged := false}) only [dC, dOp, dTest, dChain, dAnd, dOr, dNot, dAndV, dOrV, dNotV, dIf, dNil, dCons, dTup, dLst, dCB, d1, dNoPart, dPart, dSl, dCut, dNeg, dSorted, dSum, dAll, dAny, dInt, dAbs, dMax, dMin, dIsi, isT, dNext, dSeq, dBrk, dCont, dNever, dExpr, dRet, dRetN, dIfS, dAsg, dPutI, dI0, dI, dIsN, dNotN, dRng1, dRng2, dRngDn, dZipI, dYes, dCall, dLM, dAppend, dExtend, dReverse, dInsert, dAugI, dRg1, dRg2, dTupRg, dLstRg, dNewK, dNewT, ↓S0_, ↓S1_, ↓S2_, ↓S3_, ↓S4_, ↓S5_, ↓S6_, List.map_cons, List.map_nil, List.length_cons, List.length_nil, List.replicate, List.cons_append, List.nil_append, Nat.reduceAdd, Nat.reduceSub, Nat.zero_add, List.getElem?_cons_zero, List.getElem?_cons_succ, Option.some.injEq, exists_eq_left, exists_eq_left', List.set_cons_zero, List.set_cons_succ, wipeD, D.int.injEq, D.bl.injEq, D.str.injEq, D.ref.injEq, D.tup.injEq, D.ty.injEq, true_and, and_true, forall_const, forall_eq', forall_eq, mt_int, mt_bool, mt_str, mt_tuple, mt_list, mt_dict, st_int_int, st_int_bool, st_int_str, st_int_tuple, st_int_list, st_int_dict, st_bool_int, st_bool_bool, st_bool_str, st_bool_tuple, st_bool_list, st_bool_dict, st_str_int, st_str_bool, st_str_str, st_str_tuple, st_str_list, st_str_dict, st_tuple_int, st_tuple_bool, st_tuple_str, st_tuple_tuple, st_tuple_list, st_tuple_dict, st_list_int, st_list_bool, st_list_str, st_list_tuple, st_list_list, st_list_dict, st_dict_int, st_dict_bool, st_dict_str, st_dict_tuple, st_dict_list, st_dict_dict, eq_self, Bool.true_eq_false, Bool.false_eq_true, false_implies, true_implies, implies_true, decide_eq_true_eq, decide_eq_false_iff_not, Bool.not_true, Bool.not_false, Bool.not_eq_true, Bool.not_eq_false, Bool.not_eq_true', Bool.not_eq_false', not_true_eq_false, not_false_eq_true, false_and, and_false, or_false, false_or, reduceCtorEq, ↓exLSu, ↓exDKu, ↓exDKd, ↓exLSd, ↓exLu, ↓dIxRu, ↓dPutu, ↓dGetAu, ↓dEq_int, ↓dNe_int, ↓dEq_bl, ↓dNe_bl, ↓dEq_str, ↓dNe_str, ↓dAdd_int, ↓exAt10, ↓exIx10, ↓exAt20, ↓exIx20, ↓exAt21, ↓exIx21, ↓exAt30, ↓exIx30, ↓exAt31, ↓exIx31, ↓exAt32, ↓exIx32, ↓exAt40, ↓exIx40, ↓exAt41, ↓exIx41, ↓exAt42, ↓exIx42, ↓exAt43, ↓exIx43, ↓exAt50, ↓exIx50, ↓exAt51, ↓exIx51, ↓exAt52, ↓exIx52, ↓exAt53, ↓exIx53, ↓exAt54, ↓exIx54, ↓exAt60, ↓exIx60, ↓exAt61, ↓exIx61, ↓exAt62, ↓exIx62, ↓exAt63, ↓exIx63, ↓exAt64, ↓exIx64, ↓exAt65, ↓exIx65, up_up, false_or, or_false, ↓exAtM, ↓dFlag_bl, ↓exBl, ↓exInt, ↓exRef, ↓dVar0, ↓dAug0, ↓dSet0, ↓dTgN0, ↓dTgW0, ↓dVar1, ↓dAug1, ↓dSet1, ↓dTgN1, ↓dTgW1, ↓dVar2, ↓dAug2, ↓dSet2, ↓dTgN2, ↓dTgW2, ↓dVar3, ↓dAug3, ↓dSet3, ↓dTgN3, ↓dTgW3, ↓dVar4, ↓dAug4, ↓dSet4, ↓dTgN4, ↓dTgW4, ↓dVar5, ↓dAug5, ↓dSet5, ↓dTgN5, ↓dTgW5, ↓dVar6, ↓dAug6, ↓dSet6, ↓dTgN6, ↓dTgW6, ↓dVar7, ↓dAug7, ↓dSet7, ↓dTgN7, ↓dTgW7, ↓dVar8, ↓dAug8, ↓dSet8, ↓dTgN8, ↓dTgW8, ↓dVar9, ↓dAug9, ↓dSet9, ↓dTgN9, ↓dTgW9, ↓dVar10, ↓dAug10, ↓dSet10, ↓dTgN10, ↓dTgW10, ↓dVar11, ↓dAug11, ↓dSet11, ↓dTgN11, ↓dTgW11, ↓dVar12, ↓dAug12, ↓dSet12, ↓dTgN12, ↓dTgW12, ↓dVar13, ↓dAug13, ↓dSet13, ↓dTgN13, ↓dTgW13, ↓dVar14, ↓dAug14, ↓dSet14, ↓dTgN14, ↓dTgW14, ↓dVar15, ↓dAug15, ↓dSet15, ↓dTgN15, ↓dTgW15, ↓dVar16, ↓dAug16, ↓dSet16, ↓dTgN16, ↓dTgW16, ↓dVar17, ↓dAug17, ↓dSet17, ↓dTgN17, ↓dTgW17, ↓dVar18, ↓dAug18, ↓dSet18, ↓dTgN18, ↓dTgW18, ↓dVar19, ↓dAug19, ↓dSet19, ↓dTgN19, ↓dTgW19, ↓dTg_t2, ↓dTg_t3, ↓exGetM, ↓exSumU, nD, plD, rwD, ↓dAdd_tup, ↓dAdd_ref, dIx_tup, dIx_str, dIx_ref, dIx_kl, dListOf_tup, dListOf_kl, dListOf_ref, dLen_tup, dLen_str, dLen_kl, dLen_ref, dTupOf_tup, dTupOf_ref, dSeqI_x, sqX_tup, sqX_ref, sqX_str, dEnumI_x, enX_tup, enX_ref, dRevA, dRevD, dSIndex, dLtS, dUpper, dListS, dDisp1, dRevT, dInS, dSortA, dIsi2, isT2, Bool.or_true, Bool.true_or, Bool.or_false, Bool.or_self, dCallX, dRaise, dTryO, dTryA, dRaise1, dExF, dCls, dIsX, ↓exOne, WD0, ↓X0_, ↓X1_, ↓X2_, ↓X3_]
      exact ⟨true, FalR.ok (hF t (by rw [e]; simp)), sb0 hP2⟩
    rw [h1]; clear h1 t1 u1
    simp (config := {failIfUnchanged := false}) only [dC, dOp, dTest, dChain, dAnd, dOr, dNot, dAndV, dOrV, dNotV, dIf, dNil, dCons, dTup, dLst, dCB, d1, dNoPart, dPart, dSl, dCut, dNeg, dSorted, dSum, dAll, dAny, dInt, dAbs, dMax, dMin, dIsi, isT, dNext, dSeq, dBrk, dCont, dNever, dExpr, dRet, dRetN, dIfS, dAsg, dPutI, dI0, dI, dIsN, dNotN, dRng1, dRng2, dRngDn, dZipI, dYes, dCall, dLM, dAppend, dExtend, dReverse, dInsert, dAugI, dRg1, dRg2, dTupRg, dLstRg, dNewK, dNewT, ↓S0_, ↓S1_, ↓S2_, ↓S3_, ↓S4_, ↓S5_, ↓S6_, List.map_cons, List.map_nil, List.length_cons, List.length_nil, List.replicate, List.cons_append, List.nil_append, Nat.reduceAdd, Nat.reduceSub, Nat.zero_add, List.getElem?_cons_zero, List.getElem?_cons_succ, Option.some.injEq, exists_eq_left, exists_eq_left', List.set_cons_zero, List.set_cons_succ, wipeD, D.int.injEq, D.bl.injEq, D.str.injEq, D.ref.injEq, D.tup.injEq, D.ty.injEq, true_and, and_true, forall_const, forall_eq', forall_eq, mt_int, mt_bool, mt_str, mt_tuple, mt_list, mt_dict, st_int_int, st_int_bool, st_int_str, st_int_tuple, st_int_list, st_int_dict, st_bool_int, st_bool_bool, st_bool_str, st_bool_tuple, st_bool_list, st_bool_dict, st_str_int, st_str_bool, st_str_str, st_str_tuple, st_str_list, st_str_dict, st_tuple_int, st_tuple_bool, st_tuple_str, st_tuple_tuple, st_tuple_list, st_tuple_dict, st_list_int, st_list_bool, st_list_str, st_list_tuple, st_list_list, st_list_dict, st_dict_int, st_dict_bool, st_dict_str, st_dict_tuple, st_dict_list, st_dict_dict, eq_self, Bool.true_eq_false, Bool.false_eq_true, false_implies, true_implies, implies_true, decide_eq_true_eq, decide_eq_false_iff_not, Bool.not_true, Bool.not_false, Bool.not_eq_true, Bool.not_eq_false, Bool.not_eq_true', Bool.not_eq_false', not_true_eq_false, not_false_eq_true, false_and, and_false, or_false, false_or, reduceCtorEq, ↓exLSu, ↓exDKu, ↓exDKd, ↓exLSd, ↓exLu, ↓dIxRu, ↓dPutu, ↓dGetAu, ↓dEq_int, ↓dNe_int, ↓dEq_bl, ↓dNe_bl, ↓dEq_str, ↓dNe_str, ↓dAdd_int, ↓exAt10, ↓exIx10, ↓exAt20, ↓exIx20, ↓exAt21, ↓exIx21, ↓exAt30, ↓exIx30, ↓exAt31, ↓exIx31, ↓exAt32, ↓exIx32, ↓exAt40, ↓exIx40, ↓exAt41, ↓exIx41, ↓exAt42, ↓exIx42, ↓exAt43, ↓exIx43, ↓exAt50, ↓exIx50, ↓exAt51, ↓exIx51, ↓exAt52, ↓exIx52, ↓exAt53, ↓exIx53, ↓exAt54, ↓exIx54, ↓exAt60, ↓exIx60, ↓exAt61, ↓exIx61, ↓exAt62, ↓exIx62, ↓exAt63, ↓exIx63, ↓exAt64, ↓exIx64, ↓exAt65, ↓exIx65, up_up, false_or, or_false, ↓exAtM, ↓dFlag_bl, ↓exBl, ↓exInt, ↓exRef, ↓dVar0, ↓dAug0, ↓dSet0, ↓dTgN0, ↓dTgW0, ↓dVar1, ↓dAug1, ↓dSet1, ↓dTgN1, ↓dTgW1, ↓dVar2, ↓dAug2, ↓dSet2, ↓dTgN2, ↓dTgW2, ↓dVar3, ↓dAug3, ↓dSet3, ↓dTgN3, ↓dTgW3, ↓dVar4, ↓dAug4, ↓dSet4, ↓dTgN4, ↓dTgW4, ↓dVar5, ↓dAug5, ↓dSet5, ↓dTgN5, ↓dTgW5, ↓dVar6, ↓dAug6, ↓dSet6, ↓dTgN6, ↓dTgW6, ↓dVar7, ↓dAug7, ↓dSet7, ↓dTgN7, ↓dTgW7, ↓dVar8, ↓dAug8, ↓dSet8, ↓dTgN8, ↓dTgW8, ↓dVar9, ↓dAug9, ↓dSet9, ↓dTgN9, ↓dTgW9, ↓dVar10, ↓dAug10, ↓dSet10, ↓dTgN10, ↓dTgW10, ↓dVar11, ↓dAug11, ↓dSet11, ↓dTgN11, ↓dTgW11, ↓dVar12, ↓dAug12, ↓dSet12, ↓dTgN12, ↓dTgW12, ↓dVar13, ↓dAug13, ↓dSet13, ↓dTgN13, ↓dTgW13, ↓dVar14, ↓dAug14, ↓dSet14, ↓dTgN14, ↓dTgW14, ↓dVar15, ↓dAug15, ↓dSet15, ↓dTgN15, ↓dTgW15, ↓dVar16, ↓dAug16, ↓dSet16, ↓dTgN16, ↓dTgW16, ↓dVar17, ↓dAug17, ↓dSet17, ↓dTgN17, ↓dTgW17, ↓dVar18, ↓dAug18, ↓dSet18, ↓dTgN18, ↓dTgW18, ↓dVar19, ↓dAug19, ↓dSet19, ↓dTgN19, ↓dTgW19, ↓dTg_t2, ↓dTg_t3, ↓exGetM, ↓exSumU, nD, plD, rwD, ↓dAdd_tup, ↓dAdd_ref, dIx_tup, dIx_str, dIx_ref, dIx_kl, dListOf_tup, dListOf_kl, dListOf_ref, dLen_tup, dLen_str, dLen_kl, dLen_ref, dTupOf_tup, dTupOf_ref, dSeqI_x, sqX_tup, sqX_ref, sqX_str, dEnumI_x, enX_tup, enX_ref, dRevA, dRevD, dSIndex, dLtS, dUpper, dListS, dDisp1, dRevT, dInS, dSortA, dIsi2, isT2, Bool.or_true, Bool.true_or, Bool.or_false, Bool.or_self, dCallX, dRaise, dTryO, dTryA, dRaise1, dExF, dCls, dIsX, ↓exOne, WD0, ↓X0_, ↓X1_, ↓X2_, ↓X3_, LS_up]
    have s1 : Sub (up M q1 (.lst (T.map fun _ => D.bl true))) M := Sub.new hq1 (by intro _ z; cases z)
    generalize up M q1 (.lst (T.map fun _ => D.bl true)) = M1 at *
    refine ⟨T.map fun _ => true, by rw [List.map_map]; rfl, fun e => ?_, fun _ => ?_⟩
    · rw [show (T.map fun _ => true).all id = true by simp] at e
      cases e
    refine dDc_g fun F2 T2 U2 V2 h2 t2 u2 v2 => ?_; simp only [dDc, dC, dOp, dTest, dChain, dAnd, dOr, dNot, dAndV, dOrV, dNotV, dIf, dNil, dCons, dTup, dLst, dCB, d1, dNoPart, dPart, dSl, dCut, dNeg, dSorted, dSum, dAll, dAny, dInt, dAbs, dMax, dMin, dIsi, isT, dNext, dSeq, dBrk, dCont, dNever, dExpr, dRet, dRetN, dIfS, dAsg, dPutI, dI0, dI, dIsN, dNotN, dRng1, dRng2, dRngDn, dZipI, dYes, dCall, dLM, dAppend, dExtend, dReverse, dInsert, dAugI, dRg1, dRg2, dTupRg, dLstRg, dNewK, dNewT, ↓S0_, ↓S1_, ↓S2_, ↓S3_, ↓S4_, ↓S5_, ↓S6_, List.map_cons, List.map_nil, List.length_cons, List.length_nil, List.replicate, List.cons_append, List.nil_append, Nat.reduceAdd, Nat.reduceSub, Nat.zero_add, List.getElem?_cons_zero, List.getElem?_cons_succ, Option.some.injEq, exists_eq_left, exists_eq_left', List.set_cons_zero, List.set_cons_succ, wipeD, D.int.injEq, D.bl.injEq, D.str.injEq, D.ref.injEq, D.tup.injEq, D.ty.injEq, true_and, and_true, forall_const, forall_eq', forall_eq, mt_int, mt_bool, mt_str, mt_tuple, mt_list, mt_dict, st_int_int, st_int_bool, st_int_str, st_int_tuple, st_int_list, st_int_dict, st_bool_int, st_bool_bool, st_bool_str, st_bool_tuple, st_bool_list, st_bool_dict, st_str_int, st_str_bool, st_str_str, st_str_tuple, st_str_list, st_str_dict, st_tuple_int, st_tuple_bool, st_tuple_str, st_tuple_tuple, st_tuple_list, st_tuple_dict, st_list_int, st_list_bool, st_list_str, st_list_tuple, st_list_list, st_list_dict, st_dict_int, st_dict_bool, st_dict_str, st_dict_tuple, st_dict_list, st_dict_dict, eq_self, Bool.true_eq_false, Bool.false_eq_true, false_implies, true_implies, implies_true, decide_eq_true_eq, decide_eq_false_iff_not, Bool.not_true, Bool.not_false, Bool.not_eq_true, Bool.not_eq_false, Bool.not_eq_true', Bool.not_eq_false', not_true_eq_false, not_false_eq_true, false_and, and_false, or_false, false_or, reduceCtorEq, ↓exLSu, ↓exDKu, ↓exDKd, ↓exLSd, ↓exLu, ↓dIxRu, ↓dPutu, ↓dGetAu, ↓dEq_int, ↓dNe_int, ↓dEq_bl, ↓dNe_bl, ↓dEq_str, ↓dNe_str, ↓dAdd_int, ↓exAt10, ↓exIx10, ↓exAt20, ↓exIx20, ↓exAt21, ↓exIx21, ↓exAt30, ↓exIx30, ↓exAt31, ↓exIx31, ↓exAt32, ↓exIx32, ↓exAt40, ↓exIx40, ↓exAt41, ↓exIx41, ↓exAt42, ↓exIx42, ↓exAt43, ↓exIx43, ↓exAt50, ↓exIx50, ↓exAt51, ↓exIx51, ↓exAt52, ↓exIx52, ↓exAt53, ↓exIx53, ↓exAt54, ↓exIx54, ↓exAt60, ↓exIx60, ↓exAt61, ↓exIx61, ↓exAt62, ↓exIx62, ↓exAt63, ↓exIx63, ↓exAt64, ↓exIx64, ↓exAt65, ↓exIx65, up_up, false_or, or_false, ↓exAtM, ↓dFlag_bl, ↓exBl, ↓exInt, ↓exRef, ↓dVar0, ↓dAug0, ↓dSet0, ↓dTgN0, ↓dTgW0, ↓dVar1, ↓dAug1, ↓dSet1, ↓dTgN1, ↓dTgW1, ↓dVar2, ↓dAug2, ↓dSet2, ↓dTgN2, ↓dTgW2, ↓dVar3, ↓dAug3, ↓dSet3, ↓dTgN3, ↓dTgW3, ↓dVar4, ↓dAug4, ↓dSet4, ↓dTgN4, ↓dTgW4, ↓dVar5, ↓dAug5, ↓dSet5, ↓dTgN5, ↓dTgW5, ↓dVar6, ↓dAug6, ↓dSet6, ↓dTgN6, ↓dTgW6, ↓dVar7, ↓dAug7, ↓dSet7, ↓dTgN7, ↓dTgW7, ↓dVar8, ↓dAug8, ↓dSet8, ↓dTgN8, ↓dTgW8, ↓dVar9, ↓dAug9, ↓dSet9, ↓dTgN9, ↓dTgW9, ↓dVar10, ↓dAug10, ↓dSet10, ↓dTgN10, ↓dTgW10, ↓dVar11, ↓dAug11, ↓dSet11, ↓dTgN11, ↓dTgW11, ↓dVar12, ↓dAug12, ↓dSet12, ↓dTgN12, ↓dTgW12, ↓dVar13, ↓dAug13, ↓dSet13, ↓dTgN13, ↓dTgW13, ↓dVar14, ↓dAug14, ↓dSet14, ↓dTgN14, ↓dTgW14, ↓dVar15, ↓dAug15, ↓dSet15, ↓dTgN15, ↓dTgW15, ↓dVar16, ↓dAug16, ↓dSet16, ↓dTgN16, ↓dTgW16, ↓dVar17, ↓dAug17, ↓dSet17, ↓dTgN17, ↓dTgW17, ↓dVar18, ↓dAug18, ↓dSet18, ↓dTgN18, ↓dTgW18, ↓dVar19, ↓dAug19, ↓dSet19, ↓dTgN19, ↓dTgW19, ↓dTg_t2, ↓dTg_t3, ↓exGetM, ↓exSumU, nD, plD, rwD, ↓dAdd_tup, ↓dAdd_ref, dIx_tup, dIx_str, dIx_ref, dIx_kl, dListOf_tup, dListOf_kl, dListOf_ref, dLen_tup, dLen_str, dLen_kl, dLen_ref, dTupOf_tup, dTupOf_ref, dSeqI_x, sqX_tup, sqX_ref, sqX_str, dEnumI_x, enX_tup, enX_ref, dRevA, dRevD, dSIndex, dLtS, dUpper, dListS, dDisp1, dRevT, dInS, dSortA, dIsi2, isT2, Bool.or_true, Bool.true_or, Bool.or_false, Bool.or_self, dCallX, dRaise, dTryO, dTryA, dRaise1, dExF, dCls, dIsX, ↓exOne, WD0, ↓X0_, ↓X1_, ↓X2_, ↓X3_]
    refine sqX_of hx s1 fun g hg => ⟨by rw [List.length_map]; exact Nat.le_trans hl (by decide), dcM wD (fun t => (.inr (wS t) : Key)) (fun _ => .bl true) T rfl (fun l t r pre acc P2 e hP2 => ⟨hg _ s1, ?_⟩) ⟨hg _ s1, fun kd hkd => ?_⟩⟩
    · subst t2; subst u2; subst v2
      simp (config := {failIfUnchanged := false}) only [dC, dOp, dTest, dChain, dAnd, dOr, dNot, dAndV, dOrV, dNotV, dIf, dNil, dCons, dTup, dLst, dCB, d1, dNoPart, dPart, dSl, dCut, dNeg, dSorted, dSum, dAll, dAny, dInt, dAbs, dMax, dMin, dIsi, isT, dNext, dSeq, dBrk, dCont, dNever, dExpr, dRet, dRetN, dIfS, dAsg, dPutI, dI0, dI, dIsN, dNotN, dRng1, dRng2, dRngDn, dZipI, dYes, dCall, dLM, dAppend, dExtend, dReverse, dInsert, dAugI, dRg1, dRg2, dTupRg, dLstRg, dNewK, dNewT, ↓S0_, ↓S1_, ↓S2_, ↓S3_, ↓S4_, ↓S5_, ↓S6_, List.map_cons, List.map_nil, List.length_cons, List.length_nil, List.replicate, List.cons_append, List.nil_append, Nat.reduceAdd, Nat.reduceSub, Nat.zero_add, List.getElem?_cons_zero, List.getElem?_cons_succ, Option.some.injEq, exists_eq_left, exists_eq_left', List.set_cons_zero, List.set_cons_succ, wipeD, D.int.injEq, D.bl.injEq, D.str.injEq, D.ref.injEq, D.tup.injEq, D.ty.injEq, true_and, and_true, forall_const, forall_eq', forall_eq, mt_int, mt_bool, mt_str, mt_tuple, mt_list, mt_dict, st_int_int, st_int_bool, st_int_str, st_int_tuple, st_int_list, st_int_dict, st_bool_int, st_bool_bool, st_bool_str, st_bool_tuple, st_bool_list, st_bool_dict, st_str_int, st_str_bool, st_str_str, st_str_tuple, st_str_list, st_str_dict, st_tuple_int, st_tuple_bool, st_tuple_str, st_tuple_tuple, st_tuple_list, st_tuple_dict, st_list_int, st_list_bool, st_list_str, st_list_tuple, st_list_list, st_list_dict, st_dict_int, st_dict_bool, st_dict_str, st_dict_tuple, st_dict_list, st_dict_dict, eq_self, Bool.true_eq_false, Bool.false_eq_true, false_implies, true_implies, implies_true, decide_eq_true_eq, decide_eq_false_iff_not, Bool.not_true, Bool.not_false, Bool.not_eq_true, Bool.not_eq_false, Bool.not_eq_true', Bool.not_eq_false', not_true_eq_false, not_false_eq_true, false_and, and_false, or_false, false_or, reduceCtorEq, ↓exLSu, ↓exDKu, ↓exDKd, ↓exLSd, ↓exLu, ↓dIxRu, ↓dPutu, ↓dGetAu, ↓dEq_int, ↓dNe_int, ↓dEq_bl, ↓dNe_bl, ↓dEq_str, ↓dNe_str, ↓dAdd_int, ↓exAt10, ↓exIx10, ↓exAt20, ↓exIx20, ↓exAt21, ↓exIx21, ↓exAt30, ↓exIx30, ↓exAt31, ↓exIx31, ↓exAt32, ↓exIx32, ↓exAt40, ↓exIx40, ↓exAt41, ↓exIx41, ↓exAt42, ↓exIx42, ↓exAt43, ↓exIx43, ↓exAt50, ↓exIx50, ↓exAt51, ↓exIx51, ↓exAt52, ↓exIx52, ↓exAt53, ↓exIx53, ↓exAt54, ↓exIx54, ↓exAt60, ↓exIx60, ↓exAt61, ↓exIx61, ↓exAt62, ↓exIx62, ↓exAt63, ↓exIx63, ↓exAt64, ↓exIx64, ↓exAt65, ↓exIx65, up_up, false_or, or_false, ↓exAtM, ↓dFlag_bl, ↓exBl, ↓exInt, ↓exRef, ↓dVar0, ↓dAug0, ↓dSet0, ↓dTgN0, ↓dTgW0, ↓dVar1, ↓dAug1, ↓dSet1, ↓dTgN1, ↓dTgW1, ↓dVar2, ↓dAug2, ↓dSet2, ↓dTgN2, ↓dTgW2, ↓dVar3, ↓dAug3, ↓dSet3, ↓dTgN3, ↓dTgW3, ↓dVar4, ↓dAug4, ↓dSet4, ↓dTgN4, ↓dTgW4, ↓dVar5, ↓dAug5, ↓dSet5, ↓dTgN5, ↓dTgW5, ↓dVar6, ↓dAug6, ↓dSet6, ↓dTgN6, ↓dTgW6, ↓dVar7, ↓dAug7, ↓dSet7, ↓dTgN7, ↓dTgW7, ↓dVar8, ↓dAug8, ↓dSet8, ↓dTgN8, ↓dTgW8, ↓dVar9, ↓dAug9, ↓dSet9, ↓dTgN9, ↓dTgW9, ↓dVar10, ↓dAug10, ↓dSet10, ↓dTgN10, ↓dTgW10, ↓dVar11, ↓dAug11, ↓dSet11, ↓dTgN11, ↓dTgW11, ↓dVar12, ↓dAug12, ↓dSet12, ↓dTgN12, ↓dTgW12, ↓dVar13, ↓dAug13, ↓dSet13, ↓dTgN13, ↓dTgW13, ↓dVar14, ↓dAug14, ↓dSet14, ↓dTgN14, ↓dTgW14, ↓dVar15, ↓dAug15, ↓dSet15, ↓dTgN15, ↓dTgW15, ↓dVar16, ↓dAug16, ↓dSet16, ↓dTgN16, ↓dTgW16, ↓dVar17, ↓dAug17, ↓dSet17, ↓dTgN17, ↓dTgW17, ↓dVar18, ↓dAug18, ↓dSet18, ↓dTgN18, ↓dTgW18, ↓dVar19, ↓dAug19, ↓dSet19, ↓dTgN19, ↓dTgW19, ↓dTg_t2, ↓dTg_t3, ↓exGetM, ↓exSumU, nD, plD, rwD, ↓dAdd_tup, ↓dAdd_ref, dIx_tup, dIx_str, dIx_ref, dIx_kl, dListOf_tup, dListOf_kl, dListOf_ref, dLen_tup, dLen_str, dLen_kl, dLen_ref, dTupOf_tup, dTupOf_ref, dSeqI_x, sqX_tup, sqX_ref, sqX_str, dEnumI_x, enX_tup, enX_ref, dRevA, dRevD, dSIndex, dLtS, dUpper, dListS, dDisp1, dRevT, dInS, dSortA, dIsi2, isT2, Bool.or_true, Bool.true_or, Bool.or_false, Bool.or_self, dCallX, dRaise, dTryO, dTryA, dRaise1, dExF, dCls, dIsX, ↓exOne, WD0, ↓X0_, ↓X1_, ↓X2_, ↓X3_]
      exact ⟨.inr (wS t), rfl, sb0 hP2⟩
    rw [h2]; clear h2 t2 u2 v2
    rw [dkW_fold hF26]
    have s2 : Sub (up M1 kd (.dK (dkW (addF (fun _ => true) T)))) M := (Sub.new hkd (by intro _ z; cases z)).trans s1
    have hk2 : up M1 kd (.dK (dkW (addF (fun _ => true) T))) kd = some (.dK (dkW (addF (fun _ => true) T))) := up_same
    generalize up M1 kd (.dK (dkW (addF (fun _ => true) T))) = M2 at *
    simp (config := {failIfUnchanged := false}) only [dC, dOp, dTest, dChain, dAnd, dOr, dNot, dAndV, dOrV, dNotV, dIf, dNil, dCons, dTup, dLst, dCB, d1, dNoPart, dPart, dSl, dCut, dNeg, dSorted, dSum, dAll, dAny, dInt, dAbs, dMax, dMin, dIsi, isT, dNext, dSeq, dBrk, dCont, dNever, dExpr, dRet, dRetN, dIfS, dAsg, dPutI, dI0, dI, dIsN, dNotN, dRng1, dRng2, dRngDn, dZipI, dYes, dCall, dLM, dAppend, dExtend, dReverse, dInsert, dAugI, dRg1, dRg2, dTupRg, dLstRg, dNewK, dNewT, ↓S0_, ↓S1_, ↓S2_, ↓S3_, ↓S4_, ↓S5_, ↓S6_, List.map_cons, List.map_nil, List.length_cons, List.length_nil, List.replicate, List.cons_append, List.nil_append, Nat.reduceAdd, Nat.reduceSub, Nat.zero_add, List.getElem?_cons_zero, List.getElem?_cons_succ, Option.some.injEq, exists_eq_left, exists_eq_left', List.set_cons_zero, List.set_cons_succ, wipeD, D.int.injEq, D.bl.injEq, D.str.injEq, D.ref.injEq, D.tup.injEq, D.ty.injEq, true_and, and_true, forall_const, forall_eq', forall_eq, mt_int, mt_bool, mt_str, mt_tuple, mt_list, mt_dict, st_int_int, st_int_bool, st_int_str, st_int_tuple, st_int_list, st_int_dict, st_bool_int, st_bool_bool, st_bool_str, st_bool_tuple, st_bool_list, st_bool_dict, st_str_int, st_str_bool, st_str_str, st_str_tuple, st_str_list, st_str_dict, st_tuple_int, st_tuple_bool, st_tuple_str, st_tuple_tuple, st_tuple_list, st_tuple_dict, st_list_int, st_list_bool, st_list_str, st_list_tuple, st_list_list, st_list_dict, st_dict_int, st_dict_bool, st_dict_str, st_dict_tuple, st_dict_list, st_dict_dict, eq_self, Bool.true_eq_false, Bool.false_eq_true, false_implies, true_implies, implies_true, decide_eq_true_eq, decide_eq_false_iff_not, Bool.not_true, Bool.not_false, Bool.not_eq_true, Bool.not_eq_false, Bool.not_eq_true', Bool.not_eq_false', not_true_eq_false, not_false_eq_true, false_and, and_false, or_false, false_or, reduceCtorEq, ↓exLSu, ↓exDKu, ↓exDKd, ↓exLSd, ↓exLu, ↓dIxRu, ↓dPutu, ↓dGetAu, ↓dEq_int, ↓dNe_int, ↓dEq_bl, ↓dNe_bl, ↓dEq_str, ↓dNe_str, ↓dAdd_int, ↓exAt10, ↓exIx10, ↓exAt20, ↓exIx20, ↓exAt21, ↓exIx21, ↓exAt30, ↓exIx30, ↓exAt31, ↓exIx31, ↓exAt32, ↓exIx32, ↓exAt40, ↓exIx40, ↓exAt41, ↓exIx41, ↓exAt42, ↓exIx42, ↓exAt43, ↓exIx43, ↓exAt50, ↓exIx50, ↓exAt51, ↓exIx51, ↓exAt52, ↓exIx52, ↓exAt53, ↓exIx53, ↓exAt54, ↓exIx54, ↓exAt60, ↓exIx60, ↓exAt61, ↓exIx61, ↓exAt62, ↓exIx62, ↓exAt63, ↓exIx63, ↓exAt64, ↓exIx64, ↓exAt65, ↓exIx65, up_up, false_or, or_false, ↓exAtM, ↓dFlag_bl, ↓exBl, ↓exInt, ↓exRef, ↓dVar0, ↓dAug0, ↓dSet0, ↓dTgN0, ↓dTgW0, ↓dVar1, ↓dAug1, ↓dSet1, ↓dTgN1, ↓dTgW1, ↓dVar2, ↓dAug2, ↓dSet2, ↓dTgN2, ↓dTgW2, ↓dVar3, ↓dAug3, ↓dSet3, ↓dTgN3, ↓dTgW3, ↓dVar4, ↓dAug4, ↓dSet4, ↓dTgN4, ↓dTgW4, ↓dVar5, ↓dAug5, ↓dSet5, ↓dTgN5, ↓dTgW5, ↓dVar6, ↓dAug6, ↓dSet6, ↓dTgN6, ↓dTgW6, ↓dVar7, ↓dAug7, ↓dSet7, ↓dTgN7, ↓dTgW7, ↓dVar8, ↓dAug8, ↓dSet8, ↓dTgN8, ↓dTgW8, ↓dVar9, ↓dAug9, ↓dSet9, ↓dTgN9, ↓dTgW9, ↓dVar10, ↓dAug10, ↓dSet10, ↓dTgN10, ↓dTgW10, ↓dVar11, ↓dAug11, ↓dSet11, ↓dTgN11, ↓dTgW11, ↓dVar12, ↓dAug12, ↓dSet12, ↓dTgN12, ↓dTgW12, ↓dVar13, ↓dAug13, ↓dSet13, ↓dTgN13, ↓dTgW13, ↓dVar14, ↓dAug14, ↓dSet14, ↓dTgN14, ↓dTgW14, ↓dVar15, ↓dAug15, ↓dSet15, ↓dTgN15, ↓dTgW15, ↓dVar16, ↓dAug16, ↓dSet16, ↓dTgN16, ↓dTgW16, ↓dVar17, ↓dAug17, ↓dSet17, ↓dTgN17, ↓dTgW17, ↓dVar18, ↓dAug18, ↓dSet18, ↓dTgN18, ↓dTgW18, ↓dVar19, ↓dAug19, ↓dSet19, ↓dTgN19, ↓dTgW19, ↓dTg_t2, ↓dTg_t3, ↓exGetM, ↓exSumU, nD, plD, rwD, ↓dAdd_tup, ↓dAdd_ref, dIx_tup, dIx_str, dIx_ref, dIx_kl, dListOf_tup, dListOf_kl, dListOf_ref, dLen_tup, dLen_str, dLen_kl, dLen_ref, dTupOf_tup, dTupOf_ref, dSeqI_x, sqX_tup, sqX_ref, sqX_str, dEnumI_x, enX_tup, enX_ref, dRevA, dRevD, dSIndex, dLtS, dUpper, dListS, dDisp1, dRevT, dInS, dSortA, dIsi2, isT2, Bool.or_true, Bool.true_or, Bool.or_false, Bool.or_self, dCallX, dRaise, dTryO, dTryA, dRaise1, dExF, dCls, dIsX, ↓exOne, WD0, ↓X0_, ↓X1_, ↓X2_, ↓X3_]
    intro fd hfd
    have hfd0 : M fd = none := s2.free hfd
    have nkf : kd ≠ fd := by rintro rfl; rw [hk2] at hfd; cases hfd
    generalize hqq : (fun c : List Nat => decide (c ∉ T)) = qq
    have sU : ∀ K, Sub (up M2 fd (.dK K)) M := fun K => (Sub.new hfd (by intro _ z; cases z)).trans s2
    have aF : ∀ l, (∀ t ∈ l, t ∈ T) → ∀ (B : List (List Nat)), (∀ c ∈ B, ∀ i ∈ c, i < 26) → ∀ c ∈ addF qq (prA l ++ B), ∀ i ∈ c, i < 26 := fun l hlT B hB c hc => by
      have := (((addF_mem qq (prA l ++ B)).2.1 c).mp hc).1
      rcases List.mem_append.mp this with z | z
      · exact ((prA_mem.mp z).fal fun t ht => hF t (hlT t ht)).lt
      · exact hB c z
    refine dFor_g fun F3 T3 h3 t3 => ?_; simp only [dFor, dC, dOp, dTest, dChain, dAnd, dOr, dNot, dAndV, dOrV, dNotV, dIf, dNil, dCons, dTup, dLst, dCB, d1, dNoPart, dPart, dSl, dCut, dNeg, dSorted, dSum, dAll, dAny, dInt, dAbs, dMax, dMin, dIsi, isT, dNext, dSeq, dBrk, dCont, dNever, dExpr, dRet, dRetN, dIfS, dAsg, dPutI, dI0, dI, dIsN, dNotN, dRng1, dRng2, dRngDn, dZipI, dYes, dCall, dLM, dAppend, dExtend, dReverse, dInsert, dAugI, dRg1, dRg2, dTupRg, dLstRg, dNewK, dNewT, ↓S0_, ↓S1_, ↓S2_, ↓S3_, ↓S4_, ↓S5_, ↓S6_, List.map_cons, List.map_nil, List.length_cons, List.length_nil, List.replicate, List.cons_append, List.nil_append, Nat.reduceAdd, Nat.reduceSub, Nat.zero_add, List.getElem?_cons_zero, List.getElem?_cons_succ, Option.some.injEq, exists_eq_left, exists_eq_left', List.set_cons_zero, List.set_cons_succ, wipeD, D.int.injEq, D.bl.injEq, D.str.injEq, D.ref.injEq, D.tup.injEq, D.ty.injEq, true_and, and_true, forall_const, forall_eq', forall_eq, mt_int, mt_bool, mt_str, mt_tuple, mt_list, mt_dict, st_int_int, st_int_bool, st_int_str, st_int_tuple, st_int_list, st_int_dict, st_bool_int, st_bool_bool, st_bool_str, st_bool_tuple, st_bool_list, st_bool_dict, st_str_int, st_str_bool, st_str_str, st_str_tuple, st_str_list, st_str_dict, st_tuple_int, st_tuple_bool, st_tuple_str, st_tuple_tuple, st_tuple_list, st_tuple_dict, st_list_int, st_list_bool, st_list_str, st_list_tuple, st_list_list, st_list_dict, st_dict_int, st_dict_bool, st_dict_str, st_dict_tuple, st_dict_list, st_dict_dict, eq_self, Bool.true_eq_false, Bool.false_eq_true, false_implies, true_implies, implies_true, decide_eq_true_eq, decide_eq_false_iff_not, Bool.not_true, Bool.not_false, Bool.not_eq_true, Bool.not_eq_false, Bool.not_eq_true', Bool.not_eq_false', not_true_eq_false, not_false_eq_true, false_and, and_false, or_false, false_or, reduceCtorEq, ↓exLSu, ↓exDKu, ↓exDKd, ↓exLSd, ↓exLu, ↓dIxRu, ↓dPutu, ↓dGetAu, ↓dEq_int, ↓dNe_int, ↓dEq_bl, ↓dNe_bl, ↓dEq_str, ↓dNe_str, ↓dAdd_int, ↓exAt10, ↓exIx10, ↓exAt20, ↓exIx20, ↓exAt21, ↓exIx21, ↓exAt30, ↓exIx30, ↓exAt31, ↓exIx31, ↓exAt32, ↓exIx32, ↓exAt40, ↓exIx40, ↓exAt41, ↓exIx41, ↓exAt42, ↓exIx42, ↓exAt43, ↓exIx43, ↓exAt50, ↓exIx50, ↓exAt51, ↓exIx51, ↓exAt52, ↓exIx52, ↓exAt53, ↓exIx53, ↓exAt54, ↓exIx54, ↓exAt60, ↓exIx60, ↓exAt61, ↓exIx61, ↓exAt62, ↓exIx62, ↓exAt63, ↓exIx63, ↓exAt64, ↓exIx64, ↓exAt65, ↓exIx65, up_up, false_or, or_false, ↓exAtM, ↓dFlag_bl, ↓exBl, ↓exInt, ↓exRef, ↓dVar0, ↓dAug0, ↓dSet0, ↓dTgN0, ↓dTgW0, ↓dVar1, ↓dAug1, ↓dSet1, ↓dTgN1, ↓dTgW1, ↓dVar2, ↓dAug2, ↓dSet2, ↓dTgN2, ↓dTgW2, ↓dVar3, ↓dAug3, ↓dSet3, ↓dTgN3, ↓dTgW3, ↓dVar4, ↓dAug4, ↓dSet4, ↓dTgN4, ↓dTgW4, ↓dVar5, ↓dAug5, ↓dSet5, ↓dTgN5, ↓dTgW5, ↓dVar6, ↓dAug6, ↓dSet6, ↓dTgN6, ↓dTgW6, ↓dVar7, ↓dAug7, ↓dSet7, ↓dTgN7, ↓dTgW7, ↓dVar8, ↓dAug8, ↓dSet8, ↓dTgN8, ↓dTgW8, ↓dVar9, ↓dAug9, ↓dSet9, ↓dTgN9, ↓dTgW9, ↓dVar10, ↓dAug10, ↓dSet10, ↓dTgN10, ↓dTgW10, ↓dVar11, ↓dAug11, ↓dSet11, ↓dTgN11, ↓dTgW11, ↓dVar12, ↓dAug12, ↓dSet12, ↓dTgN12, ↓dTgW12, ↓dVar13, ↓dAug13, ↓dSet13, ↓dTgN13, ↓dTgW13, ↓dVar14, ↓dAug14, ↓dSet14, ↓dTgN14, ↓dTgW14, ↓dVar15, ↓dAug15, ↓dSet15, ↓dTgN15, ↓dTgW15, ↓dVar16, ↓dAug16, ↓dSet16, ↓dTgN16, ↓dTgW16, ↓dVar17, ↓dAug17, ↓dSet17, ↓dTgN17, ↓dTgW17, ↓dVar18, ↓dAug18, ↓dSet18, ↓dTgN18, ↓dTgW18, ↓dVar19, ↓dAug19, ↓dSet19, ↓dTgN19, ↓dTgW19, ↓dTg_t2, ↓dTg_t3, ↓exGetM, ↓exSumU, nD, plD, rwD, ↓dAdd_tup, ↓dAdd_ref, dIx_tup, dIx_str, dIx_ref, dIx_kl, dListOf_tup, dListOf_kl, dListOf_ref, dLen_tup, dLen_str, dLen_kl, dLen_ref, dTupOf_tup, dTupOf_ref, dSeqI_x, sqX_tup, sqX_ref, sqX_str, dEnumI_x, enX_tup, enX_ref, dRevA, dRevD, dSIndex, dLtS, dUpper, dListS, dDisp1, dRevT, dInS, dSortA, dIsi2, isT2, Bool.or_true, Bool.true_or, Bool.or_false, Bool.or_self, dCallX, dRaise, dTryO, dTryA, dRaise1, dExF, dCls, dIsX, ↓exOne, WD0, ↓X0_, ↓X1_, ↓X2_, ↓X3_]
    refine sqX_of hx (sU _) fun g hg => forL wD T (fun l δ M' => M' = up M2 fd (.dK (dkW (addF qq (prA l)))) ∧ ∃ a b c, δ = [some x, some (.ref kd), some (.ref fd), a, b, c]) rfl ⟨rfl, _, _, _, rfl⟩ ?_ ?_
    · rintro l t r δ' M' pre P' e ⟨hM', a, b, d, rfl⟩ hP
      have ht : t ∈ T := by rw [e]; simp
      have hlT : ∀ t ∈ l, t ∈ T := fun t ht => by rw [e]; simp [ht]
      have hft := hF t ht
      have htl := hft.len
      have ht0 := hft.pos
      subst hM'
      refine ⟨hg _ (sU _), ?_⟩
      subst t3
      simp (config := {failIfUnchanged := false}) only [dC, dOp, dTest, dChain, dAnd, dOr, dNot, dAndV, dOrV, dNotV, dIf, dNil, dCons, dTup, dLst, dCB, d1, dNoPart, dPart, dSl, dCut, dNeg, dSorted, dSum, dAll, dAny, dInt, dAbs, dMax, dMin, dIsi, isT, dNext, dSeq, dBrk, dCont, dNever, dExpr, dRet, dRetN, dIfS, dAsg, dPutI, dI0, dI, dIsN, dNotN, dRng1, dRng2, dRngDn, dZipI, dYes, dCall, dLM, dAppend, dExtend, dReverse, dInsert, dAugI, dRg1, dRg2, dTupRg, dLstRg, dNewK, dNewT, ↓S0_, ↓S1_, ↓S2_, ↓S3_, ↓S4_, ↓S5_, ↓S6_, List.map_cons, List.map_nil, List.length_cons, List.length_nil, List.replicate, List.cons_append, List.nil_append, Nat.reduceAdd, Nat.reduceSub, Nat.zero_add, List.getElem?_cons_zero, List.getElem?_cons_succ, Option.some.injEq, exists_eq_left, exists_eq_left', List.set_cons_zero, List.set_cons_succ, wipeD, D.int.injEq, D.bl.injEq, D.str.injEq, D.ref.injEq, D.tup.injEq, D.ty.injEq, true_and, and_true, forall_const, forall_eq', forall_eq, mt_int, mt_bool, mt_str, mt_tuple, mt_list, mt_dict, st_int_int, st_int_bool, st_int_str, st_int_tuple, st_int_list, st_int_dict, st_bool_int, st_bool_bool, st_bool_str, st_bool_tuple, st_bool_list, st_bool_dict, st_str_int, st_str_bool, st_str_str, st_str_tuple, st_str_list, st_str_dict, st_tuple_int, st_tuple_bool, st_tuple_str, st_tuple_tuple, st_tuple_list, st_tuple_dict, st_list_int, st_list_bool, st_list_str, st_list_tuple, st_list_list, st_list_dict, st_dict_int, st_dict_bool, st_dict_str, st_dict_tuple, st_dict_list, st_dict_dict, eq_self, Bool.true_eq_false, Bool.false_eq_true, false_implies, true_implies, implies_true, decide_eq_true_eq, decide_eq_false_iff_not, Bool.not_true, Bool.not_false, Bool.not_eq_true, Bool.not_eq_false, Bool.not_eq_true', Bool.not_eq_false', not_true_eq_false, not_false_eq_true, false_and, and_false, or_false, false_or, reduceCtorEq, ↓exLSu, ↓exDKu, ↓exDKd, ↓exLSd, ↓exLu, ↓dIxRu, ↓dPutu, ↓dGetAu, ↓dEq_int, ↓dNe_int, ↓dEq_bl, ↓dNe_bl, ↓dEq_str, ↓dNe_str, ↓dAdd_int, ↓exAt10, ↓exIx10, ↓exAt20, ↓exIx20, ↓exAt21, ↓exIx21, ↓exAt30, ↓exIx30, ↓exAt31, ↓exIx31, ↓exAt32, ↓exIx32, ↓exAt40, ↓exIx40, ↓exAt41, ↓exIx41, ↓exAt42, ↓exIx42, ↓exAt43, ↓exIx43, ↓exAt50, ↓exIx50, ↓exAt51, ↓exIx51, ↓exAt52, ↓exIx52, ↓exAt53, ↓exIx53, ↓exAt54, ↓exIx54, ↓exAt60, ↓exIx60, ↓exAt61, ↓exIx61, ↓exAt62, ↓exIx62, ↓exAt63, ↓exIx63, ↓exAt64, ↓exIx64, ↓exAt65, ↓exIx65, up_up, false_or, or_false, ↓exAtM, ↓dFlag_bl, ↓exBl, ↓exInt, ↓exRef, ↓dVar0, ↓dAug0, ↓dSet0, ↓dTgN0, ↓dTgW0, ↓dVar1, ↓dAug1, ↓dSet1, ↓dTgN1, ↓dTgW1, ↓dVar2, ↓dAug2, ↓dSet2, ↓dTgN2, ↓dTgW2, ↓dVar3, ↓dAug3, ↓dSet3, ↓dTgN3, ↓dTgW3, ↓dVar4, ↓dAug4, ↓dSet4, ↓dTgN4, ↓dTgW4, ↓dVar5, ↓dAug5, ↓dSet5, ↓dTgN5, ↓dTgW5, ↓dVar6, ↓dAug6, ↓dSet6, ↓dTgN6, ↓dTgW6, ↓dVar7, ↓dAug7, ↓dSet7, ↓dTgN7, ↓dTgW7, ↓dVar8, ↓dAug8, ↓dSet8, ↓dTgN8, ↓dTgW8, ↓dVar9, ↓dAug9, ↓dSet9, ↓dTgN9, ↓dTgW9, ↓dVar10, ↓dAug10, ↓dSet10, ↓dTgN10, ↓dTgW10, ↓dVar11, ↓dAug11, ↓dSet11, ↓dTgN11, ↓dTgW11, ↓dVar12, ↓dAug12, ↓dSet12, ↓dTgN12, ↓dTgW12, ↓dVar13, ↓dAug13, ↓dSet13, ↓dTgN13, ↓dTgW13, ↓dVar14, ↓dAug14, ↓dSet14, ↓dTgN14, ↓dTgW14, ↓dVar15, ↓dAug15, ↓dSet15, ↓dTgN15, ↓dTgW15, ↓dVar16, ↓dAug16, ↓dSet16, ↓dTgN16, ↓dTgW16, ↓dVar17, ↓dAug17, ↓dSet17, ↓dTgN17, ↓dTgW17, ↓dVar18, ↓dAug18, ↓dSet18, ↓dTgN18, ↓dTgW18, ↓dVar19, ↓dAug19, ↓dSet19, ↓dTgN19, ↓dTgW19, ↓dTg_t2, ↓dTg_t3, ↓exGetM, ↓exSumU, nD, plD, rwD, ↓dAdd_tup, ↓dAdd_ref, dIx_tup, dIx_str, dIx_ref, dIx_kl, dListOf_tup, dListOf_kl, dListOf_ref, dLen_tup, dLen_str, dLen_kl, dLen_ref, dTupOf_tup, dTupOf_ref, dSeqI_x, sqX_tup, sqX_ref, sqX_str, dEnumI_x, enX_tup, enX_ref, dRevA, dRevD, dSIndex, dLtS, dUpper, dListS, dDisp1, dRevT, dInS, dSortA, dIsi2, isT2, Bool.or_true, Bool.true_or, Bool.or_false, Bool.or_self, dCallX, dRaise, dTryO, dTryA, dRaise1, dExF, dCls, dIsX, ↓exOne, WD0, ↓X0_, ↓X1_, ↓X2_, ↓X3_, wD]
      refine dFor_g fun F4 T4 h4 t4 => ?_; simp only [dFor, dC, dOp, dTest, dChain, dAnd, dOr, dNot, dAndV, dOrV, dNotV, dIf, dNil, dCons, dTup, dLst, dCB, d1, dNoPart, dPart, dSl, dCut, dNeg, dSorted, dSum, dAll, dAny, dInt, dAbs, dMax, dMin, dIsi, isT, dNext, dSeq, dBrk, dCont, dNever, dExpr, dRet, dRetN, dIfS, dAsg, dPutI, dI0, dI, dIsN, dNotN, dRng1, dRng2, dRngDn, dZipI, dYes, dCall, dLM, dAppend, dExtend, dReverse, dInsert, dAugI, dRg1, dRg2, dTupRg, dLstRg, dNewK, dNewT, ↓S0_, ↓S1_, ↓S2_, ↓S3_, ↓S4_, ↓S5_, ↓S6_, List.map_cons, List.map_nil, List.length_cons, List.length_nil, List.replicate, List.cons_append, List.nil_append, Nat.reduceAdd, Nat.reduceSub, Nat.zero_add, List.getElem?_cons_zero, List.getElem?_cons_succ, Option.some.injEq, exists_eq_left, exists_eq_left', List.set_cons_zero, List.set_cons_succ, wipeD, D.int.injEq, D.bl.injEq, D.str.injEq, D.ref.injEq, D.tup.injEq, D.ty.injEq, true_and, and_true, forall_const, forall_eq', forall_eq, mt_int, mt_bool, mt_str, mt_tuple, mt_list, mt_dict, st_int_int, st_int_bool, st_int_str, st_int_tuple, st_int_list, st_int_dict, st_bool_int, st_bool_bool, st_bool_str, st_bool_tuple, st_bool_list, st_bool_dict, st_str_int, st_str_bool, st_str_str, st_str_tuple, st_str_list, st_str_dict, st_tuple_int, st_tuple_bool, st_tuple_str, st_tuple_tuple, st_tuple_list, st_tuple_dict, st_list_int, st_list_bool, st_list_str, st_list_tuple, st_list_list, st_list_dict, st_dict_int, st_dict_bool, st_dict_str, st_dict_tuple, st_dict_list, st_dict_dict, eq_self, Bool.true_eq_false, Bool.false_eq_true, false_implies, true_implies, implies_true, decide_eq_true_eq, decide_eq_false_iff_not, Bool.not_true, Bool.not_false, Bool.not_eq_true, Bool.not_eq_false, Bool.not_eq_true', Bool.not_eq_false', not_true_eq_false, not_false_eq_true, false_and, and_false, or_false, false_or, reduceCtorEq, ↓exLSu, ↓exDKu, ↓exDKd, ↓exLSd, ↓exLu, ↓dIxRu, ↓dPutu, ↓dGetAu, ↓dEq_int, ↓dNe_int, ↓dEq_bl, ↓dNe_bl, ↓dEq_str, ↓dNe_str, ↓dAdd_int, ↓exAt10, ↓exIx10, ↓exAt20, ↓exIx20, ↓exAt21, ↓exIx21, ↓exAt30, ↓exIx30, ↓exAt31, ↓exIx31, ↓exAt32, ↓exIx32, ↓exAt40, ↓exIx40, ↓exAt41, ↓exIx41, ↓exAt42, ↓exIx42, ↓exAt43, ↓exIx43, ↓exAt50, ↓exIx50, ↓exAt51, ↓exIx51, ↓exAt52, ↓exIx52, ↓exAt53, ↓exIx53, ↓exAt54, ↓exIx54, ↓exAt60, ↓exIx60, ↓exAt61, ↓exIx61, ↓exAt62, ↓exIx62, ↓exAt63, ↓exIx63, ↓exAt64, ↓exIx64, ↓exAt65, ↓exIx65, up_up, false_or, or_false, ↓exAtM, ↓dFlag_bl, ↓exBl, ↓exInt, ↓exRef, ↓dVar0, ↓dAug0, ↓dSet0, ↓dTgN0, ↓dTgW0, ↓dVar1, ↓dAug1, ↓dSet1, ↓dTgN1, ↓dTgW1, ↓dVar2, ↓dAug2, ↓dSet2, ↓dTgN2, ↓dTgW2, ↓dVar3, ↓dAug3, ↓dSet3, ↓dTgN3, ↓dTgW3, ↓dVar4, ↓dAug4, ↓dSet4, ↓dTgN4, ↓dTgW4, ↓dVar5, ↓dAug5, ↓dSet5, ↓dTgN5, ↓dTgW5, ↓dVar6, ↓dAug6, ↓dSet6, ↓dTgN6, ↓dTgW6, ↓dVar7, ↓dAug7, ↓dSet7, ↓dTgN7, ↓dTgW7, ↓dVar8, ↓dAug8, ↓dSet8, ↓dTgN8, ↓dTgW8, ↓dVar9, ↓dAug9, ↓dSet9, ↓dTgN9, ↓dTgW9, ↓dVar10, ↓dAug10, ↓dSet10, ↓dTgN10, ↓dTgW10, ↓dVar11, ↓dAug11, ↓dSet11, ↓dTgN11, ↓dTgW11, ↓dVar12, ↓dAug12, ↓dSet12, ↓dTgN12, ↓dTgW12, ↓dVar13, ↓dAug13, ↓dSet13, ↓dTgN13, ↓dTgW13, ↓dVar14, ↓dAug14, ↓dSet14, ↓dTgN14, ↓dTgW14, ↓dVar15, ↓dAug15, ↓dSet15, ↓dTgN15, ↓dTgW15, ↓dVar16, ↓dAug16, ↓dSet16, ↓dTgN16, ↓dTgW16, ↓dVar17, ↓dAug17, ↓dSet17, ↓dTgN17, ↓dTgW17, ↓dVar18, ↓dAug18, ↓dSet18, ↓dTgN18, ↓dTgW18, ↓dVar19, ↓dAug19, ↓dSet19, ↓dTgN19, ↓dTgW19, ↓dTg_t2, ↓dTg_t3, ↓exGetM, ↓exSumU, nD, plD, rwD, ↓dAdd_tup, ↓dAdd_ref, dIx_tup, dIx_str, dIx_ref, dIx_kl, dListOf_tup, dListOf_kl, dListOf_ref, dLen_tup, dLen_str, dLen_kl, dLen_ref, dTupOf_tup, dTupOf_ref, dSeqI_x, sqX_tup, sqX_ref, sqX_str, dEnumI_x, enX_tup, enX_ref, dRevA, dRevD, dSIndex, dLtS, dUpper, dListS, dDisp1, dRevT, dInS, dSortA, dIsi2, isT2, Bool.or_true, Bool.true_or, Bool.or_false, Bool.or_self, dCallX, dRaise, dTryO, dTryA, dRaise1, dExF, dCls, dIsX, ↓exOne, WD0, ↓X0_, ↓X1_, ↓X2_, ↓X3_]
      rw [wS_len31, rng31 _ ht0]
      have hP0 : prA l ++ (List.range 0).map (fun i => t.take (i + 1)) = prA l := by simp
      refine ⟨small_es (by omega), by omega, forL (fun i : Nat => nD (i + 1)) (List.range (t.length - 1)) (fun l2 δ M' => M' = up M2 fd (.dK (dkW (addF qq (prA l ++ l2.map fun i => t.take (i + 1))))) ∧ ∃ c, δ = [some x, some (.ref kd), some (.ref fd), some (.str (wS t)), c, d]) rfl ⟨by rw [List.map_nil, List.append_nil], _, rfl⟩ ?_ ?_⟩
      · rintro l2 j r2 δ2 M4 pre2 P2 e2 ⟨hM4, c', rfl⟩ hP2
        have hj : j < t.length - 1 := List.mem_range.mp (show j ∈ List.range (t.length - 1) by rw [e2]; simp)
        have hft2 := hft.take (k := j + 1) (by omega)
        have hB : ∀ c ∈ l2.map (fun i => t.take (i + 1)), ∀ i ∈ c, i < 26 := fun c hc => by
          obtain ⟨i, _, rfl⟩ := List.mem_map.mp hc
          exact (hft.take (by omega)).lt
        have hK26 := aF l hlT _ hB
        have hKl := (addF_mem qq (prA l ++ l2.map fun i => t.take (i + 1))).2.2
        subst hM4
        subst t4
        simp (config := {failIfUnchanged := false}) only [dC, dOp, dTest, dChain, dAnd, dOr, dNot, dAndV, dOrV, dNotV, dIf, dNil, dCons, dTup, dLst, dCB, d1, dNoPart, dPart, dSl, dCut, dNeg, dSorted, dSum, dAll, dAny, dInt, dAbs, dMax, dMin, dIsi, isT, dNext, dSeq, dBrk, dCont, dNever, dExpr, dRet, dRetN, dIfS, dAsg, dPutI, dI0, dI, dIsN, dNotN, dRng1, dRng2, dRngDn, dZipI, dYes, dCall, dLM, dAppend, dExtend, dReverse, dInsert, dAugI, dRg1, dRg2, dTupRg, dLstRg, dNewK, dNewT, ↓S0_, ↓S1_, ↓S2_, ↓S3_, ↓S4_, ↓S5_, ↓S6_, List.map_cons, List.map_nil, List.length_cons, List.length_nil, List.replicate, List.cons_append, List.nil_append, Nat.reduceAdd, Nat.reduceSub, Nat.zero_add, List.getElem?_cons_zero, List.getElem?_cons_succ, Option.some.injEq, exists_eq_left, exists_eq_left', List.set_cons_zero, List.set_cons_succ, wipeD, D.int.injEq, D.bl.injEq, D.str.injEq, D.ref.injEq, D.tup.injEq, D.ty.injEq, true_and, and_true, forall_const, forall_eq', forall_eq, mt_int, mt_bool, mt_str, mt_tuple, mt_list, mt_dict, st_int_int, st_int_bool, st_int_str, st_int_tuple, st_int_list, st_int_dict, st_bool_int, st_bool_bool, st_bool_str, st_bool_tuple, st_bool_list, st_bool_dict, st_str_int, st_str_bool, st_str_str, st_str_tuple, st_str_list, st_str_dict, st_tuple_int, st_tuple_bool, st_tuple_str, st_tuple_tuple, st_tuple_list, st_tuple_dict, st_list_int, st_list_bool, st_list_str, st_list_tuple, st_list_list, st_list_dict, st_dict_int, st_dict_bool, st_dict_str, st_dict_tuple, st_dict_list, st_dict_dict, eq_self, Bool.true_eq_false, Bool.false_eq_true, false_implies, true_implies, implies_true, decide_eq_true_eq, decide_eq_false_iff_not, Bool.not_true, Bool.not_false, Bool.not_eq_true, Bool.not_eq_false, Bool.not_eq_true', Bool.not_eq_false', not_true_eq_false, not_false_eq_true, false_and, and_false, or_false, false_or, reduceCtorEq, ↓exLSu, ↓exDKu, ↓exDKd, ↓exLSd, ↓exLu, ↓dIxRu, ↓dPutu, ↓dGetAu, ↓dEq_int, ↓dNe_int, ↓dEq_bl, ↓dNe_bl, ↓dEq_str, ↓dNe_str, ↓dAdd_int, ↓exAt10, ↓exIx10, ↓exAt20, ↓exIx20, ↓exAt21, ↓exIx21, ↓exAt30, ↓exIx30, ↓exAt31, ↓exIx31, ↓exAt32, ↓exIx32, ↓exAt40, ↓exIx40, ↓exAt41, ↓exIx41, ↓exAt42, ↓exIx42, ↓exAt43, ↓exIx43, ↓exAt50, ↓exIx50, ↓exAt51, ↓exIx51, ↓exAt52, ↓exIx52, ↓exAt53, ↓exIx53, ↓exAt54, ↓exIx54, ↓exAt60, ↓exIx60, ↓exAt61, ↓exIx61, ↓exAt62, ↓exIx62, ↓exAt63, ↓exIx63, ↓exAt64, ↓exIx64, ↓exAt65, ↓exIx65, up_up, false_or, or_false, ↓exAtM, ↓dFlag_bl, ↓exBl, ↓exInt, ↓exRef, ↓dVar0, ↓dAug0, ↓dSet0, ↓dTgN0, ↓dTgW0, ↓dVar1, ↓dAug1, ↓dSet1, ↓dTgN1, ↓dTgW1, ↓dVar2, ↓dAug2, ↓dSet2, ↓dTgN2, ↓dTgW2, ↓dVar3, ↓dAug3, ↓dSet3, ↓dTgN3, ↓dTgW3, ↓dVar4, ↓dAug4, ↓dSet4, ↓dTgN4, ↓dTgW4, ↓dVar5, ↓dAug5, ↓dSet5, ↓dTgN5, ↓dTgW5, ↓dVar6, ↓dAug6, ↓dSet6, ↓dTgN6, ↓dTgW6, ↓dVar7, ↓dAug7, ↓dSet7, ↓dTgN7, ↓dTgW7, ↓dVar8, ↓dAug8, ↓dSet8, ↓dTgN8, ↓dTgW8, ↓dVar9, ↓dAug9, ↓dSet9, ↓dTgN9, ↓dTgW9, ↓dVar10, ↓dAug10, ↓dSet10, ↓dTgN10, ↓dTgW10, ↓dVar11, ↓dAug11, ↓dSet11, ↓dTgN11, ↓dTgW11, ↓dVar12, ↓dAug12, ↓dSet12, ↓dTgN12, ↓dTgW12, ↓dVar13, ↓dAug13, ↓dSet13, ↓dTgN13, ↓dTgW13, ↓dVar14, ↓dAug14, ↓dSet14, ↓dTgN14, ↓dTgW14, ↓dVar15, ↓dAug15, ↓dSet15, ↓dTgN15, ↓dTgW15, ↓dVar16, ↓dAug16, ↓dSet16, ↓dTgN16, ↓dTgW16, ↓dVar17, ↓dAug17, ↓dSet17, ↓dTgN17, ↓dTgW17, ↓dVar18, ↓dAug18, ↓dSet18, ↓dTgN18, ↓dTgW18, ↓dVar19, ↓dAug19, ↓dSet19, ↓dTgN19, ↓dTgW19, ↓dTg_t2, ↓dTg_t3, ↓exGetM, ↓exSumU, nD, plD, rwD, ↓dAdd_tup, ↓dAdd_ref, dIx_tup, dIx_str, dIx_ref, dIx_kl, dListOf_tup, dListOf_kl, dListOf_ref, dLen_tup, dLen_str, dLen_kl, dLen_ref, dTupOf_tup, dTupOf_ref, dSeqI_x, sqX_tup, sqX_ref, sqX_str, dEnumI_x, enX_tup, enX_ref, dRevA, dRevD, dSIndex, dLtS, dUpper, dListS, dDisp1, dRevT, dInS, dSortA, dIsi2, isT2, Bool.or_true, Bool.true_or, Bool.or_false, Bool.or_self, dCallX, dRaise, dTryO, dTryA, dRaise1, dExF, dCls, dIsX, ↓exOne, WD0, ↓X0_, ↓X1_, ↓X2_, ↓X3_]
        rw [cutW]
        have lens : (wS t).length ≤ sizeLine := small_es (by rw [wS_len31]; omega)
        have memT : t.take (j + 1) ∈ addF (fun _ => true) T ↔ t.take (j + 1) ∈ T := by rw [(addF_mem (fun _ => true) T).2.1]; exact ⟨fun z => z.1, fun z => ⟨z, rfl⟩⟩
        have val := dkW_val (K := addF (fun _ => true) T) (c := t.take (j + 1)) (fun d hd => hF26 d (((addF_mem (fun _ => true) T).2.1 d).mp hd).1) hft2.lt
        have es : addF qq (prA l ++ (l2 ++ [j]).map fun i => t.take (i + 1)) = addK qq (addF qq (prA l ++ l2.map fun i => t.take (i + 1))) (t.take (j + 1)) := by
          rw [List.map_append, ← List.append_assoc]
          exact addF_snoc _ _ _
        refine ⟨lens, .inr (.inr (.inl ⟨kd, _, .inr (wS (t.take (j + 1))), rfl, rfl, .inl (by rw [up_ne nkf]; exact hk2), ?_⟩))⟩
        rw [val]
        by_cases m : t.take (j + 1) ∈ T
        · rw [decide_eq_true (memT.mpr m)]
          refine ⟨fun z => (by cases z), fun _ => sb0 (hP2 _ _ ⟨?_, _, rfl⟩)⟩
          rw [es]
          unfold addK
          rw [if_neg (by rw [← hqq]; simp [m])]
        · rw [decide_eq_false fun z => m (memT.mp z)]
          refine ⟨fun _ => ⟨lens, fd, rfl, .inr (.inl ⟨_, .inr (wS (t.take (j + 1))), rfl, up_same, ?_, sb0 (hP2 _ _ ⟨?_, _, rfl⟩)⟩)⟩, fun z => (by cases z)⟩
          · unfold dkW
            rw [List.length_map]
            have h1 := prA_len (T := l) fun t ht => hF t (hlT t ht)
            have h2 : l.length ≤ T.length := by rw [e]; simp
            have h3 : l2.length ≤ t.length - 1 := by
              have := congrArg List.length e2
              rw [List.length_range, List.length_append, List.length_cons] at this
              omega
            rw [List.length_append, List.length_map] at hKl
            rw [sizeLine_eq]
            omega
          · rw [up_up, es, dkW_put hK26 hft2.lt]
            congr 3
            unfold addK
            rw [show qq (t.take (j + 1)) = true by rw [← hqq]; exact decide_eq_true m]
      · rintro δ2 M4 ⟨hM4, c', rfl⟩
        subst hM4
        rw [h4]
        refine sb0 (hP _ _ ⟨?_, _, _, _, rfl⟩)
        rw [prA_snoc]; rfl
    · rintro δ' M' ⟨hM', a, b, c, rfl⟩
      subst hM'
      refine ⟨hg _ (sU _), ?_⟩
      rw [h3]
      simp (config := {failIfUnchanged := false}) only [dC, dOp, dTest, dChain, dAnd, dOr, dNot, dAndV, dOrV, dNotV, dIf, dNil, dCons, dTup, dLst, dCB, d1, dNoPart, dPart, dSl, dCut, dNeg, dSorted, dSum, dAll, dAny, dInt, dAbs, dMax, dMin, dIsi, isT, dNext, dSeq, dBrk, dCont, dNever, dExpr, dRet, dRetN, dIfS, dAsg, dPutI, dI0, dI, dIsN, dNotN, dRng1, dRng2, dRngDn, dZipI, dYes, dCall, dLM, dAppend, dExtend, dReverse, dInsert, dAugI, dRg1, dRg2, dTupRg, dLstRg, dNewK, dNewT, ↓S0_, ↓S1_, ↓S2_, ↓S3_, ↓S4_, ↓S5_, ↓S6_, List.map_cons, List.map_nil, List.length_cons, List.length_nil, List.replicate, List.cons_append, List.nil_append, Nat.reduceAdd, Nat.reduceSub, Nat.zero_add, List.getElem?_cons_zero, List.getElem?_cons_succ, Option.some.injEq, exists_eq_left, exists_eq_left', List.set_cons_zero, List.set_cons_succ, wipeD, D.int.injEq, D.bl.injEq, D.str.injEq, D.ref.injEq, D.tup.injEq, D.ty.injEq, true_and, and_true, forall_const, forall_eq', forall_eq, mt_int, mt_bool, mt_str, mt_tuple, mt_list, mt_dict, st_int_int, st_int_bool, st_int_str, st_int_tuple, st_int_list, st_int_dict, st_bool_int, st_bool_bool, st_bool_str, st_bool_tuple, st_bool_list, st_bool_dict, st_str_int, st_str_bool, st_str_str, st_str_tuple, st_str_list, st_str_dict, st_tuple_int, st_tuple_bool, st_tuple_str, st_tuple_tuple, st_tuple_list, st_tuple_dict, st_list_int, st_list_bool, st_list_str, st_list_tuple, st_list_list, st_list_dict, st_dict_int, st_dict_bool, st_dict_str, st_dict_tuple, st_dict_list, st_dict_dict, eq_self, Bool.true_eq_false, Bool.false_eq_true, false_implies, true_implies, implies_true, decide_eq_true_eq, decide_eq_false_iff_not, Bool.not_true, Bool.not_false, Bool.not_eq_true, Bool.not_eq_false, Bool.not_eq_true', Bool.not_eq_false', not_true_eq_false, not_false_eq_true, false_and, and_false, or_false, false_or, reduceCtorEq, ↓exLSu, ↓exDKu, ↓exDKd, ↓exLSd, ↓exLu, ↓dIxRu, ↓dPutu, ↓dGetAu, ↓dEq_int, ↓dNe_int, ↓dEq_bl, ↓dNe_bl, ↓dEq_str, ↓dNe_str, ↓dAdd_int, ↓exAt10, ↓exIx10, ↓exAt20, ↓exIx20, ↓exAt21, ↓exIx21, ↓exAt30, ↓exIx30, ↓exAt31, ↓exIx31, ↓exAt32, ↓exIx32, ↓exAt40, ↓exIx40, ↓exAt41, ↓exIx41, ↓exAt42, ↓exIx42, ↓exAt43, ↓exIx43, ↓exAt50, ↓exIx50, ↓exAt51, ↓exIx51, ↓exAt52, ↓exIx52, ↓exAt53, ↓exIx53, ↓exAt54, ↓exIx54, ↓exAt60, ↓exIx60, ↓exAt61, ↓exIx61, ↓exAt62, ↓exIx62, ↓exAt63, ↓exIx63, ↓exAt64, ↓exIx64, ↓exAt65, ↓exIx65, up_up, false_or, or_false, ↓exAtM, ↓dFlag_bl, ↓exBl, ↓exInt, ↓exRef, ↓dVar0, ↓dAug0, ↓dSet0, ↓dTgN0, ↓dTgW0, ↓dVar1, ↓dAug1, ↓dSet1, ↓dTgN1, ↓dTgW1, ↓dVar2, ↓dAug2, ↓dSet2, ↓dTgN2, ↓dTgW2, ↓dVar3, ↓dAug3, ↓dSet3, ↓dTgN3, ↓dTgW3, ↓dVar4, ↓dAug4, ↓dSet4, ↓dTgN4, ↓dTgW4, ↓dVar5, ↓dAug5, ↓dSet5, ↓dTgN5, ↓dTgW5, ↓dVar6, ↓dAug6, ↓dSet6, ↓dTgN6, ↓dTgW6, ↓dVar7, ↓dAug7, ↓dSet7, ↓dTgN7, ↓dTgW7, ↓dVar8, ↓dAug8, ↓dSet8, ↓dTgN8, ↓dTgW8, ↓dVar9, ↓dAug9, ↓dSet9, ↓dTgN9, ↓dTgW9, ↓dVar10, ↓dAug10, ↓dSet10, ↓dTgN10, ↓dTgW10, ↓dVar11, ↓dAug11, ↓dSet11, ↓dTgN11, ↓dTgW11, ↓dVar12, ↓dAug12, ↓dSet12, ↓dTgN12, ↓dTgW12, ↓dVar13, ↓dAug13, ↓dSet13, ↓dTgN13, ↓dTgW13, ↓dVar14, ↓dAug14, ↓dSet14, ↓dTgN14, ↓dTgW14, ↓dVar15, ↓dAug15, ↓dSet15, ↓dTgN15, ↓dTgW15, ↓dVar16, ↓dAug16, ↓dSet16, ↓dTgN16, ↓dTgW16, ↓dVar17, ↓dAug17, ↓dSet17, ↓dTgN17, ↓dTgW17, ↓dVar18, ↓dAug18, ↓dSet18, ↓dTgN18, ↓dTgW18, ↓dVar19, ↓dAug19, ↓dSet19, ↓dTgN19, ↓dTgW19, ↓dTg_t2, ↓dTg_t3, ↓exGetM, ↓exSumU, nD, plD, rwD, ↓dAdd_tup, ↓dAdd_ref, dIx_tup, dIx_str, dIx_ref, dIx_kl, dListOf_tup, dListOf_kl, dListOf_ref, dLen_tup, dLen_str, dLen_kl, dLen_ref, dTupOf_tup, dTupOf_ref, dSeqI_x, sqX_tup, sqX_ref, sqX_str, dEnumI_x, enX_tup, enX_ref, dRevA, dRevD, dSIndex, dLtS, dUpper, dListS, dDisp1, dRevT, dInS, dSortA, dIsi2, isT2, Bool.or_true, Bool.true_or, Bool.or_false, Bool.or_self, dCallX, dRaise, dTryO, dTryA, dRaise1, dExF, dCls, dIsX, ↓exOne, WD0, ↓X0_, ↓X1_, ↓X2_, ↓X3_]
      intro q hq
      have lA := prA_len hF
      refine ⟨{s : Str // PyData.strOk s = true}, inferInstance, fun a => .str a.1, fun a => .str a.1, 0, _, (addF qq (prA T)).map sT, ltl_s, by decide, LS_up.mpr (by unfold dkW; rw [List.map_map, List.map_map]; rfl), .inl (.inr fun d hd => ?_), fun L' pL sL q2 hq2 => ?_⟩
      · obtain ⟨u, _, rfl⟩ := List.mem_map.mp hd
        exact ⟨nofun, nofun⟩
      obtain ⟨K', pK, rfl⟩ := perm_map29 (f := sT) pL _ rfl
      have aM := addF_mem qq (prA T)
      have mm : ∀ c, c ∈ addF qq (prA T) ↔ c ∈ prA T ∧ c ∉ T := fun c => by rw [aM.2.1, ← hqq, decide_eq_true_eq]
      have hK : ∀ c ∈ K', ∀ i ∈ c, i < 26 := fun c hc => ((prA_mem.mp ((mm c).mp (pK.mem_iff.mp hc)).1).fal hF).lt
      have lk : Lk T K' := lk_of aM.1 mm pK ((List.pairwise_map.mp sL).imp_of_mem fun {c d} hc hd h => by rw [← wS_lt (hK d hd) (hK c hc)]; exact h)
      have sq : Sub (up (up M2 fd (.dK (dkW (addF qq (prA T))))) q (.lst ((dkW (addF qq (prA T))).map fun kv => kD kv.1))) M := (Sub.new hq (by intro _ z; cases z)).trans (sU _)
      refine dn0 (h K' q2 _ lk (by rw [pK.length_eq]; omega) ((Sub.new hq2 (by intro _ z; cases z)).trans sq) (sq.free hq2) ?_)
      rw [up_same, List.map_map]; rfl
  · refine ⟨M, rep, fun _ h => h, ?_⟩
    simp only [startD, List.map_cons, List.map_nil, List.length_cons, List.length_nil, Nat.reduceAdd, Nat.reduceSub, Nat.zero_add, List.replicate, List.cons_append, List.nil_append]; simp (config := {failIfUnchanged := false}) only [dC, dOp, dTest, dChain, dAnd, dOr, dNot, dAndV, dOrV, dNotV, dIf, dNil, dCons, dTup, dLst, dCB, d1, dNoPart, dPart, dSl, dCut, dNeg, dSorted, dSum, dAll, dAny, dInt, dAbs, dMax, dMin, dIsi, isT, dNext, dSeq, dBrk, dCont, dNever, dExpr, dRet, dRetN, dIfS, dAsg, dPutI, dI0, dI, dIsN, dNotN, dRng1, dRng2, dRngDn, dZipI, dYes, dCall, dLM, dAppend, dExtend, dReverse, dInsert, dAugI, dRg1, dRg2, dTupRg, dLstRg, dNewK, dNewT, ↓S0_, ↓S1_, ↓S2_, ↓S3_, ↓S4_, ↓S5_, ↓S6_, List.map_cons, List.map_nil, List.length_cons, List.length_nil, List.replicate, List.cons_append, List.nil_append, Nat.reduceAdd, Nat.reduceSub, Nat.zero_add, List.getElem?_cons_zero, List.getElem?_cons_succ, Option.some.injEq, exists_eq_left, exists_eq_left', List.set_cons_zero, List.set_cons_succ, wipeD, D.int.injEq, D.bl.injEq, D.str.injEq, D.ref.injEq, D.tup.injEq, D.ty.injEq, true_and, and_true, forall_const, forall_eq', forall_eq, mt_int, mt_bool, mt_str, mt_tuple, mt_list, mt_dict, st_int_int, st_int_bool, st_int_str, st_int_tuple, st_int_list, st_int_dict, st_bool_int, st_bool_bool, st_bool_str, st_bool_tuple, st_bool_list, st_bool_dict, st_str_int, st_str_bool, st_str_str, st_str_tuple, st_str_list, st_str_dict, st_tuple_int, st_tuple_bool, st_tuple_str, st_tuple_tuple, st_tuple_list, st_tuple_dict, st_list_int, st_list_bool, st_list_str, st_list_tuple, st_list_list, st_list_dict, st_dict_int, st_dict_bool, st_dict_str, st_dict_tuple, st_dict_list, st_dict_dict, eq_self, Bool.true_eq_false, Bool.false_eq_true, false_implies, true_implies, implies_true, decide_eq_true_eq, decide_eq_false_iff_not, Bool.not_true, Bool.not_false, Bool.not_eq_true, Bool.not_eq_false, Bool.not_eq_true', Bool.not_eq_false', not_true_eq_false, not_false_eq_true, false_and, and_false, or_false, false_or, reduceCtorEq, ↓exLSu, ↓exDKu, ↓exDKd, ↓exLSd, ↓exLu, ↓dIxRu, ↓dPutu, ↓dGetAu, ↓dEq_int, ↓dNe_int, ↓dEq_bl, ↓dNe_bl, ↓dEq_str, ↓dNe_str, ↓dAdd_int, ↓exAt10, ↓exIx10, ↓exAt20, ↓exIx20, ↓exAt21, ↓exIx21, ↓exAt30, ↓exIx30, ↓exAt31, ↓exIx31, ↓exAt32, ↓exIx32, ↓exAt40, ↓exIx40, ↓exAt41, ↓exIx41, ↓exAt42, ↓exIx42, ↓exAt43, ↓exIx43, ↓exAt50, ↓exIx50, ↓exAt51, ↓exIx51, ↓exAt52, ↓exIx52, ↓exAt53, ↓exIx53, ↓exAt54, ↓exIx54, ↓exAt60, ↓exIx60, ↓exAt61, ↓exIx61, ↓exAt62, ↓exIx62, ↓exAt63, ↓exIx63, ↓exAt64, ↓exIx64, ↓exAt65, ↓exIx65, up_up, false_or, or_false, ↓exAtM, ↓dFlag_bl, ↓exBl, ↓exInt, ↓exRef, ↓dVar0, ↓dAug0, ↓dSet0, ↓dTgN0, ↓dTgW0, ↓dVar1, ↓dAug1, ↓dSet1, ↓dTgN1, ↓dTgW1, ↓dVar2, ↓dAug2, ↓dSet2, ↓dTgN2, ↓dTgW2, ↓dVar3, ↓dAug3, ↓dSet3, ↓dTgN3, ↓dTgW3, ↓dVar4, ↓dAug4, ↓dSet4, ↓dTgN4, ↓dTgW4, ↓dVar5, ↓dAug5, ↓dSet5, ↓dTgN5, ↓dTgW5, ↓dVar6, ↓dAug6, ↓dSet6, ↓dTgN6, ↓dTgW6, ↓dVar7, ↓dAug7, ↓dSet7, ↓dTgN7, ↓dTgW7, ↓dVar8, ↓dAug8, ↓dSet8, ↓dTgN8, ↓dTgW8, ↓dVar9, ↓dAug9, ↓dSet9, ↓dTgN9, ↓dTgW9, ↓dVar10, ↓dAug10, ↓dSet10, ↓dTgN10, ↓dTgW10, ↓dVar11, ↓dAug11, ↓dSet11, ↓dTgN11, ↓dTgW11, ↓dVar12, ↓dAug12, ↓dSet12, ↓dTgN12, ↓dTgW12, ↓dVar13, ↓dAug13, ↓dSet13, ↓dTgN13, ↓dTgW13, ↓dVar14, ↓dAug14, ↓dSet14, ↓dTgN14, ↓dTgW14, ↓dVar15, ↓dAug15, ↓dSet15, ↓dTgN15, ↓dTgW15, ↓dVar16, ↓dAug16, ↓dSet16, ↓dTgN16, ↓dTgW16, ↓dVar17, ↓dAug17, ↓dSet17, ↓dTgN17, ↓dTgW17, ↓dVar18, ↓dAug18, ↓dSet18, ↓dTgN18, ↓dTgW18, ↓dVar19, ↓dAug19, ↓dSet19, ↓dTgN19, ↓dTgW19, ↓dTg_t2, ↓dTg_t3, ↓exGetM, ↓exSumU, nD, plD, rwD, ↓dAdd_tup, ↓dAdd_ref, dIx_tup, dIx_str, dIx_ref, dIx_kl, dListOf_tup, dListOf_kl, dListOf_ref, dLen_tup, dLen_str, dLen_kl, dLen_ref, dTupOf_tup, dTupOf_ref, dSeqI_x, sqX_tup, sqX_ref, sqX_str, dEnumI_x, enX_tup, enX_ref, dRevA, dRevD, dSIndex, dLtS, dUpper, dListS, dDisp1, dRevT, dInS, dSortA, dIsi2, isT2, Bool.or_true, Bool.true_or, Bool.or_false, Bool.or_self, dCallX, dRaise, dTryO, dTryA, dRaise1, dExF, dCls, dIsX, ↓exOne, WD0, ↓X0_, ↓X1_, ↓X2_, ↓X3_]
    rcases hb with rfl | ⟨z, rfl⟩ | ⟨p, kvs, rfl, hp⟩ | ⟨p, ps, rfl, hp, hl, hd, d0, hd0, hbad⟩
    · exact .inr ⟨.inl rfl, fun c hc => dn0 (h c hc)⟩
    · exact .inr ⟨.inr (.inl ⟨z, rfl⟩), fun c hc => dn0 (h c hc)⟩
    · exact .inr ⟨.inr (.inr ⟨p, kvs, rfl, hp⟩), fun c hc => dn0 (h c hc)⟩
    refine .inl ⟨_, .inr ⟨p, rfl, hp⟩, ?_⟩
    refine dLc_g fun F1 T1 U1 h1 t1 u1 => ?_; simp only [dLc, dC, dOp, dTest, dChain, dAnd, dOr, dNot, dAndV, dOrV, dNotV, dIf, dNil, dCons, dTup, dLst, dCB, d1, dNoPart, dPart, dSl, dCut, dNeg, dSorted, dSum, dAll, dAny, dInt, dAbs, dMax, dMin, dIsi, isT, dNext, dSeq, dBrk, dCont, dNever, dExpr, dRet, dRetN, dIfS, dAsg, dPutI, dI0, dI, dIsN, dNotN, dRng1, dRng2, dRngDn, dZipI, dYes, dCall, dLM, dAppend, dExtend, dReverse, dInsert, dAugI, dRg1, dRg2, dTupRg, dLstRg, dNewK, dNewT, ↓S0_, ↓S1_, ↓S2_, ↓S3_, ↓S4_, ↓S5_, ↓S6_, List.map_cons, List.map_nil, List.length_cons, List.length_nil, List.replicate, List.cons_append, List.nil_append, Nat.reduceAdd, Nat.reduceSub, Nat.zero_add, List.getElem?_cons_zero, List.getElem?_cons_succ, Option.some.injEq, exists_eq_left, exists_eq_left', List.set_cons_zero, List.set_cons_succ, wipeD, D.int.injEq, D.bl.injEq, D.str.injEq, D.ref.injEq, D.tup.injEq, D.ty.injEq, true_and, and_true, forall_const, forall_eq', forall_eq, mt_int, mt_bool, mt_str, mt_tuple, mt_list, mt_dict, st_int_int, st_int_bool, st_int_str, st_int_tuple, st_int_list, st_int_dict, st_bool_int, st_bool_bool, st_bool_str, st_bool_tuple, st_bool_list, st_bool_dict, st_str_int, st_str_bool, st_str_str, st_str_tuple, st_str_list, st_str_dict, st_tuple_int, st_tuple_bool, st_tuple_str, st_tuple_tuple, st_tuple_list, st_tuple_dict, st_list_int, st_list_bool, st_list_str, st_list_tuple, st_list_list, st_list_dict, st_dict_int, st_dict_bool, st_dict_str, st_dict_tuple, st_dict_list, st_dict_dict, eq_self, Bool.true_eq_false, Bool.false_eq_true, false_implies, true_implies, implies_true, decide_eq_true_eq, decide_eq_false_iff_not, Bool.not_true, Bool.not_false, Bool.not_eq_true, Bool.not_eq_false, Bool.not_eq_true', Bool.not_eq_false', not_true_eq_false, not_false_eq_true, false_and, and_false, or_false, false_or, reduceCtorEq, ↓exLSu, ↓exDKu, ↓exDKd, ↓exLSd, ↓exLu, ↓dIxRu, ↓dPutu, ↓dGetAu, ↓dEq_int, ↓dNe_int, ↓dEq_bl, ↓dNe_bl, ↓dEq_str, ↓dNe_str, ↓dAdd_int, ↓exAt10, ↓exIx10, ↓exAt20, ↓exIx20, ↓exAt21, ↓exIx21, ↓exAt30, ↓exIx30, ↓exAt31, ↓exIx31, ↓exAt32, ↓exIx32, ↓exAt40, ↓exIx40, ↓exAt41, ↓exIx41, ↓exAt42, ↓exIx42, ↓exAt43, ↓exIx43, ↓exAt50, ↓exIx50, ↓exAt51, ↓exIx51, ↓exAt52, ↓exIx52, ↓exAt53, ↓exIx53, ↓exAt54, ↓exIx54, ↓exAt60, ↓exIx60, ↓exAt61, ↓exIx61, ↓exAt62, ↓exIx62, ↓exAt63, ↓exIx63, ↓exAt64, ↓exIx64, ↓exAt65, ↓exIx65, up_up, false_or, or_false, ↓exAtM, ↓dFlag_bl, ↓exBl, ↓exInt, ↓exRef, ↓dVar0, ↓dAug0, ↓dSet0, ↓dTgN0, ↓dTgW0, ↓dVar1, ↓dAug1, ↓dSet1, ↓dTgN1, ↓dTgW1, ↓dVar2, ↓dAug2, ↓dSet2, ↓dTgN2, ↓dTgW2, ↓dVar3, ↓dAug3, ↓dSet3, ↓dTgN3, ↓dTgW3, ↓dVar4, ↓dAug4, ↓dSet4, ↓dTgN4, ↓dTgW4, ↓dVar5, ↓dAug5, ↓dSet5, ↓dTgN5, ↓dTgW5, ↓dVar6, ↓dAug6, ↓dSet6, ↓dTgN6, ↓dTgW6, ↓dVar7, ↓dAug7, ↓dSet7, ↓dTgN7, ↓dTgW7, ↓dVar8, ↓dAug8, ↓dSet8, ↓dTgN8, ↓dTgW8, ↓dVar9, ↓dAug9, ↓dSet9, ↓dTgN9, ↓dTgW9, ↓dVar10, ↓dAug10, ↓dSet10, ↓dTgN10, ↓dTgW10, ↓dVar11, ↓dAug11, ↓dSet11, ↓dTgN11, ↓dTgW11, ↓dVar12, ↓dAug12, ↓dSet12, ↓dTgN12, ↓dTgW12, ↓dVar13, ↓dAug13, ↓dSet13, ↓dTgN13, ↓dTgW13, ↓dVar14, ↓dAug14, ↓dSet14, ↓dTgN14, ↓dTgW14, ↓dVar15, ↓dAug15, ↓dSet15, ↓dTgN15, ↓dTgW15, ↓dVar16, ↓dAug16, ↓dSet16, ↓dTgN16, ↓dTgW16, ↓dVar17, ↓dAug17, ↓dSet17, ↓dTgN17, ↓dTgW17, ↓dVar18, ↓dAug18, ↓dSet18, ↓dTgN18, ↓dTgW18, ↓dVar19, ↓dAug19, ↓dSet19, ↓dTgN19, ↓dTgW19, ↓dTg_t2, ↓dTg_t3, ↓exGetM, ↓exSumU, nD, plD, rwD, ↓dAdd_tup, ↓dAdd_ref, dIx_tup, dIx_str, dIx_ref, dIx_kl, dListOf_tup, dListOf_kl, dListOf_ref, dLen_tup, dLen_str, dLen_kl, dLen_ref, dTupOf_tup, dTupOf_ref, dSeqI_x, sqX_tup, sqX_ref, sqX_str, dEnumI_x, enX_tup, enX_ref, dRevA, dRevD, dSIndex, dLtS, dUpper, dListS, dDisp1, dRevT, dInS, dSortA, dIsi2, isT2, Bool.or_true, Bool.true_or, Bool.or_false, Bool.or_self, dCallX, dRaise, dTryO, dTryA, dRaise1, dExF, dCls, dIsX, ↓exOne, WD0, ↓X0_, ↓X1_, ↓X2_, ↓X3_]
    refine ⟨_, .inl hp, by rw [List.length_map]; exact small_es (by omega), lcM (fun d : D × Bool => d.1) (fun d => .bl d.2) ps rfl (fun l d r pre acc P2 e hP2 => ⟨.inl hp, ?_⟩) ⟨.inl hp, fun q hq => ?_⟩⟩
    · subst t1; subst u1
      simp (config := {failIfUnchanged := false}) only [dC, dOp, dTest, dChain, dAnd, dOr, dNot, dAndV, dOrV, dNotV, dIf, dNil, dCons, dTup, dLst, dCB, d1, dNoPart, dPart, dSl, dCut, dNeg, dSorted, dSum, dAll, dAny, dInt, dAbs, dMax, dMin, dIsi, isT, dNext, dSeq, dBrk, dCont, dNever, dExpr, dRet, dRetN, dIfS, dAsg, dPutI, dI0, dI, dIsN, dNotN, dRng1, dRng2, dRngDn, dZipI, dYes, dCall, dLM, dAppend, dExtend, dReverse, dInsert, dAugI, dRg1, dRg2, dTupRg, dLstRg, dNewK, dNewT, ↓S0_, ↓S1_, ↓S2_, ↓S3_, ↓S4_, ↓S5_, ↓S6_, List.map_cons, List.map_nil, List.length_cons, List.length_nil, List.replicate, List.cons_append, List.nil_append, Nat.reduceAdd, Nat.reduceSub, Nat.zero_add, List.getElem?_cons_zero, List.getElem?_cons_succ, Option.some.injEq, exists_eq_left, exists_eq_left', List.set_cons_zero, List.set_cons_succ, wipeD, D.int.injEq, D.bl.injEq, D.str.injEq, D.ref.injEq, D.tup.injEq, D.ty.injEq, true_and, and_true, forall_const, forall_eq', forall_eq, mt_int, mt_bool, mt_str, mt_tuple, mt_list, mt_dict, st_int_int, st_int_bool, st_int_str, st_int_tuple, st_int_list, st_int_dict, st_bool_int, st_bool_bool, st_bool_str, st_bool_tuple, st_bool_list, st_bool_dict, st_str_int, st_str_bool, st_str_str, st_str_tuple, st_str_list, st_str_dict, st_tuple_int, st_tuple_bool, st_tuple_str, st_tuple_tuple, st_tuple_list, st_tuple_dict, st_list_int, st_list_bool, st_list_str, st_list_tuple, st_list_list, st_list_dict, st_dict_int, st_dict_bool, st_dict_str, st_dict_tuple, st_dict_list, st_dict_dict, eq_self, Bool.true_eq_false, Bool.false_eq_true, false_implies, true_implies, implies_true, decide_eq_true_eq, decide_eq_false_iff_not, Bool.not_true, Bool.not_false, Bool.not_eq_true, Bool.not_eq_false, Bool.not_eq_true', Bool.not_eq_false', not_true_eq_false, not_false_eq_true, false_and, and_false, or_false, false_or, reduceCtorEq, ↓exLSu, ↓exDKu, ↓exDKd, ↓exLSd, ↓exLu, ↓dIxRu, ↓dPutu, ↓dGetAu, ↓dEq_int, ↓dNe_int, ↓dEq_bl, ↓dNe_bl, ↓dEq_str, ↓dNe_str, ↓dAdd_int, ↓exAt10, ↓exIx10, ↓exAt20, ↓exIx20, ↓exAt21, ↓exIx21, ↓exAt30, ↓exIx30, ↓exAt31, ↓exIx31, ↓exAt32, ↓exIx32, ↓exAt40, ↓exIx40, ↓exAt41, ↓exIx41, ↓exAt42, ↓exIx42, ↓exAt43, ↓exIx43, ↓exAt50, ↓exIx50, ↓exAt51, ↓exIx51, ↓exAt52, ↓exIx52, ↓exAt53, ↓exIx53, ↓exAt54, ↓exIx54, ↓exAt60, ↓exIx60, ↓exAt61, ↓exIx61, ↓exAt62, ↓exIx62, ↓exAt63, ↓exIx63, ↓exAt64, ↓exIx64, ↓exAt65, ↓exIx65, up_up, false_or, or_false, ↓exAtM, ↓dFlag_bl, ↓exBl, ↓exInt, ↓exRef, ↓dVar0, ↓dAug0, ↓dSet0, ↓dTgN0, ↓dTgW0, ↓dVar1, ↓dAug1, ↓dSet1, ↓dTgN1, ↓dTgW1, ↓dVar2, ↓dAug2, ↓dSet2, ↓dTgN2, ↓dTgW2, ↓dVar3, ↓dAug3, ↓dSet3, ↓dTgN3, ↓dTgW3, ↓dVar4, ↓dAug4, ↓dSet4, ↓dTgN4, ↓dTgW4, ↓dVar5, ↓dAug5, ↓dSet5, ↓dTgN5, ↓dTgW5, ↓dVar6, ↓dAug6, ↓dSet6, ↓dTgN6, ↓dTgW6, ↓dVar7, ↓dAug7, ↓dSet7, ↓dTgN7, ↓dTgW7, ↓dVar8, ↓dAug8, ↓dSet8, ↓dTgN8, ↓dTgW8, ↓dVar9, ↓dAug9, ↓dSet9, ↓dTgN9, ↓dTgW9, ↓dVar10, ↓dAug10, ↓dSet10, ↓dTgN10, ↓dTgW10, ↓dVar11, ↓dAug11, ↓dSet11, ↓dTgN11, ↓dTgW11, ↓dVar12, ↓dAug12, ↓dSet12, ↓dTgN12, ↓dTgW12, ↓dVar13, ↓dAug13, ↓dSet13, ↓dTgN13, ↓dTgW13, ↓dVar14, ↓dAug14, ↓dSet14, ↓dTgN14, ↓dTgW14, ↓dVar15, ↓dAug15, ↓dSet15, ↓dTgN15, ↓dTgW15, ↓dVar16, ↓dAug16, ↓dSet16, ↓dTgN16, ↓dTgW16, ↓dVar17, ↓dAug17, ↓dSet17, ↓dTgN17, ↓dTgW17, ↓dVar18, ↓dAug18, ↓dSet18, ↓dTgN18, ↓dTgW18, ↓dVar19, ↓dAug19, ↓dSet19, ↓dTgN19, ↓dTgW19, ↓dTg_t2, ↓dTg_t3, ↓exGetM, ↓exSumU, nD, plD, rwD, ↓dAdd_tup, ↓dAdd_ref, dIx_tup, dIx_str, dIx_ref, dIx_kl, dListOf_tup, dListOf_kl, dListOf_ref, dLen_tup, dLen_str, dLen_kl, dLen_ref, dTupOf_tup, dTupOf_ref, dSeqI_x, sqX_tup, sqX_ref, sqX_str, dEnumI_x, enX_tup, enX_ref, dRevA, dRevD, dSIndex, dLtS, dUpper, dListS, dDisp1, dRevT, dInS, dSortA, dIsi2, isT2, Bool.or_true, Bool.true_or, Bool.or_false, Bool.or_self, dCallX, dRaise, dTryO, dTryA, dRaise1, dExF, dCls, dIsX, ↓exOne, WD0, ↓X0_, ↓X1_, ↓X2_, ↓X3_]
      exact ⟨d.2, hd d (by rw [e]; simp), sb0 hP2⟩
    rw [h1]
    simp (config := {failIfUnchanged := false}) only [dC, dOp, dTest, dChain, dAnd, dOr, dNot, dAndV, dOrV, dNotV, dIf, dNil, dCons, dTup, dLst, dCB, d1, dNoPart, dPart, dSl, dCut, dNeg, dSorted, dSum, dAll, dAny, dInt, dAbs, dMax, dMin, dIsi, isT, dNext, dSeq, dBrk, dCont, dNever, dExpr, dRet, dRetN, dIfS, dAsg, dPutI, dI0, dI, dIsN, dNotN, dRng1, dRng2, dRngDn, dZipI, dYes, dCall, dLM, dAppend, dExtend, dReverse, dInsert, dAugI, dRg1, dRg2, dTupRg, dLstRg, dNewK, dNewT, ↓S0_, ↓S1_, ↓S2_, ↓S3_, ↓S4_, ↓S5_, ↓S6_, List.map_cons, List.map_nil, List.length_cons, List.length_nil, List.replicate, List.cons_append, List.nil_append, Nat.reduceAdd, Nat.reduceSub, Nat.zero_add, List.getElem?_cons_zero, List.getElem?_cons_succ, Option.some.injEq, exists_eq_left, exists_eq_left', List.set_cons_zero, List.set_cons_succ, wipeD, D.int.injEq, D.bl.injEq, D.str.injEq, D.ref.injEq, D.tup.injEq, D.ty.injEq, true_and, and_true, forall_const, forall_eq', forall_eq, mt_int, mt_bool, mt_str, mt_tuple, mt_list, mt_dict, st_int_int, st_int_bool, st_int_str, st_int_tuple, st_int_list, st_int_dict, st_bool_int, st_bool_bool, st_bool_str, st_bool_tuple, st_bool_list, st_bool_dict, st_str_int, st_str_bool, st_str_str, st_str_tuple, st_str_list, st_str_dict, st_tuple_int, st_tuple_bool, st_tuple_str, st_tuple_tuple, st_tuple_list, st_tuple_dict, st_list_int, st_list_bool, st_list_str, st_list_tuple, st_list_list, st_list_dict, st_dict_int, st_dict_bool, st_dict_str, st_dict_tuple, st_dict_list, st_dict_dict, eq_self, Bool.true_eq_false, Bool.false_eq_true, false_implies, true_implies, implies_true, decide_eq_true_eq, decide_eq_false_iff_not, Bool.not_true, Bool.not_false, Bool.not_eq_true, Bool.not_eq_false, Bool.not_eq_true', Bool.not_eq_false', not_true_eq_false, not_false_eq_true, false_and, and_false, or_false, false_or, reduceCtorEq, ↓exLSu, ↓exDKu, ↓exDKd, ↓exLSd, ↓exLu, ↓dIxRu, ↓dPutu, ↓dGetAu, ↓dEq_int, ↓dNe_int, ↓dEq_bl, ↓dNe_bl, ↓dEq_str, ↓dNe_str, ↓dAdd_int, ↓exAt10, ↓exIx10, ↓exAt20, ↓exIx20, ↓exAt21, ↓exIx21, ↓exAt30, ↓exIx30, ↓exAt31, ↓exIx31, ↓exAt32, ↓exIx32, ↓exAt40, ↓exIx40, ↓exAt41, ↓exIx41, ↓exAt42, ↓exIx42, ↓exAt43, ↓exIx43, ↓exAt50, ↓exIx50, ↓exAt51, ↓exIx51, ↓exAt52, ↓exIx52, ↓exAt53, ↓exIx53, ↓exAt54, ↓exIx54, ↓exAt60, ↓exIx60, ↓exAt61, ↓exIx61, ↓exAt62, ↓exIx62, ↓exAt63, ↓exIx63, ↓exAt64, ↓exIx64, ↓exAt65, ↓exIx65, up_up, false_or, or_false, ↓exAtM, ↓dFlag_bl, ↓exBl, ↓exInt, ↓exRef, ↓dVar0, ↓dAug0, ↓dSet0, ↓dTgN0, ↓dTgW0, ↓dVar1, ↓dAug1, ↓dSet1, ↓dTgN1, ↓dTgW1, ↓dVar2, ↓dAug2, ↓dSet2, ↓dTgN2, ↓dTgW2, ↓dVar3, ↓dAug3, ↓dSet3, ↓dTgN3, ↓dTgW3, ↓dVar4, ↓dAug4, ↓dSet4, ↓dTgN4, ↓dTgW4, ↓dVar5, ↓dAug5, ↓dSet5, ↓dTgN5, ↓dTgW5, ↓dVar6, ↓dAug6, ↓dSet6, ↓dTgN6, ↓dTgW6, ↓dVar7, ↓dAug7, ↓dSet7, ↓dTgN7, ↓dTgW7, ↓dVar8, ↓dAug8, ↓dSet8, ↓dTgN8, ↓dTgW8, ↓dVar9, ↓dAug9, ↓dSet9, ↓dTgN9, ↓dTgW9, ↓dVar10, ↓dAug10, ↓dSet10, ↓dTgN10, ↓dTgW10, ↓dVar11, ↓dAug11, ↓dSet11, ↓dTgN11, ↓dTgW11, ↓dVar12, ↓dAug12, ↓dSet12, ↓dTgN12, ↓dTgW12, ↓dVar13, ↓dAug13, ↓dSet13, ↓dTgN13, ↓dTgW13, ↓dVar14, ↓dAug14, ↓dSet14, ↓dTgN14, ↓dTgW14, ↓dVar15, ↓dAug15, ↓dSet15, ↓dTgN15, ↓dTgW15, ↓dVar16, ↓dAug16, ↓dSet16, ↓dTgN16, ↓dTgW16, ↓dVar17, ↓dAug17, ↓dSet17, ↓dTgN17, ↓dTgW17, ↓dVar18, ↓dAug18, ↓dSet18, ↓dTgN18, ↓dTgW18, ↓dVar19, ↓dAug19, ↓dSet19, ↓dTgN19, ↓dTgW19, ↓dTg_t2, ↓dTg_t3, ↓exGetM, ↓exSumU, nD, plD, rwD, ↓dAdd_tup, ↓dAdd_ref, dIx_tup, dIx_str, dIx_ref, dIx_kl, dListOf_tup, dListOf_kl, dListOf_ref, dLen_tup, dLen_str, dLen_kl, dLen_ref, dTupOf_tup, dTupOf_ref, dSeqI_x, sqX_tup, sqX_ref, sqX_str, dEnumI_x, enX_tup, enX_ref, dRevA, dRevD, dSIndex, dLtS, dUpper, dListS, dDisp1, dRevT, dInS, dSortA, dIsi2, isT2, Bool.or_true, Bool.true_or, Bool.or_false, Bool.or_self, dCallX, dRaise, dTryO, dTryA, dRaise1, dExF, dCls, dIsX, ↓exOne, WD0, ↓X0_, ↓X1_, ↓X2_, ↓X3_, LS_up]
    refine ⟨ps.map (·.2), by rw [List.map_map]; rfl, fun _ c hc => (Sub.new hq (by intro _ z; cases z)).dn (h c hc), fun e => ?_⟩
    rw [List.all_map] at e
    have := List.all_eq_true.mp e d0 hd0
    rw [show (id ∘ fun x : D × Bool => x.2) d0 = d0.2 from rfl, hbad] at this
    cases this
end
theorem exD31 {M : Hd} {p : Addr} {l : List D} (h : M p = some (.lst l)) {R : List (Key × D) → Prop} : (∃ kvs, M p = some (.dK kvs) ∧ R kvs) ↔ False := ⟨fun ⟨_, a, _⟩ => (by rw [h] at a; cases a), False.elim⟩
theorem dAdd_s {a b : Str} {M : Hd} {Q : D → Hd → Prop} : dAdd (.str a) (.str b) M Q ↔ a.length + b.length ≤ sizeLine ∧ Q (.str (a ++ b)) M := Iff.rfl
theorem atW_last {c : List Nat} (h : Fal c) : atI (wS c).cps.toList (-1) = some (122 - c.getD (c.length - 1) 0) := by
  have hp := h.pos
  have hl : (wS c).cps.toList.length = c.length := by rw [wS_list, List.length_map]
  unfold L2.atI
  have e : ixN (wS c).cps.toList.length (-1) = some ((wS c).cps.toList.length - 1) := by
    unfold ixN
    rw [if_neg (by omega), if_pos (by omega)]
    congr 1
    omega
  rw [e, hl]
  show (wS c).cps.toList[c.length - 1]? = _
  rw [wS_list, List.getElem?_map, get_of31 (by omega)]; rfl
theorem len_app31 (a b : Str) : (a ++ b).length = a.length + b.length := by
  show (a ++ b).cps.size = a.cps.size + b.cps.size
  rw [← Array.length_toList, app31, List.length_append, Array.length_toList, Array.length_toList]
theorem fal_last {t : List Nat} (h : Fal t) {i : Nat} (hi : t.getD (t.length - 1) 0 < i) : ∀ x ∈ t, x < i := fun x hx => by
  obtain ⟨j, hj⟩ := List.getElem?_of_mem hx
  have hjl := (List.getElem?_eq_some_iff.mp hj).1
  have e1 := (List.getElem?_eq_some_iff.mp hj).2
  have e2 : t.getD (t.length - 1) 0 = t[t.length - 1] := by rw [List.getD_eq_getElem?_getD, List.getElem?_eq_getElem (by omega)]; rfl
  by_cases z : j = t.length - 1
  · subst z
    omega
  · have := List.pairwise_iff_getElem.mp h.asc j (t.length - 1) hjl (by omega) (by omega)
    omega
abbrev At31 (y : D) : Prop := ∃ s, y = .str s
section
variable {P : Program} {w : World} {K : PySem.W.Frag} {mg : Str → Option Value} {base : Heap}
theorem pr__law_alike0 (G : Gv K mg) : Pr P w K mg base "_law_alike" 1 ["_law_told", "_law_due"] (S2 fun x y M Q => x = y ∧ At31 y ∧ Q (.bl true) M) := by
  refine (pr3 (k := 0) G.d__law_alike bi__law_alike sc__law_alike S2n (fun f cdv A outer s H E hr => (b_cons (s_if (t_cmp od_is (e_var 1) e_non) (b_one (s_ret (e_cmp od_is (e_var 0) e_non))) b_nil)
      (b_cons (s_if (t_val (e_callB cd_isi (by rfl) G.b_isinstance rfl (a_cons (e_var 1) (a_cons (e_ty (by rfl) G.b_bool rfl) a_nil)))) (b_one (s_ret (e_and (e_callB cd_isi (by rfl) G.b_isinstance rfl (a_cons (e_var 0) (a_cons (e_ty (by rfl) G.b_bool rfl) a_nil))) (e_one (e_cmp (od_eq (hu3 hr)) (e_var 0) (e_var 1)))))) b_nil)
      (b_cons (s_if (t_val (e_callB cd_isi (by rfl) G.b_isinstance rfl (a_cons (e_var 1) (a_cons (e_ty (by rfl) G.b_str rfl) a_nil)))) (b_one (s_ret (e_and (e_callB cd_isi (by rfl) G.b_isinstance rfl (a_cons (e_var 0) (a_cons (e_ty (by rfl) G.b_str rfl) a_nil))) (e_one (e_cmp (od_eq (hu3 hr)) (e_var 0) (e_var 1)))))) b_nil)
      (b_cons (s_if (t_val (e_callB cd_isi (by rfl) G.b_isinstance rfl (a_cons (e_var 1) (a_cons (e_ty (by rfl) G.b_int rfl) a_nil)))) (b_one (s_ret (e_and (e_callB cd_isi (by rfl) G.b_isinstance rfl (a_cons (e_var 0) (a_cons (e_ty (by rfl) G.b_int rfl) a_nil))) (e_and (e_not (e_callB cd_isi (by rfl) G.b_isinstance rfl (a_cons (e_var 0) (a_cons (e_ty (by rfl) G.b_bool rfl) a_nil)))) (e_one (e_cmp (od_eq (hu3 hr)) (e_var 0) (e_var 1))))))) b_nil)
      (b_cons (s_if (PW3.pt (w_or (t_cmp (od_ne (hu3 hr)) (e_callB cd_isi (by rfl) G.b_isinstance rfl (a_cons (e_var 1) (a_cons (e_ty (by rfl) G.b_tuple rfl) a_nil))) (e_callB cd_isi (by rfl) G.b_isinstance rfl (a_cons (e_var 0) (a_cons (e_ty (by rfl) G.b_tuple rfl) a_nil)))) (w_or1 (t_cmp (od_ne (hu3 hr)) (e_callB cd_isi (by rfl) G.b_isinstance rfl (a_cons (e_var 1) (a_cons (e_ty (by rfl) G.b_list rfl) a_nil))) (e_callB cd_isi (by rfl) G.b_isinstance rfl (a_cons (e_var 0) (a_cons (e_ty (by rfl) G.b_list rfl) a_nil))))))) (b_one (s_ret e_bl)) b_nil)
      (b_cons (s_if (t_cmp (od_ne (hu3 hr)) (e_callB cd_len (by rfl) G.b_len rfl (a_cons (e_var 0) a_nil)) (e_callB cd_len (by rfl) G.b_len rfl (a_cons (e_var 1) a_nil))) (b_one (s_ret e_bl)) b_nil)
      (b_one (s_ret (e_callB (cd_all rfl) (by rfl) G.b_all rfl (a_cons (e_lc (own := [("_law_k", 2)]) rfl sc__law_alike.nd (i_rng1 (by rfl) G.b_range (a_cons (e_callB cd_len (by rfl) G.b_len rfl (a_cons (e_var 1) a_nil)) a_nil)) (blkOk_by (by rfl)) (fun _ _ _ _ _ => (g_nm 2 sc__law_alike.nd)) (fun _ _ _ _ _ => ts_nil) (fun _ _ _ _ _ => e_never)) a_nil)))))))))))) ?_
  rintro _ M Q E ⟨_, _, rfl, rfl, ⟨s, rfl⟩, h⟩ H rep
  refine ⟨M, rep, fun _ h => h, ?_⟩
  simp only [startD, List.map_cons, List.map_nil, List.length_cons, List.length_nil, Nat.reduceAdd, Nat.reduceSub, Nat.zero_add, List.replicate, List.cons_append, List.nil_append]; simp (config := {failIfUnchanged := false}) only [dC, dOp, dTest, dChain, dAnd, dOr, dNot, dAndV, dOrV, dNotV, dIf, dNil, dCons, dTup, dLst, dCB, d1, dNoPart, dPart, dSl, dCut, dNeg, dSorted, dSum, dAll, dAny, dInt, dAbs, dMax, dMin, dIsi, isT, dNext, dSeq, dBrk, dCont, dNever, dExpr, dRet, dRetN, dIfS, dAsg, dPutI, dI0, dI, dIsN, dNotN, dRng1, dRng2, dRngDn, dZipI, dYes, dCall, dLM, dAppend, dExtend, dReverse, dInsert, dAugI, dRg1, dRg2, dTupRg, dLstRg, dNewK, dNewT, ↓S0_, ↓S1_, ↓S2_, ↓S3_, ↓S4_, ↓S5_, ↓S6_, List.map_cons, List.map_nil, List.length_cons, List.length_nil, List.replicate, List.cons_append, List.nil_append, Nat.reduceAdd, Nat.reduceSub, Nat.zero_add, List.getElem?_cons_zero, List.getElem?_cons_succ, Option.some.injEq, exists_eq_left, exists_eq_left', List.set_cons_zero, List.set_cons_succ, wipeD, D.int.injEq, D.bl.injEq, D.str.injEq, D.ref.injEq, D.tup.injEq, D.ty.injEq, true_and, and_true, forall_const, forall_eq', forall_eq, mt_int, mt_bool, mt_str, mt_tuple, mt_list, mt_dict, st_int_int, st_int_bool, st_int_str, st_int_tuple, st_int_list, st_int_dict, st_bool_int, st_bool_bool, st_bool_str, st_bool_tuple, st_bool_list, st_bool_dict, st_str_int, st_str_bool, st_str_str, st_str_tuple, st_str_list, st_str_dict, st_tuple_int, st_tuple_bool, st_tuple_str, st_tuple_tuple, st_tuple_list, st_tuple_dict, st_list_int, st_list_bool, st_list_str, st_list_tuple, st_list_list, st_list_dict, st_dict_int, st_dict_bool, st_dict_str, st_dict_tuple, st_dict_list, st_dict_dict, eq_self, Bool.true_eq_false, Bool.false_eq_true, false_implies, true_implies, implies_true, decide_eq_true_eq, decide_eq_false_iff_not, Bool.not_true, Bool.not_false, Bool.not_eq_true, Bool.not_eq_false, Bool.not_eq_true', Bool.not_eq_false', not_true_eq_false, not_false_eq_true, false_and, and_false, or_false, false_or, reduceCtorEq, ↓exLSu, ↓exDKu, ↓exDKd, ↓exLSd, ↓exLu, ↓dIxRu, ↓dPutu, ↓dGetAu, ↓dEq_int, ↓dNe_int, ↓dEq_bl, ↓dNe_bl, ↓dEq_str, ↓dNe_str, ↓dAdd_int, ↓exAt10, ↓exIx10, ↓exAt20, ↓exIx20, ↓exAt21, ↓exIx21, ↓exAt30, ↓exIx30, ↓exAt31, ↓exIx31, ↓exAt32, ↓exIx32, ↓exAt40, ↓exIx40, ↓exAt41, ↓exIx41, ↓exAt42, ↓exIx42, ↓exAt43, ↓exIx43, ↓exAt50, ↓exIx50, ↓exAt51, ↓exIx51, ↓exAt52, ↓exIx52, ↓exAt53, ↓exIx53, ↓exAt54, ↓exIx54, ↓exAt60, ↓exIx60, ↓exAt61, ↓exIx61, ↓exAt62, ↓exIx62, ↓exAt63, ↓exIx63, ↓exAt64, ↓exIx64, ↓exAt65, ↓exIx65, up_up, false_or, or_false, ↓exAtM, ↓dFlag_bl, ↓exBl, ↓exInt, ↓exRef, ↓dVar0, ↓dAug0, ↓dSet0, ↓dTgN0, ↓dTgW0, ↓dVar1, ↓dAug1, ↓dSet1, ↓dTgN1, ↓dTgW1, ↓dVar2, ↓dAug2, ↓dSet2, ↓dTgN2, ↓dTgW2, ↓dVar3, ↓dAug3, ↓dSet3, ↓dTgN3, ↓dTgW3, ↓dVar4, ↓dAug4, ↓dSet4, ↓dTgN4, ↓dTgW4, ↓dVar5, ↓dAug5, ↓dSet5, ↓dTgN5, ↓dTgW5, ↓dVar6, ↓dAug6, ↓dSet6, ↓dTgN6, ↓dTgW6, ↓dVar7, ↓dAug7, ↓dSet7, ↓dTgN7, ↓dTgW7, ↓dVar8, ↓dAug8, ↓dSet8, ↓dTgN8, ↓dTgW8, ↓dVar9, ↓dAug9, ↓dSet9, ↓dTgN9, ↓dTgW9, ↓dVar10, ↓dAug10, ↓dSet10, ↓dTgN10, ↓dTgW10, ↓dVar11, ↓dAug11, ↓dSet11, ↓dTgN11, ↓dTgW11, ↓dVar12, ↓dAug12, ↓dSet12, ↓dTgN12, ↓dTgW12, ↓dVar13, ↓dAug13, ↓dSet13, ↓dTgN13, ↓dTgW13, ↓dVar14, ↓dAug14, ↓dSet14, ↓dTgN14, ↓dTgW14, ↓dVar15, ↓dAug15, ↓dSet15, ↓dTgN15, ↓dTgW15, ↓dVar16, ↓dAug16, ↓dSet16, ↓dTgN16, ↓dTgW16, ↓dVar17, ↓dAug17, ↓dSet17, ↓dTgN17, ↓dTgW17, ↓dVar18, ↓dAug18, ↓dSet18, ↓dTgN18, ↓dTgW18, ↓dVar19, ↓dAug19, ↓dSet19, ↓dTgN19, ↓dTgW19, ↓dTg_t2, ↓dTg_t3, ↓exGetM, ↓exSumU, nD, plD, rwD, ↓dAdd_tup, ↓dAdd_ref, dIx_tup, dIx_str, dIx_ref, dIx_kl, dListOf_tup, dListOf_kl, dListOf_ref, dLen_tup, dLen_str, dLen_kl, dLen_ref, dTupOf_tup, dTupOf_ref, dSeqI_x, sqX_tup, sqX_ref, sqX_str, dEnumI_x, enX_tup, enX_ref, dRevA, dRevD, dSIndex, dLtS, dUpper, dListS, dDisp1, dRevT, dInS, dSortA, dIsi2, isT2, Bool.or_true, Bool.true_or, Bool.or_false, Bool.or_self, dCallX, dRaise, dTryO, dTryA, dRaise1, dExF, dCls, dIsX, ↓exOne, WD0, ↓X0_, ↓X1_, ↓X2_, ↓X3_]
  simp only [decide_true]
  exact dn0 h
theorem pr__law_alike (G : Gv K mg) : Pr P w K mg base "_law_alike" 2 ["_law_told", "_law_due"] (S2 fun x y M Q => ∃ (p q : Addr) (ws : List (List Nat)), x = .ref p ∧ y = .ref q ∧ M p = some (.lst (ws.map wD)) ∧ M q = some (.lst (ws.map wD)) ∧ ws.length ≤ 100000 ∧ Q (.bl true) M) := by
  refine (pr3 (k := 1) G.d__law_alike bi__law_alike sc__law_alike S2n (fun f cdv A outer s H E hr => (b_cons (s_if (t_cmp od_is (e_var 1) e_non) (b_one (s_ret (e_cmp od_is (e_var 0) e_non))) b_nil)
      (b_cons (s_if (t_val (e_callB cd_isi (by rfl) G.b_isinstance rfl (a_cons (e_var 1) (a_cons (e_ty (by rfl) G.b_bool rfl) a_nil)))) (b_one (s_ret (e_and (e_callB cd_isi (by rfl) G.b_isinstance rfl (a_cons (e_var 0) (a_cons (e_ty (by rfl) G.b_bool rfl) a_nil))) (e_one (e_cmp (od_eq (hu3 hr)) (e_var 0) (e_var 1)))))) b_nil)
      (b_cons (s_if (t_val (e_callB cd_isi (by rfl) G.b_isinstance rfl (a_cons (e_var 1) (a_cons (e_ty (by rfl) G.b_str rfl) a_nil)))) (b_one (s_ret (e_and (e_callB cd_isi (by rfl) G.b_isinstance rfl (a_cons (e_var 0) (a_cons (e_ty (by rfl) G.b_str rfl) a_nil))) (e_one (e_cmp (od_eq (hu3 hr)) (e_var 0) (e_var 1)))))) b_nil)
      (b_cons (s_if (t_val (e_callB cd_isi (by rfl) G.b_isinstance rfl (a_cons (e_var 1) (a_cons (e_ty (by rfl) G.b_int rfl) a_nil)))) (b_one (s_ret (e_and (e_callB cd_isi (by rfl) G.b_isinstance rfl (a_cons (e_var 0) (a_cons (e_ty (by rfl) G.b_int rfl) a_nil))) (e_and (e_not (e_callB cd_isi (by rfl) G.b_isinstance rfl (a_cons (e_var 0) (a_cons (e_ty (by rfl) G.b_bool rfl) a_nil)))) (e_one (e_cmp (od_eq (hu3 hr)) (e_var 0) (e_var 1))))))) b_nil)
      (b_cons (s_if (PW3.pt (w_or (t_cmp (od_ne (hu3 hr)) (e_callB cd_isi (by rfl) G.b_isinstance rfl (a_cons (e_var 1) (a_cons (e_ty (by rfl) G.b_tuple rfl) a_nil))) (e_callB cd_isi (by rfl) G.b_isinstance rfl (a_cons (e_var 0) (a_cons (e_ty (by rfl) G.b_tuple rfl) a_nil)))) (w_or1 (t_cmp (od_ne (hu3 hr)) (e_callB cd_isi (by rfl) G.b_isinstance rfl (a_cons (e_var 1) (a_cons (e_ty (by rfl) G.b_list rfl) a_nil))) (e_callB cd_isi (by rfl) G.b_isinstance rfl (a_cons (e_var 0) (a_cons (e_ty (by rfl) G.b_list rfl) a_nil))))))) (b_one (s_ret e_bl)) b_nil)
      (b_cons (s_if (t_cmp (od_ne (hu3 hr)) (e_callB cd_len (by rfl) G.b_len rfl (a_cons (e_var 0) a_nil)) (e_callB cd_len (by rfl) G.b_len rfl (a_cons (e_var 1) a_nil))) (b_one (s_ret e_bl)) b_nil)
      (b_one (s_ret (e_callB (cd_all rfl) (by rfl) G.b_all rfl (a_cons (e_lc (own := [("_law_k", 2)]) rfl sc__law_alike.nd (i_rng1 (by rfl) G.b_range (a_cons (e_callB cd_len (by rfl) G.b_len rfl (a_cons (e_var 1) a_nil)) a_nil)) (blkOk_by (by rfl)) (fun _ _ _ _ _ => (g_nm 2 sc__law_alike.nd)) (fun _ _ _ _ _ => ts_nil) (fun _ _ _ _ _ => (e_callP (pr__law_alike0 G) (hr.mono (by decide)) (by rfl) pass0 (a_cons (e_ix (ixd (hu_of hr)) (e_var 0) (e_var 2)) (a_cons (e_ix (ixd (hu_of hr)) (e_var 1) (e_var 2)) a_nil))))) a_nil)))))))))))) ?_
  rintro _ M Q E ⟨_, _, rfl, p, q, ws, rfl, rfl, hp, hq, hl, h⟩ H rep
  refine ⟨M, rep, fun _ h => h, ?_⟩
  simp only [startD, List.map_cons, List.map_nil, List.length_cons, List.length_nil, Nat.reduceAdd, Nat.reduceSub, Nat.zero_add, List.replicate, List.cons_append, List.nil_append]; simp (config := {failIfUnchanged := false}) only [dC, dOp, dTest, dChain, dAnd, dOr, dNot, dAndV, dOrV, dNotV, dIf, dNil, dCons, dTup, dLst, dCB, d1, dNoPart, dPart, dSl, dCut, dNeg, dSorted, dSum, dAll, dAny, dInt, dAbs, dMax, dMin, dIsi, isT, dNext, dSeq, dBrk, dCont, dNever, dExpr, dRet, dRetN, dIfS, dAsg, dPutI, dI0, dI, dIsN, dNotN, dRng1, dRng2, dRngDn, dZipI, dYes, dCall, dLM, dAppend, dExtend, dReverse, dInsert, dAugI, dRg1, dRg2, dTupRg, dLstRg, dNewK, dNewT, ↓S0_, ↓S1_, ↓S2_, ↓S3_, ↓S4_, ↓S5_, ↓S6_, List.map_cons, List.map_nil, List.length_cons, List.length_nil, List.replicate, List.cons_append, List.nil_append, Nat.reduceAdd, Nat.reduceSub, Nat.zero_add, List.getElem?_cons_zero, List.getElem?_cons_succ, Option.some.injEq, exists_eq_left, exists_eq_left', List.set_cons_zero, List.set_cons_succ, wipeD, D.int.injEq, D.bl.injEq, D.str.injEq, D.ref.injEq, D.tup.injEq, D.ty.injEq, true_and, and_true, forall_const, forall_eq', forall_eq, mt_int, mt_bool, mt_str, mt_tuple, mt_list, mt_dict, st_int_int, st_int_bool, st_int_str, st_int_tuple, st_int_list, st_int_dict, st_bool_int, st_bool_bool, st_bool_str, st_bool_tuple, st_bool_list, st_bool_dict, st_str_int, st_str_bool, st_str_str, st_str_tuple, st_str_list, st_str_dict, st_tuple_int, st_tuple_bool, st_tuple_str, st_tuple_tuple, st_tuple_list, st_tuple_dict, st_list_int, st_list_bool, st_list_str, st_list_tuple, st_list_list, st_list_dict, st_dict_int, st_dict_bool, st_dict_str, st_dict_tuple, st_dict_list, st_dict_dict, eq_self, Bool.true_eq_false, Bool.false_eq_true, false_implies, true_implies, implies_true, decide_eq_true_eq, decide_eq_false_iff_not, Bool.not_true, Bool.not_false, Bool.not_eq_true, Bool.not_eq_false, Bool.not_eq_true', Bool.not_eq_false', not_true_eq_false, not_false_eq_true, false_and, and_false, or_false, false_or, reduceCtorEq, ↓exLSu, ↓exDKu, ↓exDKd, ↓exLSd, ↓exLu, ↓dIxRu, ↓dPutu, ↓dGetAu, ↓dEq_int, ↓dNe_int, ↓dEq_bl, ↓dNe_bl, ↓dEq_str, ↓dNe_str, ↓dAdd_int, ↓exAt10, ↓exIx10, ↓exAt20, ↓exIx20, ↓exAt21, ↓exIx21, ↓exAt30, ↓exIx30, ↓exAt31, ↓exIx31, ↓exAt32, ↓exIx32, ↓exAt40, ↓exIx40, ↓exAt41, ↓exIx41, ↓exAt42, ↓exIx42, ↓exAt43, ↓exIx43, ↓exAt50, ↓exIx50, ↓exAt51, ↓exIx51, ↓exAt52, ↓exIx52, ↓exAt53, ↓exIx53, ↓exAt54, ↓exIx54, ↓exAt60, ↓exIx60, ↓exAt61, ↓exIx61, ↓exAt62, ↓exIx62, ↓exAt63, ↓exIx63, ↓exAt64, ↓exIx64, ↓exAt65, ↓exIx65, up_up, false_or, or_false, ↓exAtM, ↓dFlag_bl, ↓exBl, ↓exInt, ↓exRef, ↓dVar0, ↓dAug0, ↓dSet0, ↓dTgN0, ↓dTgW0, ↓dVar1, ↓dAug1, ↓dSet1, ↓dTgN1, ↓dTgW1, ↓dVar2, ↓dAug2, ↓dSet2, ↓dTgN2, ↓dTgW2, ↓dVar3, ↓dAug3, ↓dSet3, ↓dTgN3, ↓dTgW3, ↓dVar4, ↓dAug4, ↓dSet4, ↓dTgN4, ↓dTgW4, ↓dVar5, ↓dAug5, ↓dSet5, ↓dTgN5, ↓dTgW5, ↓dVar6, ↓dAug6, ↓dSet6, ↓dTgN6, ↓dTgW6, ↓dVar7, ↓dAug7, ↓dSet7, ↓dTgN7, ↓dTgW7, ↓dVar8, ↓dAug8, ↓dSet8, ↓dTgN8, ↓dTgW8, ↓dVar9, ↓dAug9, ↓dSet9, ↓dTgN9, ↓dTgW9, ↓dVar10, ↓dAug10, ↓dSet10, ↓dTgN10, ↓dTgW10, ↓dVar11, ↓dAug11, ↓dSet11, ↓dTgN11, ↓dTgW11, ↓dVar12, ↓dAug12, ↓dSet12, ↓dTgN12, ↓dTgW12, ↓dVar13, ↓dAug13, ↓dSet13, ↓dTgN13, ↓dTgW13, ↓dVar14, ↓dAug14, ↓dSet14, ↓dTgN14, ↓dTgW14, ↓dVar15, ↓dAug15, ↓dSet15, ↓dTgN15, ↓dTgW15, ↓dVar16, ↓dAug16, ↓dSet16, ↓dTgN16, ↓dTgW16, ↓dVar17, ↓dAug17, ↓dSet17, ↓dTgN17, ↓dTgW17, ↓dVar18, ↓dAug18, ↓dSet18, ↓dTgN18, ↓dTgW18, ↓dVar19, ↓dAug19, ↓dSet19, ↓dTgN19, ↓dTgW19, ↓dTg_t2, ↓dTg_t3, ↓exGetM, ↓exSumU, nD, plD, rwD, ↓dAdd_tup, ↓dAdd_ref, dIx_tup, dIx_str, dIx_ref, dIx_kl, dListOf_tup, dListOf_kl, dListOf_ref, dLen_tup, dLen_str, dLen_kl, dLen_ref, dTupOf_tup, dTupOf_ref, dSeqI_x, sqX_tup, sqX_ref, sqX_str, dEnumI_x, enX_tup, enX_ref, dRevA, dRevD, dSIndex, dLtS, dUpper, dListS, dDisp1, dRevT, dInS, dSortA, dIsi2, isT2, Bool.or_true, Bool.true_or, Bool.or_false, Bool.or_self, dCallX, dRaise, dTryO, dTryA, dRaise1, dExF, dCls, dIsX, ↓exOne, WD0, ↓X0_, ↓X1_, ↓X2_, ↓X3_, ↓exLh hp, ↓exD31 hp, ↓exLS hp, ↓exDKh hp, ↓exLh hq, ↓exD31 hq, ↓exLS hq, ↓exDKh hq]
  refine dLc_g fun F1 T1 U1 h1 t1 u1 => ?_; simp only [dLc, dC, dOp, dTest, dChain, dAnd, dOr, dNot, dAndV, dOrV, dNotV, dIf, dNil, dCons, dTup, dLst, dCB, d1, dNoPart, dPart, dSl, dCut, dNeg, dSorted, dSum, dAll, dAny, dInt, dAbs, dMax, dMin, dIsi, isT, dNext, dSeq, dBrk, dCont, dNever, dExpr, dRet, dRetN, dIfS, dAsg, dPutI, dI0, dI, dIsN, dNotN, dRng1, dRng2, dRngDn, dZipI, dYes, dCall, dLM, dAppend, dExtend, dReverse, dInsert, dAugI, dRg1, dRg2, dTupRg, dLstRg, dNewK, dNewT, ↓S0_, ↓S1_, ↓S2_, ↓S3_, ↓S4_, ↓S5_, ↓S6_, List.map_cons, List.map_nil, List.length_cons, List.length_nil, List.replicate, List.cons_append, List.nil_append, Nat.reduceAdd, Nat.reduceSub, Nat.zero_add, List.getElem?_cons_zero, List.getElem?_cons_succ, Option.some.injEq, exists_eq_left, exists_eq_left', List.set_cons_zero, List.set_cons_succ, wipeD, D.int.injEq, D.bl.injEq, D.str.injEq, D.ref.injEq, D.tup.injEq, D.ty.injEq, true_and, and_true, forall_const, forall_eq', forall_eq, mt_int, mt_bool, mt_str, mt_tuple, mt_list, mt_dict, st_int_int, st_int_bool, st_int_str, st_int_tuple, st_int_list, st_int_dict, st_bool_int, st_bool_bool, st_bool_str, st_bool_tuple, st_bool_list, st_bool_dict, st_str_int, st_str_bool, st_str_str, st_str_tuple, st_str_list, st_str_dict, st_tuple_int, st_tuple_bool, st_tuple_str, st_tuple_tuple, st_tuple_list, st_tuple_dict, st_list_int, st_list_bool, st_list_str, st_list_tuple, st_list_list, st_list_dict, st_dict_int, st_dict_bool, st_dict_str, st_dict_tuple, st_dict_list, st_dict_dict, eq_self, Bool.true_eq_false, Bool.false_eq_true, false_implies, true_implies, implies_true, decide_eq_true_eq, decide_eq_false_iff_not, Bool.not_true, Bool.not_false, Bool.not_eq_true, Bool.not_eq_false, Bool.not_eq_true', Bool.not_eq_false', not_true_eq_false, not_false_eq_true, false_and, and_false, or_false, false_or, reduceCtorEq, ↓exLSu, ↓exDKu, ↓exDKd, ↓exLSd, ↓exLu, ↓dIxRu, ↓dPutu, ↓dGetAu, ↓dEq_int, ↓dNe_int, ↓dEq_bl, ↓dNe_bl, ↓dEq_str, ↓dNe_str, ↓dAdd_int, ↓exAt10, ↓exIx10, ↓exAt20, ↓exIx20, ↓exAt21, ↓exIx21, ↓exAt30, ↓exIx30, ↓exAt31, ↓exIx31, ↓exAt32, ↓exIx32, ↓exAt40, ↓exIx40, ↓exAt41, ↓exIx41, ↓exAt42, ↓exIx42, ↓exAt43, ↓exIx43, ↓exAt50, ↓exIx50, ↓exAt51, ↓exIx51, ↓exAt52, ↓exIx52, ↓exAt53, ↓exIx53, ↓exAt54, ↓exIx54, ↓exAt60, ↓exIx60, ↓exAt61, ↓exIx61, ↓exAt62, ↓exIx62, ↓exAt63, ↓exIx63, ↓exAt64, ↓exIx64, ↓exAt65, ↓exIx65, up_up, false_or, or_false, ↓exAtM, ↓dFlag_bl, ↓exBl, ↓exInt, ↓exRef, ↓dVar0, ↓dAug0, ↓dSet0, ↓dTgN0, ↓dTgW0, ↓dVar1, ↓dAug1, ↓dSet1, ↓dTgN1, ↓dTgW1, ↓dVar2, ↓dAug2, ↓dSet2, ↓dTgN2, ↓dTgW2, ↓dVar3, ↓dAug3, ↓dSet3, ↓dTgN3, ↓dTgW3, ↓dVar4, ↓dAug4, ↓dSet4, ↓dTgN4, ↓dTgW4, ↓dVar5, ↓dAug5, ↓dSet5, ↓dTgN5, ↓dTgW5, ↓dVar6, ↓dAug6, ↓dSet6, ↓dTgN6, ↓dTgW6, ↓dVar7, ↓dAug7, ↓dSet7, ↓dTgN7, ↓dTgW7, ↓dVar8, ↓dAug8, ↓dSet8, ↓dTgN8, ↓dTgW8, ↓dVar9, ↓dAug9, ↓dSet9, ↓dTgN9, ↓dTgW9, ↓dVar10, ↓dAug10, ↓dSet10, ↓dTgN10, ↓dTgW10, ↓dVar11, ↓dAug11, ↓dSet11, ↓dTgN11, ↓dTgW11, ↓dVar12, ↓dAug12, ↓dSet12, ↓dTgN12, ↓dTgW12, ↓dVar13, ↓dAug13, ↓dSet13, ↓dTgN13, ↓dTgW13, ↓dVar14, ↓dAug14, ↓dSet14, ↓dTgN14, ↓dTgW14, ↓dVar15, ↓dAug15, ↓dSet15, ↓dTgN15, ↓dTgW15, ↓dVar16, ↓dAug16, ↓dSet16, ↓dTgN16, ↓dTgW16, ↓dVar17, ↓dAug17, ↓dSet17, ↓dTgN17, ↓dTgW17, ↓dVar18, ↓dAug18, ↓dSet18, ↓dTgN18, ↓dTgW18, ↓dVar19, ↓dAug19, ↓dSet19, ↓dTgN19, ↓dTgW19, ↓dTg_t2, ↓dTg_t3, ↓exGetM, ↓exSumU, nD, plD, rwD, ↓dAdd_tup, ↓dAdd_ref, dIx_tup, dIx_str, dIx_ref, dIx_kl, dListOf_tup, dListOf_kl, dListOf_ref, dLen_tup, dLen_str, dLen_kl, dLen_ref, dTupOf_tup, dTupOf_ref, dSeqI_x, sqX_tup, sqX_ref, sqX_str, dEnumI_x, enX_tup, enX_ref, dRevA, dRevD, dSIndex, dLtS, dUpper, dListS, dDisp1, dRevT, dInS, dSortA, dIsi2, isT2, Bool.or_true, Bool.true_or, Bool.or_false, Bool.or_self, dCallX, dRaise, dTryO, dTryA, dRaise1, dExF, dCls, dIsX, ↓exOne, WD0, ↓X0_, ↓X1_, ↓X2_, ↓X3_]
  refine .inl ⟨_, .inl hq, ?_⟩
  rw [List.length_map, rng0]
  refine ⟨by omega, by rw [rg_len]; exact Nat.le_trans hl (by decide), lcM nD (fun _ => .bl true) (List.range ws.length) rfl (fun l k t pre acc P2 e2 hP2 => ?_) (fun q2 hq2 => ?_)⟩
  · have hk : k < ws.length := List.mem_range.mp (by rw [e2]; simp)
    have hz : (ws.map wD)[k]? = some (wD ws[k]) := by rw [List.getElem?_map, List.getElem?_eq_getElem hk]; rfl
    subst t1; subst u1
    simp (config := {failIfUnchanged := false}) only [dC, dOp, dTest, dChain, dAnd, dOr, dNot, dAndV, dOrV, dNotV, dIf, dNil, dCons, dTup, dLst, dCB, d1, dNoPart, dPart, dSl, dCut, dNeg, dSorted, dSum, dAll, dAny, dInt, dAbs, dMax, dMin, dIsi, isT, dNext, dSeq, dBrk, dCont, dNever, dExpr, dRet, dRetN, dIfS, dAsg, dPutI, dI0, dI, dIsN, dNotN, dRng1, dRng2, dRngDn, dZipI, dYes, dCall, dLM, dAppend, dExtend, dReverse, dInsert, dAugI, dRg1, dRg2, dTupRg, dLstRg, dNewK, dNewT, ↓S0_, ↓S1_, ↓S2_, ↓S3_, ↓S4_, ↓S5_, ↓S6_, List.map_cons, List.map_nil, List.length_cons, List.length_nil, List.replicate, List.cons_append, List.nil_append, Nat.reduceAdd, Nat.reduceSub, Nat.zero_add, List.getElem?_cons_zero, List.getElem?_cons_succ, Option.some.injEq, exists_eq_left, exists_eq_left', List.set_cons_zero, List.set_cons_succ, wipeD, D.int.injEq, D.bl.injEq, D.str.injEq, D.ref.injEq, D.tup.injEq, D.ty.injEq, true_and, and_true, forall_const, forall_eq', forall_eq, mt_int, mt_bool, mt_str, mt_tuple, mt_list, mt_dict, st_int_int, st_int_bool, st_int_str, st_int_tuple, st_int_list, st_int_dict, st_bool_int, st_bool_bool, st_bool_str, st_bool_tuple, st_bool_list, st_bool_dict, st_str_int, st_str_bool, st_str_str, st_str_tuple, st_str_list, st_str_dict, st_tuple_int, st_tuple_bool, st_tuple_str, st_tuple_tuple, st_tuple_list, st_tuple_dict, st_list_int, st_list_bool, st_list_str, st_list_tuple, st_list_list, st_list_dict, st_dict_int, st_dict_bool, st_dict_str, st_dict_tuple, st_dict_list, st_dict_dict, eq_self, Bool.true_eq_false, Bool.false_eq_true, false_implies, true_implies, implies_true, decide_eq_true_eq, decide_eq_false_iff_not, Bool.not_true, Bool.not_false, Bool.not_eq_true, Bool.not_eq_false, Bool.not_eq_true', Bool.not_eq_false', not_true_eq_false, not_false_eq_true, false_and, and_false, or_false, false_or, reduceCtorEq, ↓exLSu, ↓exDKu, ↓exDKd, ↓exLSd, ↓exLu, ↓dIxRu, ↓dPutu, ↓dGetAu, ↓dEq_int, ↓dNe_int, ↓dEq_bl, ↓dNe_bl, ↓dEq_str, ↓dNe_str, ↓dAdd_int, ↓exAt10, ↓exIx10, ↓exAt20, ↓exIx20, ↓exAt21, ↓exIx21, ↓exAt30, ↓exIx30, ↓exAt31, ↓exIx31, ↓exAt32, ↓exIx32, ↓exAt40, ↓exIx40, ↓exAt41, ↓exIx41, ↓exAt42, ↓exIx42, ↓exAt43, ↓exIx43, ↓exAt50, ↓exIx50, ↓exAt51, ↓exIx51, ↓exAt52, ↓exIx52, ↓exAt53, ↓exIx53, ↓exAt54, ↓exIx54, ↓exAt60, ↓exIx60, ↓exAt61, ↓exIx61, ↓exAt62, ↓exIx62, ↓exAt63, ↓exIx63, ↓exAt64, ↓exIx64, ↓exAt65, ↓exIx65, up_up, false_or, or_false, ↓exAtM, ↓dFlag_bl, ↓exBl, ↓exInt, ↓exRef, ↓dVar0, ↓dAug0, ↓dSet0, ↓dTgN0, ↓dTgW0, ↓dVar1, ↓dAug1, ↓dSet1, ↓dTgN1, ↓dTgW1, ↓dVar2, ↓dAug2, ↓dSet2, ↓dTgN2, ↓dTgW2, ↓dVar3, ↓dAug3, ↓dSet3, ↓dTgN3, ↓dTgW3, ↓dVar4, ↓dAug4, ↓dSet4, ↓dTgN4, ↓dTgW4, ↓dVar5, ↓dAug5, ↓dSet5, ↓dTgN5, ↓dTgW5, ↓dVar6, ↓dAug6, ↓dSet6, ↓dTgN6, ↓dTgW6, ↓dVar7, ↓dAug7, ↓dSet7, ↓dTgN7, ↓dTgW7, ↓dVar8, ↓dAug8, ↓dSet8, ↓dTgN8, ↓dTgW8, ↓dVar9, ↓dAug9, ↓dSet9, ↓dTgN9, ↓dTgW9, ↓dVar10, ↓dAug10, ↓dSet10, ↓dTgN10, ↓dTgW10, ↓dVar11, ↓dAug11, ↓dSet11, ↓dTgN11, ↓dTgW11, ↓dVar12, ↓dAug12, ↓dSet12, ↓dTgN12, ↓dTgW12, ↓dVar13, ↓dAug13, ↓dSet13, ↓dTgN13, ↓dTgW13, ↓dVar14, ↓dAug14, ↓dSet14, ↓dTgN14, ↓dTgW14, ↓dVar15, ↓dAug15, ↓dSet15, ↓dTgN15, ↓dTgW15, ↓dVar16, ↓dAug16, ↓dSet16, ↓dTgN16, ↓dTgW16, ↓dVar17, ↓dAug17, ↓dSet17, ↓dTgN17, ↓dTgW17, ↓dVar18, ↓dAug18, ↓dSet18, ↓dTgN18, ↓dTgW18, ↓dVar19, ↓dAug19, ↓dSet19, ↓dTgN19, ↓dTgW19, ↓dTg_t2, ↓dTg_t3, ↓exGetM, ↓exSumU, nD, plD, rwD, ↓dAdd_tup, ↓dAdd_ref, dIx_tup, dIx_str, dIx_ref, dIx_kl, dListOf_tup, dListOf_kl, dListOf_ref, dLen_tup, dLen_str, dLen_kl, dLen_ref, dTupOf_tup, dTupOf_ref, dSeqI_x, sqX_tup, sqX_ref, sqX_str, dEnumI_x, enX_tup, enX_ref, dRevA, dRevD, dSIndex, dLtS, dUpper, dListS, dDisp1, dRevT, dInS, dSortA, dIsi2, isT2, Bool.or_true, Bool.true_or, Bool.or_false, Bool.or_self, dCallX, dRaise, dTryO, dTryA, dRaise1, dExF, dCls, dIsX, ↓exOne, WD0, ↓X0_, ↓X1_, ↓X2_, ↓X3_]
    exact (dIxRh hp).mpr ⟨_, atI_nat hz, (dIxRh hq).mpr ⟨_, atI_nat hz, rfl, ⟨_, rfl⟩, sb0 hP2⟩⟩
  · rw [h1]
    simp (config := {failIfUnchanged := false}) only [dC, dOp, dTest, dChain, dAnd, dOr, dNot, dAndV, dOrV, dNotV, dIf, dNil, dCons, dTup, dLst, dCB, d1, dNoPart, dPart, dSl, dCut, dNeg, dSorted, dSum, dAll, dAny, dInt, dAbs, dMax, dMin, dIsi, isT, dNext, dSeq, dBrk, dCont, dNever, dExpr, dRet, dRetN, dIfS, dAsg, dPutI, dI0, dI, dIsN, dNotN, dRng1, dRng2, dRngDn, dZipI, dYes, dCall, dLM, dAppend, dExtend, dReverse, dInsert, dAugI, dRg1, dRg2, dTupRg, dLstRg, dNewK, dNewT, ↓S0_, ↓S1_, ↓S2_, ↓S3_, ↓S4_, ↓S5_, ↓S6_, List.map_cons, List.map_nil, List.length_cons, List.length_nil, List.replicate, List.cons_append, List.nil_append, Nat.reduceAdd, Nat.reduceSub, Nat.zero_add, List.getElem?_cons_zero, List.getElem?_cons_succ, Option.some.injEq, exists_eq_left, exists_eq_left', List.set_cons_zero, List.set_cons_succ, wipeD, D.int.injEq, D.bl.injEq, D.str.injEq, D.ref.injEq, D.tup.injEq, D.ty.injEq, true_and, and_true, forall_const, forall_eq', forall_eq, mt_int, mt_bool, mt_str, mt_tuple, mt_list, mt_dict, st_int_int, st_int_bool, st_int_str, st_int_tuple, st_int_list, st_int_dict, st_bool_int, st_bool_bool, st_bool_str, st_bool_tuple, st_bool_list, st_bool_dict, st_str_int, st_str_bool, st_str_str, st_str_tuple, st_str_list, st_str_dict, st_tuple_int, st_tuple_bool, st_tuple_str, st_tuple_tuple, st_tuple_list, st_tuple_dict, st_list_int, st_list_bool, st_list_str, st_list_tuple, st_list_list, st_list_dict, st_dict_int, st_dict_bool, st_dict_str, st_dict_tuple, st_dict_list, st_dict_dict, eq_self, Bool.true_eq_false, Bool.false_eq_true, false_implies, true_implies, implies_true, decide_eq_true_eq, decide_eq_false_iff_not, Bool.not_true, Bool.not_false, Bool.not_eq_true, Bool.not_eq_false, Bool.not_eq_true', Bool.not_eq_false', not_true_eq_false, not_false_eq_true, false_and, and_false, or_false, false_or, reduceCtorEq, ↓exLSu, ↓exDKu, ↓exDKd, ↓exLSd, ↓exLu, ↓dIxRu, ↓dPutu, ↓dGetAu, ↓dEq_int, ↓dNe_int, ↓dEq_bl, ↓dNe_bl, ↓dEq_str, ↓dNe_str, ↓dAdd_int, ↓exAt10, ↓exIx10, ↓exAt20, ↓exIx20, ↓exAt21, ↓exIx21, ↓exAt30, ↓exIx30, ↓exAt31, ↓exIx31, ↓exAt32, ↓exIx32, ↓exAt40, ↓exIx40, ↓exAt41, ↓exIx41, ↓exAt42, ↓exIx42, ↓exAt43, ↓exIx43, ↓exAt50, ↓exIx50, ↓exAt51, ↓exIx51, ↓exAt52, ↓exIx52, ↓exAt53, ↓exIx53, ↓exAt54, ↓exIx54, ↓exAt60, ↓exIx60, ↓exAt61, ↓exIx61, ↓exAt62, ↓exIx62, ↓exAt63, ↓exIx63, ↓exAt64, ↓exIx64, ↓exAt65, ↓exIx65, up_up, false_or, or_false, ↓exAtM, ↓dFlag_bl, ↓exBl, ↓exInt, ↓exRef, ↓dVar0, ↓dAug0, ↓dSet0, ↓dTgN0, ↓dTgW0, ↓dVar1, ↓dAug1, ↓dSet1, ↓dTgN1, ↓dTgW1, ↓dVar2, ↓dAug2, ↓dSet2, ↓dTgN2, ↓dTgW2, ↓dVar3, ↓dAug3, ↓dSet3, ↓dTgN3, ↓dTgW3, ↓dVar4, ↓dAug4, ↓dSet4, ↓dTgN4, ↓dTgW4, ↓dVar5, ↓dAug5, ↓dSet5, ↓dTgN5, ↓dTgW5, ↓dVar6, ↓dAug6, ↓dSet6, ↓dTgN6, ↓dTgW6, ↓dVar7, ↓dAug7, ↓dSet7, ↓dTgN7, ↓dTgW7, ↓dVar8, ↓dAug8, ↓dSet8, ↓dTgN8, ↓dTgW8, ↓dVar9, ↓dAug9, ↓dSet9, ↓dTgN9, ↓dTgW9, ↓dVar10, ↓dAug10, ↓dSet10, ↓dTgN10, ↓dTgW10, ↓dVar11, ↓dAug11, ↓dSet11, ↓dTgN11, ↓dTgW11, ↓dVar12, ↓dAug12, ↓dSet12, ↓dTgN12, ↓dTgW12, ↓dVar13, ↓dAug13, ↓dSet13, ↓dTgN13, ↓dTgW13, ↓dVar14, ↓dAug14, ↓dSet14, ↓dTgN14, ↓dTgW14, ↓dVar15, ↓dAug15, ↓dSet15, ↓dTgN15, ↓dTgW15, ↓dVar16, ↓dAug16, ↓dSet16, ↓dTgN16, ↓dTgW16, ↓dVar17, ↓dAug17, ↓dSet17, ↓dTgN17, ↓dTgW17, ↓dVar18, ↓dAug18, ↓dSet18, ↓dTgN18, ↓dTgW18, ↓dVar19, ↓dAug19, ↓dSet19, ↓dTgN19, ↓dTgW19, ↓dTg_t2, ↓dTg_t3, ↓exGetM, ↓exSumU, nD, plD, rwD, ↓dAdd_tup, ↓dAdd_ref, dIx_tup, dIx_str, dIx_ref, dIx_kl, dListOf_tup, dListOf_kl, dListOf_ref, dLen_tup, dLen_str, dLen_kl, dLen_ref, dTupOf_tup, dTupOf_ref, dSeqI_x, sqX_tup, sqX_ref, sqX_str, dEnumI_x, enX_tup, enX_ref, dRevA, dRevD, dSIndex, dLtS, dUpper, dListS, dDisp1, dRevT, dInS, dSortA, dIsi2, isT2, Bool.or_true, Bool.true_or, Bool.or_false, Bool.or_self, dCallX, dRaise, dTryO, dTryA, dRaise1, dExF, dCls, dIsX, ↓exOne, WD0, ↓X0_, ↓X1_, ↓X2_, ↓X3_, LS_up]
    refine ⟨(List.range ws.length).map fun _ => true, by rw [List.map_map]; rfl, ?_⟩
    rw [show ((List.range ws.length).map fun _ => true).all id = true by simp]
    exact (Sub.new hq2 (by intro _ z; cases z)).dn h
theorem pr__law_falling (G : Gv K mg) : Pr P w K mg base "_law_falling" 2 ["_law_state_here"] (S1 fun x M Q => Pool M x ∧ ∀ c, Fal c → Q (wD c) M) := by
  refine (pr3 (k := 1) G.d__law_falling bi__law_falling sc__law_falling S1n (fun f cdv A outer s H E hr => (b_cons (s_set 1 sc__law_falling.nd e_str)
      (b_cons (s_set 2 sc__law_falling.nd (e_op od_add e_int (e_op od_mul e_int (e_callP (pr__law_draw G) (hr.mono (by decide)) (by rfl) pass0 (a_cons (e_var 0) (a_cons e_int a_nil))))))
      (b_cons (s_for PassesOwn.never rfl (i_rng1 (by rfl) G.b_range (a_cons e_int a_nil)) (g_nm 3 sc__law_falling.nd)
      (b_one (s_if (t_cmp (od_eq (hu3 hr)) (e_callP (pr__law_draw G) (hr.mono (by decide)) (by rfl) pass0 (a_cons (e_var 0) (a_cons (e_var 2) a_nil))) e_int) (b_one (s_set 1 sc__law_falling.nd (e_op od_add (e_var 1) (e_ix (ixd (hu_of hr)) e_str (e_var 3))))) b_nil)))
      (b_one (s_ret (e_if (t_cmp (od_ne (hu3 hr)) (e_var 1) e_str) (e_var 1) (e_ix (ixd (hu_of hr)) e_str (e_callP (pr__law_draw G) (hr.mono (by decide)) (by rfl) pass0 (a_cons (e_var 0) (a_cons e_int a_nil)))))))))))) ?_
  rintro _ M Q E ⟨x, rfl, hp, h⟩ H rep
  refine ⟨M, rep, fun _ h => h, ?_⟩
  simp only [startD, List.map_cons, List.map_nil, List.length_cons, List.length_nil, Nat.reduceAdd, Nat.reduceSub, Nat.zero_add, List.replicate, List.cons_append, List.nil_append]; simp (config := {failIfUnchanged := false}) only [dC, dOp, dTest, dChain, dAnd, dOr, dNot, dAndV, dOrV, dNotV, dIf, dNil, dCons, dTup, dLst, dCB, d1, dNoPart, dPart, dSl, dCut, dNeg, dSorted, dSum, dAll, dAny, dInt, dAbs, dMax, dMin, dIsi, isT, dNext, dSeq, dBrk, dCont, dNever, dExpr, dRet, dRetN, dIfS, dAsg, dPutI, dI0, dI, dIsN, dNotN, dRng1, dRng2, dRngDn, dZipI, dYes, dCall, dLM, dAppend, dExtend, dReverse, dInsert, dAugI, dRg1, dRg2, dTupRg, dLstRg, dNewK, dNewT, ↓S0_, ↓S1_, ↓S2_, ↓S3_, ↓S4_, ↓S5_, ↓S6_, List.map_cons, List.map_nil, List.length_cons, List.length_nil, List.replicate, List.cons_append, List.nil_append, Nat.reduceAdd, Nat.reduceSub, Nat.zero_add, List.getElem?_cons_zero, List.getElem?_cons_succ, Option.some.injEq, exists_eq_left, exists_eq_left', List.set_cons_zero, List.set_cons_succ, wipeD, D.int.injEq, D.bl.injEq, D.str.injEq, D.ref.injEq, D.tup.injEq, D.ty.injEq, true_and, and_true, forall_const, forall_eq', forall_eq, mt_int, mt_bool, mt_str, mt_tuple, mt_list, mt_dict, st_int_int, st_int_bool, st_int_str, st_int_tuple, st_int_list, st_int_dict, st_bool_int, st_bool_bool, st_bool_str, st_bool_tuple, st_bool_list, st_bool_dict, st_str_int, st_str_bool, st_str_str, st_str_tuple, st_str_list, st_str_dict, st_tuple_int, st_tuple_bool, st_tuple_str, st_tuple_tuple, st_tuple_list, st_tuple_dict, st_list_int, st_list_bool, st_list_str, st_list_tuple, st_list_list, st_list_dict, st_dict_int, st_dict_bool, st_dict_str, st_dict_tuple, st_dict_list, st_dict_dict, eq_self, Bool.true_eq_false, Bool.false_eq_true, false_implies, true_implies, implies_true, decide_eq_true_eq, decide_eq_false_iff_not, Bool.not_true, Bool.not_false, Bool.not_eq_true, Bool.not_eq_false, Bool.not_eq_true', Bool.not_eq_false', not_true_eq_false, not_false_eq_true, false_and, and_false, or_false, false_or, reduceCtorEq, ↓exLSu, ↓exDKu, ↓exDKd, ↓exLSd, ↓exLu, ↓dIxRu, ↓dPutu, ↓dGetAu, ↓dEq_int, ↓dNe_int, ↓dEq_bl, ↓dNe_bl, ↓dEq_str, ↓dNe_str, ↓dAdd_int, ↓exAt10, ↓exIx10, ↓exAt20, ↓exIx20, ↓exAt21, ↓exIx21, ↓exAt30, ↓exIx30, ↓exAt31, ↓exIx31, ↓exAt32, ↓exIx32, ↓exAt40, ↓exIx40, ↓exAt41, ↓exIx41, ↓exAt42, ↓exIx42, ↓exAt43, ↓exIx43, ↓exAt50, ↓exIx50, ↓exAt51, ↓exIx51, ↓exAt52, ↓exIx52, ↓exAt53, ↓exIx53, ↓exAt54, ↓exIx54, ↓exAt60, ↓exIx60, ↓exAt61, ↓exIx61, ↓exAt62, ↓exIx62, ↓exAt63, ↓exIx63, ↓exAt64, ↓exIx64, ↓exAt65, ↓exIx65, up_up, false_or, or_false, ↓exAtM, ↓dFlag_bl, ↓exBl, ↓exInt, ↓exRef, ↓dVar0, ↓dAug0, ↓dSet0, ↓dTgN0, ↓dTgW0, ↓dVar1, ↓dAug1, ↓dSet1, ↓dTgN1, ↓dTgW1, ↓dVar2, ↓dAug2, ↓dSet2, ↓dTgN2, ↓dTgW2, ↓dVar3, ↓dAug3, ↓dSet3, ↓dTgN3, ↓dTgW3, ↓dVar4, ↓dAug4, ↓dSet4, ↓dTgN4, ↓dTgW4, ↓dVar5, ↓dAug5, ↓dSet5, ↓dTgN5, ↓dTgW5, ↓dVar6, ↓dAug6, ↓dSet6, ↓dTgN6, ↓dTgW6, ↓dVar7, ↓dAug7, ↓dSet7, ↓dTgN7, ↓dTgW7, ↓dVar8, ↓dAug8, ↓dSet8, ↓dTgN8, ↓dTgW8, ↓dVar9, ↓dAug9, ↓dSet9, ↓dTgN9, ↓dTgW9, ↓dVar10, ↓dAug10, ↓dSet10, ↓dTgN10, ↓dTgW10, ↓dVar11, ↓dAug11, ↓dSet11, ↓dTgN11, ↓dTgW11, ↓dVar12, ↓dAug12, ↓dSet12, ↓dTgN12, ↓dTgW12, ↓dVar13, ↓dAug13, ↓dSet13, ↓dTgN13, ↓dTgW13, ↓dVar14, ↓dAug14, ↓dSet14, ↓dTgN14, ↓dTgW14, ↓dVar15, ↓dAug15, ↓dSet15, ↓dTgN15, ↓dTgW15, ↓dVar16, ↓dAug16, ↓dSet16, ↓dTgN16, ↓dTgW16, ↓dVar17, ↓dAug17, ↓dSet17, ↓dTgN17, ↓dTgW17, ↓dVar18, ↓dAug18, ↓dSet18, ↓dTgN18, ↓dTgW18, ↓dVar19, ↓dAug19, ↓dSet19, ↓dTgN19, ↓dTgW19, ↓dTg_t2, ↓dTg_t3, ↓exGetM, ↓exSumU, nD, plD, rwD, ↓dAdd_tup, ↓dAdd_ref, dIx_tup, dIx_str, dIx_ref, dIx_kl, dListOf_tup, dListOf_kl, dListOf_ref, dLen_tup, dLen_str, dLen_kl, dLen_ref, dTupOf_tup, dTupOf_ref, dSeqI_x, sqX_tup, sqX_ref, sqX_str, dEnumI_x, enX_tup, enX_ref, dRevA, dRevD, dSIndex, dLtS, dUpper, dListS, dDisp1, dRevT, dInS, dSortA, dIsi2, isT2, Bool.or_true, Bool.true_or, Bool.or_false, Bool.or_self, dCallX, dRaise, dTryO, dTryA, dRaise1, dExF, dCls, dIsX, ↓exOne, WD0, ↓X0_, ↓X1_, ↓X2_, ↓X3_]
  refine ⟨3, rfl, hp, by omega, by omega, fun v hv => ⟨cm_l (by omega) (by omega), ?_⟩⟩
  refine dFor_g fun F1 T1 h1 t1 => ?_; simp only [dFor, dC, dOp, dTest, dChain, dAnd, dOr, dNot, dAndV, dOrV, dNotV, dIf, dNil, dCons, dTup, dLst, dCB, d1, dNoPart, dPart, dSl, dCut, dNeg, dSorted, dSum, dAll, dAny, dInt, dAbs, dMax, dMin, dIsi, isT, dNext, dSeq, dBrk, dCont, dNever, dExpr, dRet, dRetN, dIfS, dAsg, dPutI, dI0, dI, dIsN, dNotN, dRng1, dRng2, dRngDn, dZipI, dYes, dCall, dLM, dAppend, dExtend, dReverse, dInsert, dAugI, dRg1, dRg2, dTupRg, dLstRg, dNewK, dNewT, ↓S0_, ↓S1_, ↓S2_, ↓S3_, ↓S4_, ↓S5_, ↓S6_, List.map_cons, List.map_nil, List.length_cons, List.length_nil, List.replicate, List.cons_append, List.nil_append, Nat.reduceAdd, Nat.reduceSub, Nat.zero_add, List.getElem?_cons_zero, List.getElem?_cons_succ, Option.some.injEq, exists_eq_left, exists_eq_left', List.set_cons_zero, List.set_cons_succ, wipeD, D.int.injEq, D.bl.injEq, D.str.injEq, D.ref.injEq, D.tup.injEq, D.ty.injEq, true_and, and_true, forall_const, forall_eq', forall_eq, mt_int, mt_bool, mt_str, mt_tuple, mt_list, mt_dict, st_int_int, st_int_bool, st_int_str, st_int_tuple, st_int_list, st_int_dict, st_bool_int, st_bool_bool, st_bool_str, st_bool_tuple, st_bool_list, st_bool_dict, st_str_int, st_str_bool, st_str_str, st_str_tuple, st_str_list, st_str_dict, st_tuple_int, st_tuple_bool, st_tuple_str, st_tuple_tuple, st_tuple_list, st_tuple_dict, st_list_int, st_list_bool, st_list_str, st_list_tuple, st_list_list, st_list_dict, st_dict_int, st_dict_bool, st_dict_str, st_dict_tuple, st_dict_list, st_dict_dict, eq_self, Bool.true_eq_false, Bool.false_eq_true, false_implies, true_implies, implies_true, decide_eq_true_eq, decide_eq_false_iff_not, Bool.not_true, Bool.not_false, Bool.not_eq_true, Bool.not_eq_false, Bool.not_eq_true', Bool.not_eq_false', not_true_eq_false, not_false_eq_true, false_and, and_false, or_false, false_or, reduceCtorEq, ↓exLSu, ↓exDKu, ↓exDKd, ↓exLSd, ↓exLu, ↓dIxRu, ↓dPutu, ↓dGetAu, ↓dEq_int, ↓dNe_int, ↓dEq_bl, ↓dNe_bl, ↓dEq_str, ↓dNe_str, ↓dAdd_int, ↓exAt10, ↓exIx10, ↓exAt20, ↓exIx20, ↓exAt21, ↓exIx21, ↓exAt30, ↓exIx30, ↓exAt31, ↓exIx31, ↓exAt32, ↓exIx32, ↓exAt40, ↓exIx40, ↓exAt41, ↓exIx41, ↓exAt42, ↓exIx42, ↓exAt43, ↓exIx43, ↓exAt50, ↓exIx50, ↓exAt51, ↓exIx51, ↓exAt52, ↓exIx52, ↓exAt53, ↓exIx53, ↓exAt54, ↓exIx54, ↓exAt60, ↓exIx60, ↓exAt61, ↓exIx61, ↓exAt62, ↓exIx62, ↓exAt63, ↓exIx63, ↓exAt64, ↓exIx64, ↓exAt65, ↓exIx65, up_up, false_or, or_false, ↓exAtM, ↓dFlag_bl, ↓exBl, ↓exInt, ↓exRef, ↓dVar0, ↓dAug0, ↓dSet0, ↓dTgN0, ↓dTgW0, ↓dVar1, ↓dAug1, ↓dSet1, ↓dTgN1, ↓dTgW1, ↓dVar2, ↓dAug2, ↓dSet2, ↓dTgN2, ↓dTgW2, ↓dVar3, ↓dAug3, ↓dSet3, ↓dTgN3, ↓dTgW3, ↓dVar4, ↓dAug4, ↓dSet4, ↓dTgN4, ↓dTgW4, ↓dVar5, ↓dAug5, ↓dSet5, ↓dTgN5, ↓dTgW5, ↓dVar6, ↓dAug6, ↓dSet6, ↓dTgN6, ↓dTgW6, ↓dVar7, ↓dAug7, ↓dSet7, ↓dTgN7, ↓dTgW7, ↓dVar8, ↓dAug8, ↓dSet8, ↓dTgN8, ↓dTgW8, ↓dVar9, ↓dAug9, ↓dSet9, ↓dTgN9, ↓dTgW9, ↓dVar10, ↓dAug10, ↓dSet10, ↓dTgN10, ↓dTgW10, ↓dVar11, ↓dAug11, ↓dSet11, ↓dTgN11, ↓dTgW11, ↓dVar12, ↓dAug12, ↓dSet12, ↓dTgN12, ↓dTgW12, ↓dVar13, ↓dAug13, ↓dSet13, ↓dTgN13, ↓dTgW13, ↓dVar14, ↓dAug14, ↓dSet14, ↓dTgN14, ↓dTgW14, ↓dVar15, ↓dAug15, ↓dSet15, ↓dTgN15, ↓dTgW15, ↓dVar16, ↓dAug16, ↓dSet16, ↓dTgN16, ↓dTgW16, ↓dVar17, ↓dAug17, ↓dSet17, ↓dTgN17, ↓dTgW17, ↓dVar18, ↓dAug18, ↓dSet18, ↓dTgN18, ↓dTgW18, ↓dVar19, ↓dAug19, ↓dSet19, ↓dTgN19, ↓dTgW19, ↓dTg_t2, ↓dTg_t3, ↓exGetM, ↓exSumU, nD, plD, rwD, ↓dAdd_tup, ↓dAdd_ref, dIx_tup, dIx_str, dIx_ref, dIx_kl, dListOf_tup, dListOf_kl, dListOf_ref, dLen_tup, dLen_str, dLen_kl, dLen_ref, dTupOf_tup, dTupOf_ref, dSeqI_x, sqX_tup, sqX_ref, sqX_str, dEnumI_x, enX_tup, enX_ref, dRevA, dRevD, dSIndex, dLtS, dUpper, dListS, dDisp1, dRevT, dInS, dSortA, dIsi2, isT2, Bool.or_true, Bool.true_or, Bool.or_false, Bool.or_self, dCallX, dRaise, dTryO, dTryA, dRaise1, dExF, dCls, dIsX, ↓exOne, WD0, ↓X0_, ↓X1_, ↓X2_, ↓X3_]
  rw [show (26 : Int) = ((26 : Nat) : Int) from rfl, rng0]
  refine ⟨by omega, forN (fun i δ M' => M' = M ∧ ∃ c a, c.Pairwise (· < ·) ∧ (∀ x ∈ c, x < i) ∧ δ = [some x, some (.str (wS c)), some (.int (2 + 3 * (v : Int))), a]) ⟨rfl, [], _, .nil, by simp, rfl⟩ ?_ ?_⟩
  · rintro i z δ' M pre P' hz ⟨rfl, c, a, asc, lt, rfl⟩ hP
    obtain ⟨hi, rfl⟩ := rgx hz
    have hcl := asc_len asc lt 0 fun _ _ => Nat.zero_le _
    subst t1
    simp (config := {failIfUnchanged := false}) only [dC, dOp, dTest, dChain, dAnd, dOr, dNot, dAndV, dOrV, dNotV, dIf, dNil, dCons, dTup, dLst, dCB, d1, dNoPart, dPart, dSl, dCut, dNeg, dSorted, dSum, dAll, dAny, dInt, dAbs, dMax, dMin, dIsi, isT, dNext, dSeq, dBrk, dCont, dNever, dExpr, dRet, dRetN, dIfS, dAsg, dPutI, dI0, dI, dIsN, dNotN, dRng1, dRng2, dRngDn, dZipI, dYes, dCall, dLM, dAppend, dExtend, dReverse, dInsert, dAugI, dRg1, dRg2, dTupRg, dLstRg, dNewK, dNewT, ↓S0_, ↓S1_, ↓S2_, ↓S3_, ↓S4_, ↓S5_, ↓S6_, List.map_cons, List.map_nil, List.length_cons, List.length_nil, List.replicate, List.cons_append, List.nil_append, Nat.reduceAdd, Nat.reduceSub, Nat.zero_add, List.getElem?_cons_zero, List.getElem?_cons_succ, Option.some.injEq, exists_eq_left, exists_eq_left', List.set_cons_zero, List.set_cons_succ, wipeD, D.int.injEq, D.bl.injEq, D.str.injEq, D.ref.injEq, D.tup.injEq, D.ty.injEq, true_and, and_true, forall_const, forall_eq', forall_eq, mt_int, mt_bool, mt_str, mt_tuple, mt_list, mt_dict, st_int_int, st_int_bool, st_int_str, st_int_tuple, st_int_list, st_int_dict, st_bool_int, st_bool_bool, st_bool_str, st_bool_tuple, st_bool_list, st_bool_dict, st_str_int, st_str_bool, st_str_str, st_str_tuple, st_str_list, st_str_dict, st_tuple_int, st_tuple_bool, st_tuple_str, st_tuple_tuple, st_tuple_list, st_tuple_dict, st_list_int, st_list_bool, st_list_str, st_list_tuple, st_list_list, st_list_dict, st_dict_int, st_dict_bool, st_dict_str, st_dict_tuple, st_dict_list, st_dict_dict, eq_self, Bool.true_eq_false, Bool.false_eq_true, false_implies, true_implies, implies_true, decide_eq_true_eq, decide_eq_false_iff_not, Bool.not_true, Bool.not_false, Bool.not_eq_true, Bool.not_eq_false, Bool.not_eq_true', Bool.not_eq_false', not_true_eq_false, not_false_eq_true, false_and, and_false, or_false, false_or, reduceCtorEq, ↓exLSu, ↓exDKu, ↓exDKd, ↓exLSd, ↓exLu, ↓dIxRu, ↓dPutu, ↓dGetAu, ↓dEq_int, ↓dNe_int, ↓dEq_bl, ↓dNe_bl, ↓dEq_str, ↓dNe_str, ↓dAdd_int, ↓exAt10, ↓exIx10, ↓exAt20, ↓exIx20, ↓exAt21, ↓exIx21, ↓exAt30, ↓exIx30, ↓exAt31, ↓exIx31, ↓exAt32, ↓exIx32, ↓exAt40, ↓exIx40, ↓exAt41, ↓exIx41, ↓exAt42, ↓exIx42, ↓exAt43, ↓exIx43, ↓exAt50, ↓exIx50, ↓exAt51, ↓exIx51, ↓exAt52, ↓exIx52, ↓exAt53, ↓exIx53, ↓exAt54, ↓exIx54, ↓exAt60, ↓exIx60, ↓exAt61, ↓exIx61, ↓exAt62, ↓exIx62, ↓exAt63, ↓exIx63, ↓exAt64, ↓exIx64, ↓exAt65, ↓exIx65, up_up, false_or, or_false, ↓exAtM, ↓dFlag_bl, ↓exBl, ↓exInt, ↓exRef, ↓dVar0, ↓dAug0, ↓dSet0, ↓dTgN0, ↓dTgW0, ↓dVar1, ↓dAug1, ↓dSet1, ↓dTgN1, ↓dTgW1, ↓dVar2, ↓dAug2, ↓dSet2, ↓dTgN2, ↓dTgW2, ↓dVar3, ↓dAug3, ↓dSet3, ↓dTgN3, ↓dTgW3, ↓dVar4, ↓dAug4, ↓dSet4, ↓dTgN4, ↓dTgW4, ↓dVar5, ↓dAug5, ↓dSet5, ↓dTgN5, ↓dTgW5, ↓dVar6, ↓dAug6, ↓dSet6, ↓dTgN6, ↓dTgW6, ↓dVar7, ↓dAug7, ↓dSet7, ↓dTgN7, ↓dTgW7, ↓dVar8, ↓dAug8, ↓dSet8, ↓dTgN8, ↓dTgW8, ↓dVar9, ↓dAug9, ↓dSet9, ↓dTgN9, ↓dTgW9, ↓dVar10, ↓dAug10, ↓dSet10, ↓dTgN10, ↓dTgW10, ↓dVar11, ↓dAug11, ↓dSet11, ↓dTgN11, ↓dTgW11, ↓dVar12, ↓dAug12, ↓dSet12, ↓dTgN12, ↓dTgW12, ↓dVar13, ↓dAug13, ↓dSet13, ↓dTgN13, ↓dTgW13, ↓dVar14, ↓dAug14, ↓dSet14, ↓dTgN14, ↓dTgW14, ↓dVar15, ↓dAug15, ↓dSet15, ↓dTgN15, ↓dTgW15, ↓dVar16, ↓dAug16, ↓dSet16, ↓dTgN16, ↓dTgW16, ↓dVar17, ↓dAug17, ↓dSet17, ↓dTgN17, ↓dTgW17, ↓dVar18, ↓dAug18, ↓dSet18, ↓dTgN18, ↓dTgW18, ↓dVar19, ↓dAug19, ↓dSet19, ↓dTgN19, ↓dTgW19, ↓dTg_t2, ↓dTg_t3, ↓exGetM, ↓exSumU, nD, plD, rwD, ↓dAdd_tup, ↓dAdd_ref, dIx_tup, dIx_str, dIx_ref, dIx_kl, dListOf_tup, dListOf_kl, dListOf_ref, dLen_tup, dLen_str, dLen_kl, dLen_ref, dTupOf_tup, dTupOf_ref, dSeqI_x, sqX_tup, sqX_ref, sqX_str, dEnumI_x, enX_tup, enX_ref, dRevA, dRevD, dSIndex, dLtS, dUpper, dListS, dDisp1, dRevT, dInS, dSortA, dIsi2, isT2, Bool.or_true, Bool.true_or, Bool.or_false, Bool.or_self, dCallX, dRaise, dTryO, dTryA, dRaise1, dExF, dCls, dIsX, ↓exOne, WD0, ↓X0_, ↓X1_, ↓X2_, ↓X3_]
    refine ⟨2 + 3 * v, by omega, hp, by omega, by omega, fun u hu => ⟨fun _ => ⟨_, by decide, atI_nat (L26_at hi), show _ ≤ _ ∧ _ from ⟨?_, ?_⟩⟩, fun _ => sb0 (hP _ _ ⟨rfl, c, _, asc, fun x hx => Nat.lt_succ_of_lt (lt x hx), rfl⟩)⟩⟩
    · rw [wS_len31]
      exact small_es (show c.length + 1 ≤ 1000 by omega)
    · rw [wS_sn31]
      refine sb0 (hP _ _ ⟨rfl, c ++ [i], _, List.pairwise_append.mpr ⟨asc, List.pairwise_singleton _ _, fun x hx y hy => ?_⟩, fun x hx => ?_, rfl⟩)
      · rw [List.mem_singleton] at hy
        rw [hy]
        exact lt x hx
      · rcases List.mem_append.mp hx with y | y
        · exact Nat.lt_succ_of_lt (lt x y)
        · rw [List.mem_singleton] at y
          omega
  · rintro δ' M ⟨rfl, c, a, asc, lt, rfl⟩
    rw [rg_len] at lt
    rw [h1]
    simp (config := {failIfUnchanged := false}) only [dC, dOp, dTest, dChain, dAnd, dOr, dNot, dAndV, dOrV, dNotV, dIf, dNil, dCons, dTup, dLst, dCB, d1, dNoPart, dPart, dSl, dCut, dNeg, dSorted, dSum, dAll, dAny, dInt, dAbs, dMax, dMin, dIsi, isT, dNext, dSeq, dBrk, dCont, dNever, dExpr, dRet, dRetN, dIfS, dAsg, dPutI, dI0, dI, dIsN, dNotN, dRng1, dRng2, dRngDn, dZipI, dYes, dCall, dLM, dAppend, dExtend, dReverse, dInsert, dAugI, dRg1, dRg2, dTupRg, dLstRg, dNewK, dNewT, ↓S0_, ↓S1_, ↓S2_, ↓S3_, ↓S4_, ↓S5_, ↓S6_, List.map_cons, List.map_nil, List.length_cons, List.length_nil, List.replicate, List.cons_append, List.nil_append, Nat.reduceAdd, Nat.reduceSub, Nat.zero_add, List.getElem?_cons_zero, List.getElem?_cons_succ, Option.some.injEq, exists_eq_left, exists_eq_left', List.set_cons_zero, List.set_cons_succ, wipeD, D.int.injEq, D.bl.injEq, D.str.injEq, D.ref.injEq, D.tup.injEq, D.ty.injEq, true_and, and_true, forall_const, forall_eq', forall_eq, mt_int, mt_bool, mt_str, mt_tuple, mt_list, mt_dict, st_int_int, st_int_bool, st_int_str, st_int_tuple, st_int_list, st_int_dict, st_bool_int, st_bool_bool, st_bool_str, st_bool_tuple, st_bool_list, st_bool_dict, st_str_int, st_str_bool, st_str_str, st_str_tuple, st_str_list, st_str_dict, st_tuple_int, st_tuple_bool, st_tuple_str, st_tuple_tuple, st_tuple_list, st_tuple_dict, st_list_int, st_list_bool, st_list_str, st_list_tuple, st_list_list, st_list_dict, st_dict_int, st_dict_bool, st_dict_str, st_dict_tuple, st_dict_list, st_dict_dict, eq_self, Bool.true_eq_false, Bool.false_eq_true, false_implies, true_implies, implies_true, decide_eq_true_eq, decide_eq_false_iff_not, Bool.not_true, Bool.not_false, Bool.not_eq_true, Bool.not_eq_false, Bool.not_eq_true', Bool.not_eq_false', not_true_eq_false, not_false_eq_true, false_and, and_false, or_false, false_or, reduceCtorEq, ↓exLSu, ↓exDKu, ↓exDKd, ↓exLSd, ↓exLu, ↓dIxRu, ↓dPutu, ↓dGetAu, ↓dEq_int, ↓dNe_int, ↓dEq_bl, ↓dNe_bl, ↓dEq_str, ↓dNe_str, ↓dAdd_int, ↓exAt10, ↓exIx10, ↓exAt20, ↓exIx20, ↓exAt21, ↓exIx21, ↓exAt30, ↓exIx30, ↓exAt31, ↓exIx31, ↓exAt32, ↓exIx32, ↓exAt40, ↓exIx40, ↓exAt41, ↓exIx41, ↓exAt42, ↓exIx42, ↓exAt43, ↓exIx43, ↓exAt50, ↓exIx50, ↓exAt51, ↓exIx51, ↓exAt52, ↓exIx52, ↓exAt53, ↓exIx53, ↓exAt54, ↓exIx54, ↓exAt60, ↓exIx60, ↓exAt61, ↓exIx61, ↓exAt62, ↓exIx62, ↓exAt63, ↓exIx63, ↓exAt64, ↓exIx64, ↓exAt65, ↓exIx65, up_up, false_or, or_false, ↓exAtM, ↓dFlag_bl, ↓exBl, ↓exInt, ↓exRef, ↓dVar0, ↓dAug0, ↓dSet0, ↓dTgN0, ↓dTgW0, ↓dVar1, ↓dAug1, ↓dSet1, ↓dTgN1, ↓dTgW1, ↓dVar2, ↓dAug2, ↓dSet2, ↓dTgN2, ↓dTgW2, ↓dVar3, ↓dAug3, ↓dSet3, ↓dTgN3, ↓dTgW3, ↓dVar4, ↓dAug4, ↓dSet4, ↓dTgN4, ↓dTgW4, ↓dVar5, ↓dAug5, ↓dSet5, ↓dTgN5, ↓dTgW5, ↓dVar6, ↓dAug6, ↓dSet6, ↓dTgN6, ↓dTgW6, ↓dVar7, ↓dAug7, ↓dSet7, ↓dTgN7, ↓dTgW7, ↓dVar8, ↓dAug8, ↓dSet8, ↓dTgN8, ↓dTgW8, ↓dVar9, ↓dAug9, ↓dSet9, ↓dTgN9, ↓dTgW9, ↓dVar10, ↓dAug10, ↓dSet10, ↓dTgN10, ↓dTgW10, ↓dVar11, ↓dAug11, ↓dSet11, ↓dTgN11, ↓dTgW11, ↓dVar12, ↓dAug12, ↓dSet12, ↓dTgN12, ↓dTgW12, ↓dVar13, ↓dAug13, ↓dSet13, ↓dTgN13, ↓dTgW13, ↓dVar14, ↓dAug14, ↓dSet14, ↓dTgN14, ↓dTgW14, ↓dVar15, ↓dAug15, ↓dSet15, ↓dTgN15, ↓dTgW15, ↓dVar16, ↓dAug16, ↓dSet16, ↓dTgN16, ↓dTgW16, ↓dVar17, ↓dAug17, ↓dSet17, ↓dTgN17, ↓dTgW17, ↓dVar18, ↓dAug18, ↓dSet18, ↓dTgN18, ↓dTgW18, ↓dVar19, ↓dAug19, ↓dSet19, ↓dTgN19, ↓dTgW19, ↓dTg_t2, ↓dTg_t3, ↓exGetM, ↓exSumU, nD, plD, rwD, ↓dAdd_tup, ↓dAdd_ref, dIx_tup, dIx_str, dIx_ref, dIx_kl, dListOf_tup, dListOf_kl, dListOf_ref, dLen_tup, dLen_str, dLen_kl, dLen_ref, dTupOf_tup, dTupOf_ref, dSeqI_x, sqX_tup, sqX_ref, sqX_str, dEnumI_x, enX_tup, enX_ref, dRevA, dRevD, dSIndex, dLtS, dUpper, dListS, dDisp1, dRevT, dInS, dSortA, dIsi2, isT2, Bool.or_true, Bool.true_or, Bool.or_false, Bool.or_self, dCallX, dRaise, dTryO, dTryA, dRaise1, dExF, dCls, dIsX, ↓exOne, WD0, ↓X0_, ↓X1_, ↓X2_, ↓X3_]
    refine ⟨fun ne => dn0 (h c ⟨?_, asc, lt⟩), fun _ => ⟨26, rfl, hp, by omega, by omega, fun u hu => ⟨_, by decide, atI_nat (L26_at hu), dn0 (h [u] ⟨by simp, List.pairwise_singleton _ _, fun x hx => ?_⟩)⟩⟩⟩
    · rintro rfl
      exact ne rfl
    · rw [List.mem_singleton] at hx
      omega
theorem pr__law_next (G : Gv K mg) : Pr P w K mg base "_law_next" 3 ["_law_state_here", "_law_things"] (S2 fun x y M Q => ∃ (f : Addr) (T : List (List Nat)), y = .ref f ∧ Pool M x ∧ M f = some (.lst (T.map wD)) ∧ T.length ≤ 1000 ∧ (∀ t ∈ T, Fal t) ∧ ∀ c, Fal c → Q (wD c) M) := by
  refine (pr3 (k := 2) G.d__law_next bi__law_next sc__law_next S2n (fun f cdv A outer s H E hr => (b_cons (s_set 2 sc__law_next.nd (e_callP (pr__law_draw G) (hr.mono (by decide)) (by rfl) pass0 (a_cons (e_var 0) (a_cons e_int a_nil))))
      (b_cons (s_if (PW3.pt (w_or (t_cmp od_lt (e_var 2) e_int) (w_or1 (t_cmp (od_eq (hu3 hr)) (e_callB cd_len (by rfl) G.b_len rfl (a_cons (e_var 1) a_nil)) e_int)))) (b_one (s_ret (e_callP (pr__law_falling G) (hr.mono (by decide)) (by rfl) pass0 (a_cons (e_var 0) a_nil)))) b_nil)
      (b_cut (s_set 3 sc__law_next.nd (e_ix (ixd (hu_of hr)) (e_var 1) (e_callP (pr__law_draw G) (hr.mono (by decide)) (by rfl) pass0 (a_cons (e_var 0) (a_cons (e_callB cd_len (by rfl) G.b_len rfl (a_cons (e_var 1) a_nil)) a_nil)))))
      (b_cons (s_if (t_cmp (od_eq (hu3 hr)) (e_var 2) e_int) (b_one (s_ret (e_slice slD (e_var 3) o_none (o_some (e_op od_add e_int (e_callP (pr__law_draw G) (hr.mono (by decide)) (by rfl) pass0 (a_cons (e_var 0) (a_cons (e_callB cd_len (by rfl) G.b_len rfl (a_cons (e_var 3) a_nil)) a_nil)))))))) b_nil)
      (b_cons (s_setLc 4 (own := [("_law_letter", 5)]) rfl sc__law_next.nd (sw_true rfl rfl rfl (by decide +kernel)) (i_seq e_str) (blkOk_by (by rfl)) (fun _ _ _ _ _ => (g_nm 5 sc__law_next.nd)) (fun _ _ _ _ _ => (ts_one (t_cmp od_ltS (e_var 5) (e_ix (ixd (hu_of hr)) (e_var 3) (e_neg e_int))))) (fun _ _ _ _ _ => (e_var 5)))
      (b_cons (s_if (t_cmp (od_eq (hu3 hr)) (e_callB cd_len (by rfl) G.b_len rfl (a_cons (e_var 4) a_nil)) e_int) (b_one (s_ret (e_var 3))) b_nil)
      (b_one (s_ret (e_op od_add (e_var 3) (e_ix (ixd (hu_of hr)) (e_var 4) (e_callP (pr__law_draw G) (hr.mono (by decide)) (by rfl) pass0 (a_cons (e_var 0) (a_cons (e_callB cd_len (by rfl) G.b_len rfl (a_cons (e_var 4) a_nil)) a_nil))))))))))))))) ?_
  rintro _ M Q E ⟨x, _, rfl, f, T, rfl, hp, hf, hl, hF, h⟩ H rep
  refine ⟨M, rep, fun _ h => h, ?_⟩
  simp only [startD, List.map_cons, List.map_nil, List.length_cons, List.length_nil, Nat.reduceAdd, Nat.reduceSub, Nat.zero_add, List.replicate, List.cons_append, List.nil_append]; simp (config := {failIfUnchanged := false}) only [dC, dOp, dTest, dChain, dAnd, dOr, dNot, dAndV, dOrV, dNotV, dIf, dNil, dCons, dTup, dLst, dCB, d1, dNoPart, dPart, dSl, dCut, dNeg, dSorted, dSum, dAll, dAny, dInt, dAbs, dMax, dMin, dIsi, isT, dNext, dSeq, dBrk, dCont, dNever, dExpr, dRet, dRetN, dIfS, dAsg, dPutI, dI0, dI, dIsN, dNotN, dRng1, dRng2, dRngDn, dZipI, dYes, dCall, dLM, dAppend, dExtend, dReverse, dInsert, dAugI, dRg1, dRg2, dTupRg, dLstRg, dNewK, dNewT, ↓S0_, ↓S1_, ↓S2_, ↓S3_, ↓S4_, ↓S5_, ↓S6_, List.map_cons, List.map_nil, List.length_cons, List.length_nil, List.replicate, List.cons_append, List.nil_append, Nat.reduceAdd, Nat.reduceSub, Nat.zero_add, List.getElem?_cons_zero, List.getElem?_cons_succ, Option.some.injEq, exists_eq_left, exists_eq_left', List.set_cons_zero, List.set_cons_succ, wipeD, D.int.injEq, D.bl.injEq, D.str.injEq, D.ref.injEq, D.tup.injEq, D.ty.injEq, true_and, and_true, forall_const, forall_eq', forall_eq, mt_int, mt_bool, mt_str, mt_tuple, mt_list, mt_dict, st_int_int, st_int_bool, st_int_str, st_int_tuple, st_int_list, st_int_dict, st_bool_int, st_bool_bool, st_bool_str, st_bool_tuple, st_bool_list, st_bool_dict, st_str_int, st_str_bool, st_str_str, st_str_tuple, st_str_list, st_str_dict, st_tuple_int, st_tuple_bool, st_tuple_str, st_tuple_tuple, st_tuple_list, st_tuple_dict, st_list_int, st_list_bool, st_list_str, st_list_tuple, st_list_list, st_list_dict, st_dict_int, st_dict_bool, st_dict_str, st_dict_tuple, st_dict_list, st_dict_dict, eq_self, Bool.true_eq_false, Bool.false_eq_true, false_implies, true_implies, implies_true, decide_eq_true_eq, decide_eq_false_iff_not, Bool.not_true, Bool.not_false, Bool.not_eq_true, Bool.not_eq_false, Bool.not_eq_true', Bool.not_eq_false', not_true_eq_false, not_false_eq_true, false_and, and_false, or_false, false_or, reduceCtorEq, ↓exLSu, ↓exDKu, ↓exDKd, ↓exLSd, ↓exLu, ↓dIxRu, ↓dPutu, ↓dGetAu, ↓dEq_int, ↓dNe_int, ↓dEq_bl, ↓dNe_bl, ↓dEq_str, ↓dNe_str, ↓dAdd_int, ↓exAt10, ↓exIx10, ↓exAt20, ↓exIx20, ↓exAt21, ↓exIx21, ↓exAt30, ↓exIx30, ↓exAt31, ↓exIx31, ↓exAt32, ↓exIx32, ↓exAt40, ↓exIx40, ↓exAt41, ↓exIx41, ↓exAt42, ↓exIx42, ↓exAt43, ↓exIx43, ↓exAt50, ↓exIx50, ↓exAt51, ↓exIx51, ↓exAt52, ↓exIx52, ↓exAt53, ↓exIx53, ↓exAt54, ↓exIx54, ↓exAt60, ↓exIx60, ↓exAt61, ↓exIx61, ↓exAt62, ↓exIx62, ↓exAt63, ↓exIx63, ↓exAt64, ↓exIx64, ↓exAt65, ↓exIx65, up_up, false_or, or_false, ↓exAtM, ↓dFlag_bl, ↓exBl, ↓exInt, ↓exRef, ↓dVar0, ↓dAug0, ↓dSet0, ↓dTgN0, ↓dTgW0, ↓dVar1, ↓dAug1, ↓dSet1, ↓dTgN1, ↓dTgW1, ↓dVar2, ↓dAug2, ↓dSet2, ↓dTgN2, ↓dTgW2, ↓dVar3, ↓dAug3, ↓dSet3, ↓dTgN3, ↓dTgW3, ↓dVar4, ↓dAug4, ↓dSet4, ↓dTgN4, ↓dTgW4, ↓dVar5, ↓dAug5, ↓dSet5, ↓dTgN5, ↓dTgW5, ↓dVar6, ↓dAug6, ↓dSet6, ↓dTgN6, ↓dTgW6, ↓dVar7, ↓dAug7, ↓dSet7, ↓dTgN7, ↓dTgW7, ↓dVar8, ↓dAug8, ↓dSet8, ↓dTgN8, ↓dTgW8, ↓dVar9, ↓dAug9, ↓dSet9, ↓dTgN9, ↓dTgW9, ↓dVar10, ↓dAug10, ↓dSet10, ↓dTgN10, ↓dTgW10, ↓dVar11, ↓dAug11, ↓dSet11, ↓dTgN11, ↓dTgW11, ↓dVar12, ↓dAug12, ↓dSet12, ↓dTgN12, ↓dTgW12, ↓dVar13, ↓dAug13, ↓dSet13, ↓dTgN13, ↓dTgW13, ↓dVar14, ↓dAug14, ↓dSet14, ↓dTgN14, ↓dTgW14, ↓dVar15, ↓dAug15, ↓dSet15, ↓dTgN15, ↓dTgW15, ↓dVar16, ↓dAug16, ↓dSet16, ↓dTgN16, ↓dTgW16, ↓dVar17, ↓dAug17, ↓dSet17, ↓dTgN17, ↓dTgW17, ↓dVar18, ↓dAug18, ↓dSet18, ↓dTgN18, ↓dTgW18, ↓dVar19, ↓dAug19, ↓dSet19, ↓dTgN19, ↓dTgW19, ↓dTg_t2, ↓dTg_t3, ↓exGetM, ↓exSumU, nD, plD, rwD, ↓dAdd_tup, ↓dAdd_ref, dIx_tup, dIx_str, dIx_ref, dIx_kl, dListOf_tup, dListOf_kl, dListOf_ref, dLen_tup, dLen_str, dLen_kl, dLen_ref, dTupOf_tup, dTupOf_ref, dSeqI_x, sqX_tup, sqX_ref, sqX_str, dEnumI_x, enX_tup, enX_ref, dRevA, dRevD, dSIndex, dLtS, dUpper, dListS, dDisp1, dRevT, dInS, dSortA, dIsi2, isT2, Bool.or_true, Bool.true_or, Bool.or_false, Bool.or_self, dCallX, dRaise, dTryO, dTryA, dRaise1, dExF, dCls, dIsX, ↓exOne, WD0, ↓X0_, ↓X1_, ↓X2_, ↓X3_]
  refine ⟨4, rfl, hp, by omega, by omega, fun v hv => ?_⟩
  have fin : Pool M x ∧ ∀ c, Fal c → ∃ M2, Fgt K M M2 ∧ Q (wD c) M2 := ⟨hp, fun c hc => dn0 (h c hc)⟩
  simp only [dCutS, dC, dOp, dTest, dChain, dAnd, dOr, dNot, dAndV, dOrV, dNotV, dIf, dNil, dCons, dTup, dLst, dCB, d1, dNoPart, dPart, dSl, dCut, dNeg, dSorted, dSum, dAll, dAny, dInt, dAbs, dMax, dMin, dIsi, isT, dNext, dSeq, dBrk, dCont, dNever, dExpr, dRet, dRetN, dIfS, dAsg, dPutI, dI0, dI, dIsN, dNotN, dRng1, dRng2, dRngDn, dZipI, dYes, dCall, dLM, dAppend, dExtend, dReverse, dInsert, dAugI, dRg1, dRg2, dTupRg, dLstRg, dNewK, dNewT, ↓S0_, ↓S1_, ↓S2_, ↓S3_, ↓S4_, ↓S5_, ↓S6_, List.map_cons, List.map_nil, List.length_cons, List.length_nil, List.replicate, List.cons_append, List.nil_append, Nat.reduceAdd, Nat.reduceSub, Nat.zero_add, List.getElem?_cons_zero, List.getElem?_cons_succ, Option.some.injEq, exists_eq_left, exists_eq_left', List.set_cons_zero, List.set_cons_succ, wipeD, D.int.injEq, D.bl.injEq, D.str.injEq, D.ref.injEq, D.tup.injEq, D.ty.injEq, true_and, and_true, forall_const, forall_eq', forall_eq, mt_int, mt_bool, mt_str, mt_tuple, mt_list, mt_dict, st_int_int, st_int_bool, st_int_str, st_int_tuple, st_int_list, st_int_dict, st_bool_int, st_bool_bool, st_bool_str, st_bool_tuple, st_bool_list, st_bool_dict, st_str_int, st_str_bool, st_str_str, st_str_tuple, st_str_list, st_str_dict, st_tuple_int, st_tuple_bool, st_tuple_str, st_tuple_tuple, st_tuple_list, st_tuple_dict, st_list_int, st_list_bool, st_list_str, st_list_tuple, st_list_list, st_list_dict, st_dict_int, st_dict_bool, st_dict_str, st_dict_tuple, st_dict_list, st_dict_dict, eq_self, Bool.true_eq_false, Bool.false_eq_true, false_implies, true_implies, implies_true, decide_eq_true_eq, decide_eq_false_iff_not, Bool.not_true, Bool.not_false, Bool.not_eq_true, Bool.not_eq_false, Bool.not_eq_true', Bool.not_eq_false', not_true_eq_false, not_false_eq_true, false_and, and_false, or_false, false_or, reduceCtorEq, ↓exLSu, ↓exDKu, ↓exDKd, ↓exLSd, ↓exLu, ↓dIxRu, ↓dPutu, ↓dGetAu, ↓dEq_int, ↓dNe_int, ↓dEq_bl, ↓dNe_bl, ↓dEq_str, ↓dNe_str, ↓dAdd_int, ↓exAt10, ↓exIx10, ↓exAt20, ↓exIx20, ↓exAt21, ↓exIx21, ↓exAt30, ↓exIx30, ↓exAt31, ↓exIx31, ↓exAt32, ↓exIx32, ↓exAt40, ↓exIx40, ↓exAt41, ↓exIx41, ↓exAt42, ↓exIx42, ↓exAt43, ↓exIx43, ↓exAt50, ↓exIx50, ↓exAt51, ↓exIx51, ↓exAt52, ↓exIx52, ↓exAt53, ↓exIx53, ↓exAt54, ↓exIx54, ↓exAt60, ↓exIx60, ↓exAt61, ↓exIx61, ↓exAt62, ↓exIx62, ↓exAt63, ↓exIx63, ↓exAt64, ↓exIx64, ↓exAt65, ↓exIx65, up_up, false_or, or_false, ↓exAtM, ↓dFlag_bl, ↓exBl, ↓exInt, ↓exRef, ↓dVar0, ↓dAug0, ↓dSet0, ↓dTgN0, ↓dTgW0, ↓dVar1, ↓dAug1, ↓dSet1, ↓dTgN1, ↓dTgW1, ↓dVar2, ↓dAug2, ↓dSet2, ↓dTgN2, ↓dTgW2, ↓dVar3, ↓dAug3, ↓dSet3, ↓dTgN3, ↓dTgW3, ↓dVar4, ↓dAug4, ↓dSet4, ↓dTgN4, ↓dTgW4, ↓dVar5, ↓dAug5, ↓dSet5, ↓dTgN5, ↓dTgW5, ↓dVar6, ↓dAug6, ↓dSet6, ↓dTgN6, ↓dTgW6, ↓dVar7, ↓dAug7, ↓dSet7, ↓dTgN7, ↓dTgW7, ↓dVar8, ↓dAug8, ↓dSet8, ↓dTgN8, ↓dTgW8, ↓dVar9, ↓dAug9, ↓dSet9, ↓dTgN9, ↓dTgW9, ↓dVar10, ↓dAug10, ↓dSet10, ↓dTgN10, ↓dTgW10, ↓dVar11, ↓dAug11, ↓dSet11, ↓dTgN11, ↓dTgW11, ↓dVar12, ↓dAug12, ↓dSet12, ↓dTgN12, ↓dTgW12, ↓dVar13, ↓dAug13, ↓dSet13, ↓dTgN13, ↓dTgW13, ↓dVar14, ↓dAug14, ↓dSet14, ↓dTgN14, ↓dTgW14, ↓dVar15, ↓dAug15, ↓dSet15, ↓dTgN15, ↓dTgW15, ↓dVar16, ↓dAug16, ↓dSet16, ↓dTgN16, ↓dTgW16, ↓dVar17, ↓dAug17, ↓dSet17, ↓dTgN17, ↓dTgW17, ↓dVar18, ↓dAug18, ↓dSet18, ↓dTgN18, ↓dTgW18, ↓dVar19, ↓dAug19, ↓dSet19, ↓dTgN19, ↓dTgW19, ↓dTg_t2, ↓dTg_t3, ↓exGetM, ↓exSumU, nD, plD, rwD, ↓dAdd_tup, ↓dAdd_ref, dIx_tup, dIx_str, dIx_ref, dIx_kl, dListOf_tup, dListOf_kl, dListOf_ref, dLen_tup, dLen_str, dLen_kl, dLen_ref, dTupOf_tup, dTupOf_ref, dSeqI_x, sqX_tup, sqX_ref, sqX_str, dEnumI_x, enX_tup, enX_ref, dRevA, dRevD, dSIndex, dLtS, dUpper, dListS, dDisp1, dRevT, dInS, dSortA, dIsi2, isT2, Bool.or_true, Bool.true_or, Bool.or_false, Bool.or_self, dCallX, dRaise, dTryO, dTryA, dRaise1, dExF, dCls, dIsX, ↓exOne, WD0, ↓X0_, ↓X1_, ↓X2_, ↓X3_, ↓exLS hf, ↓exDKh hf, ↓dIxRh hf, or_false]
  refine ⟨fun _ => fin, fun hv2 => ⟨fun _ => fin, fun hne => ⟨fun δ M' => M' = M ∧ ∃ t, Fal t ∧ δ = [some x, some (.ref f), some (nD v), some (wD t), none, none], ?_, ?_⟩⟩⟩
  · rw [List.length_map] at hne ⊢
    refine ⟨T.length, rfl, hp, by omega, by omega, fun u hu => ?_⟩
    have hz : (T.map wD)[u]? = some (wD T[u]) := by rw [List.getElem?_map, List.getElem?_eq_getElem hu]; rfl
    exact ⟨_, atI_nat (List.getElem?_eq_getElem hu), rfl, _, hF _ (List.getElem_mem hu), rfl⟩
  rintro δ M ⟨rfl, t, ft, rfl⟩
  have tp := ft.pos
  have tl := ft.len
  have ls : (wS t).length ≤ sizeLine := small_es (by rw [wS_len31]; omega)
  simp (config := {failIfUnchanged := false}) only [dC, dOp, dTest, dChain, dAnd, dOr, dNot, dAndV, dOrV, dNotV, dIf, dNil, dCons, dTup, dLst, dCB, d1, dNoPart, dPart, dSl, dCut, dNeg, dSorted, dSum, dAll, dAny, dInt, dAbs, dMax, dMin, dIsi, isT, dNext, dSeq, dBrk, dCont, dNever, dExpr, dRet, dRetN, dIfS, dAsg, dPutI, dI0, dI, dIsN, dNotN, dRng1, dRng2, dRngDn, dZipI, dYes, dCall, dLM, dAppend, dExtend, dReverse, dInsert, dAugI, dRg1, dRg2, dTupRg, dLstRg, dNewK, dNewT, ↓S0_, ↓S1_, ↓S2_, ↓S3_, ↓S4_, ↓S5_, ↓S6_, List.map_cons, List.map_nil, List.length_cons, List.length_nil, List.replicate, List.cons_append, List.nil_append, Nat.reduceAdd, Nat.reduceSub, Nat.zero_add, List.getElem?_cons_zero, List.getElem?_cons_succ, Option.some.injEq, exists_eq_left, exists_eq_left', List.set_cons_zero, List.set_cons_succ, wipeD, D.int.injEq, D.bl.injEq, D.str.injEq, D.ref.injEq, D.tup.injEq, D.ty.injEq, true_and, and_true, forall_const, forall_eq', forall_eq, mt_int, mt_bool, mt_str, mt_tuple, mt_list, mt_dict, st_int_int, st_int_bool, st_int_str, st_int_tuple, st_int_list, st_int_dict, st_bool_int, st_bool_bool, st_bool_str, st_bool_tuple, st_bool_list, st_bool_dict, st_str_int, st_str_bool, st_str_str, st_str_tuple, st_str_list, st_str_dict, st_tuple_int, st_tuple_bool, st_tuple_str, st_tuple_tuple, st_tuple_list, st_tuple_dict, st_list_int, st_list_bool, st_list_str, st_list_tuple, st_list_list, st_list_dict, st_dict_int, st_dict_bool, st_dict_str, st_dict_tuple, st_dict_list, st_dict_dict, eq_self, Bool.true_eq_false, Bool.false_eq_true, false_implies, true_implies, implies_true, decide_eq_true_eq, decide_eq_false_iff_not, Bool.not_true, Bool.not_false, Bool.not_eq_true, Bool.not_eq_false, Bool.not_eq_true', Bool.not_eq_false', not_true_eq_false, not_false_eq_true, false_and, and_false, or_false, false_or, reduceCtorEq, ↓exLSu, ↓exDKu, ↓exDKd, ↓exLSd, ↓exLu, ↓dIxRu, ↓dPutu, ↓dGetAu, ↓dEq_int, ↓dNe_int, ↓dEq_bl, ↓dNe_bl, ↓dEq_str, ↓dNe_str, ↓dAdd_int, ↓exAt10, ↓exIx10, ↓exAt20, ↓exIx20, ↓exAt21, ↓exIx21, ↓exAt30, ↓exIx30, ↓exAt31, ↓exIx31, ↓exAt32, ↓exIx32, ↓exAt40, ↓exIx40, ↓exAt41, ↓exIx41, ↓exAt42, ↓exIx42, ↓exAt43, ↓exIx43, ↓exAt50, ↓exIx50, ↓exAt51, ↓exIx51, ↓exAt52, ↓exIx52, ↓exAt53, ↓exIx53, ↓exAt54, ↓exIx54, ↓exAt60, ↓exIx60, ↓exAt61, ↓exIx61, ↓exAt62, ↓exIx62, ↓exAt63, ↓exIx63, ↓exAt64, ↓exIx64, ↓exAt65, ↓exIx65, up_up, false_or, or_false, ↓exAtM, ↓dFlag_bl, ↓exBl, ↓exInt, ↓exRef, ↓dVar0, ↓dAug0, ↓dSet0, ↓dTgN0, ↓dTgW0, ↓dVar1, ↓dAug1, ↓dSet1, ↓dTgN1, ↓dTgW1, ↓dVar2, ↓dAug2, ↓dSet2, ↓dTgN2, ↓dTgW2, ↓dVar3, ↓dAug3, ↓dSet3, ↓dTgN3, ↓dTgW3, ↓dVar4, ↓dAug4, ↓dSet4, ↓dTgN4, ↓dTgW4, ↓dVar5, ↓dAug5, ↓dSet5, ↓dTgN5, ↓dTgW5, ↓dVar6, ↓dAug6, ↓dSet6, ↓dTgN6, ↓dTgW6, ↓dVar7, ↓dAug7, ↓dSet7, ↓dTgN7, ↓dTgW7, ↓dVar8, ↓dAug8, ↓dSet8, ↓dTgN8, ↓dTgW8, ↓dVar9, ↓dAug9, ↓dSet9, ↓dTgN9, ↓dTgW9, ↓dVar10, ↓dAug10, ↓dSet10, ↓dTgN10, ↓dTgW10, ↓dVar11, ↓dAug11, ↓dSet11, ↓dTgN11, ↓dTgW11, ↓dVar12, ↓dAug12, ↓dSet12, ↓dTgN12, ↓dTgW12, ↓dVar13, ↓dAug13, ↓dSet13, ↓dTgN13, ↓dTgW13, ↓dVar14, ↓dAug14, ↓dSet14, ↓dTgN14, ↓dTgW14, ↓dVar15, ↓dAug15, ↓dSet15, ↓dTgN15, ↓dTgW15, ↓dVar16, ↓dAug16, ↓dSet16, ↓dTgN16, ↓dTgW16, ↓dVar17, ↓dAug17, ↓dSet17, ↓dTgN17, ↓dTgW17, ↓dVar18, ↓dAug18, ↓dSet18, ↓dTgN18, ↓dTgW18, ↓dVar19, ↓dAug19, ↓dSet19, ↓dTgN19, ↓dTgW19, ↓dTg_t2, ↓dTg_t3, ↓exGetM, ↓exSumU, nD, plD, rwD, ↓dAdd_tup, ↓dAdd_ref, dIx_tup, dIx_str, dIx_ref, dIx_kl, dListOf_tup, dListOf_kl, dListOf_ref, dLen_tup, dLen_str, dLen_kl, dLen_ref, dTupOf_tup, dTupOf_ref, dSeqI_x, sqX_tup, sqX_ref, sqX_str, dEnumI_x, enX_tup, enX_ref, dRevA, dRevD, dSIndex, dLtS, dUpper, dListS, dDisp1, dRevT, dInS, dSortA, dIsi2, isT2, Bool.or_true, Bool.true_or, Bool.or_false, Bool.or_self, dCallX, dRaise, dTryO, dTryA, dRaise1, dExF, dCls, dIsX, ↓exOne, WD0, ↓X0_, ↓X1_, ↓X2_, ↓X3_, wD]
  refine ⟨fun _ => ⟨ls, t.length, by rw [wS_len31], hp, by omega, by omega, fun u hu => ⟨ls, ?_⟩⟩, fun _ => ?_⟩
  · rw [show (1 + (u : Int)) = ((u + 1 : Nat) : Int) by omega, cutW]
    exact dn0 (h _ (ft.take (by omega)))
  refine dLc_g fun F1 T1 U1 h1 t1 u1 => ?_; simp only [dLc, dC, dOp, dTest, dChain, dAnd, dOr, dNot, dAndV, dOrV, dNotV, dIf, dNil, dCons, dTup, dLst, dCB, d1, dNoPart, dPart, dSl, dCut, dNeg, dSorted, dSum, dAll, dAny, dInt, dAbs, dMax, dMin, dIsi, isT, dNext, dSeq, dBrk, dCont, dNever, dExpr, dRet, dRetN, dIfS, dAsg, dPutI, dI0, dI, dIsN, dNotN, dRng1, dRng2, dRngDn, dZipI, dYes, dCall, dLM, dAppend, dExtend, dReverse, dInsert, dAugI, dRg1, dRg2, dTupRg, dLstRg, dNewK, dNewT, ↓S0_, ↓S1_, ↓S2_, ↓S3_, ↓S4_, ↓S5_, ↓S6_, List.map_cons, List.map_nil, List.length_cons, List.length_nil, List.replicate, List.cons_append, List.nil_append, Nat.reduceAdd, Nat.reduceSub, Nat.zero_add, List.getElem?_cons_zero, List.getElem?_cons_succ, Option.some.injEq, exists_eq_left, exists_eq_left', List.set_cons_zero, List.set_cons_succ, wipeD, D.int.injEq, D.bl.injEq, D.str.injEq, D.ref.injEq, D.tup.injEq, D.ty.injEq, true_and, and_true, forall_const, forall_eq', forall_eq, mt_int, mt_bool, mt_str, mt_tuple, mt_list, mt_dict, st_int_int, st_int_bool, st_int_str, st_int_tuple, st_int_list, st_int_dict, st_bool_int, st_bool_bool, st_bool_str, st_bool_tuple, st_bool_list, st_bool_dict, st_str_int, st_str_bool, st_str_str, st_str_tuple, st_str_list, st_str_dict, st_tuple_int, st_tuple_bool, st_tuple_str, st_tuple_tuple, st_tuple_list, st_tuple_dict, st_list_int, st_list_bool, st_list_str, st_list_tuple, st_list_list, st_list_dict, st_dict_int, st_dict_bool, st_dict_str, st_dict_tuple, st_dict_list, st_dict_dict, eq_self, Bool.true_eq_false, Bool.false_eq_true, false_implies, true_implies, implies_true, decide_eq_true_eq, decide_eq_false_iff_not, Bool.not_true, Bool.not_false, Bool.not_eq_true, Bool.not_eq_false, Bool.not_eq_true', Bool.not_eq_false', not_true_eq_false, not_false_eq_true, false_and, and_false, or_false, false_or, reduceCtorEq, ↓exLSu, ↓exDKu, ↓exDKd, ↓exLSd, ↓exLu, ↓dIxRu, ↓dPutu, ↓dGetAu, ↓dEq_int, ↓dNe_int, ↓dEq_bl, ↓dNe_bl, ↓dEq_str, ↓dNe_str, ↓dAdd_int, ↓exAt10, ↓exIx10, ↓exAt20, ↓exIx20, ↓exAt21, ↓exIx21, ↓exAt30, ↓exIx30, ↓exAt31, ↓exIx31, ↓exAt32, ↓exIx32, ↓exAt40, ↓exIx40, ↓exAt41, ↓exIx41, ↓exAt42, ↓exIx42, ↓exAt43, ↓exIx43, ↓exAt50, ↓exIx50, ↓exAt51, ↓exIx51, ↓exAt52, ↓exIx52, ↓exAt53, ↓exIx53, ↓exAt54, ↓exIx54, ↓exAt60, ↓exIx60, ↓exAt61, ↓exIx61, ↓exAt62, ↓exIx62, ↓exAt63, ↓exIx63, ↓exAt64, ↓exIx64, ↓exAt65, ↓exIx65, up_up, false_or, or_false, ↓exAtM, ↓dFlag_bl, ↓exBl, ↓exInt, ↓exRef, ↓dVar0, ↓dAug0, ↓dSet0, ↓dTgN0, ↓dTgW0, ↓dVar1, ↓dAug1, ↓dSet1, ↓dTgN1, ↓dTgW1, ↓dVar2, ↓dAug2, ↓dSet2, ↓dTgN2, ↓dTgW2, ↓dVar3, ↓dAug3, ↓dSet3, ↓dTgN3, ↓dTgW3, ↓dVar4, ↓dAug4, ↓dSet4, ↓dTgN4, ↓dTgW4, ↓dVar5, ↓dAug5, ↓dSet5, ↓dTgN5, ↓dTgW5, ↓dVar6, ↓dAug6, ↓dSet6, ↓dTgN6, ↓dTgW6, ↓dVar7, ↓dAug7, ↓dSet7, ↓dTgN7, ↓dTgW7, ↓dVar8, ↓dAug8, ↓dSet8, ↓dTgN8, ↓dTgW8, ↓dVar9, ↓dAug9, ↓dSet9, ↓dTgN9, ↓dTgW9, ↓dVar10, ↓dAug10, ↓dSet10, ↓dTgN10, ↓dTgW10, ↓dVar11, ↓dAug11, ↓dSet11, ↓dTgN11, ↓dTgW11, ↓dVar12, ↓dAug12, ↓dSet12, ↓dTgN12, ↓dTgW12, ↓dVar13, ↓dAug13, ↓dSet13, ↓dTgN13, ↓dTgW13, ↓dVar14, ↓dAug14, ↓dSet14, ↓dTgN14, ↓dTgW14, ↓dVar15, ↓dAug15, ↓dSet15, ↓dTgN15, ↓dTgW15, ↓dVar16, ↓dAug16, ↓dSet16, ↓dTgN16, ↓dTgW16, ↓dVar17, ↓dAug17, ↓dSet17, ↓dTgN17, ↓dTgW17, ↓dVar18, ↓dAug18, ↓dSet18, ↓dTgN18, ↓dTgW18, ↓dVar19, ↓dAug19, ↓dSet19, ↓dTgN19, ↓dTgW19, ↓dTg_t2, ↓dTg_t3, ↓exGetM, ↓exSumU, nD, plD, rwD, ↓dAdd_tup, ↓dAdd_ref, dIx_tup, dIx_str, dIx_ref, dIx_kl, dListOf_tup, dListOf_kl, dListOf_ref, dLen_tup, dLen_str, dLen_kl, dLen_ref, dTupOf_tup, dTupOf_ref, dSeqI_x, sqX_tup, sqX_ref, sqX_str, dEnumI_x, enX_tup, enX_ref, dRevA, dRevD, dSIndex, dLtS, dUpper, dListS, dDisp1, dRevT, dInS, dSortA, dIsi2, isT2, Bool.or_true, Bool.true_or, Bool.or_false, Bool.or_self, dCallX, dRaise, dTryO, dTryA, dRaise1, dExF, dCls, dIsX, ↓exOne, WD0, ↓X0_, ↓X1_, ↓X2_, ↓X3_]
  have eL : (Str.ofString "zyxwvutsrqponmlkjihgfedcba").cps.toList.map (fun c => D.str ⟨#[c]⟩) = (List.range 26).map fun i => D.str ⟨#[122 - i]⟩ := by
    rw [show (Str.ofString "zyxwvutsrqponmlkjihgfedcba").cps.toList = (List.range 26).map fun i => 122 - i by decide +kernel, List.map_map]; rfl
  rw [eL]
  refine ⟨by rw [List.length_map, List.length_range]; decide, lcF (fun i : Nat => D.str ⟨#[122 - i]⟩) (fun i => D.str ⟨#[122 - i]⟩) (fun i => decide (t.getD (t.length - 1) 0 < i)) (List.range 26) rfl (fun l2 i t2' pre2 acc2 P2 e2 y1 y2 => ?_) (fun q hq => ?_)⟩
  · have hi : i < 26 := List.mem_range.mp (by rw [e2]; simp)
    have hlt := ft.lt (t.getD (t.length - 1) 0) (List.mem_of_getElem? (get_of31 (by omega)))
    subst t1; subst u1
    simp (config := {failIfUnchanged := false}) only [dC, dOp, dTest, dChain, dAnd, dOr, dNot, dAndV, dOrV, dNotV, dIf, dNil, dCons, dTup, dLst, dCB, d1, dNoPart, dPart, dSl, dCut, dNeg, dSorted, dSum, dAll, dAny, dInt, dAbs, dMax, dMin, dIsi, isT, dNext, dSeq, dBrk, dCont, dNever, dExpr, dRet, dRetN, dIfS, dAsg, dPutI, dI0, dI, dIsN, dNotN, dRng1, dRng2, dRngDn, dZipI, dYes, dCall, dLM, dAppend, dExtend, dReverse, dInsert, dAugI, dRg1, dRg2, dTupRg, dLstRg, dNewK, dNewT, ↓S0_, ↓S1_, ↓S2_, ↓S3_, ↓S4_, ↓S5_, ↓S6_, List.map_cons, List.map_nil, List.length_cons, List.length_nil, List.replicate, List.cons_append, List.nil_append, Nat.reduceAdd, Nat.reduceSub, Nat.zero_add, List.getElem?_cons_zero, List.getElem?_cons_succ, Option.some.injEq, exists_eq_left, exists_eq_left', List.set_cons_zero, List.set_cons_succ, wipeD, D.int.injEq, D.bl.injEq, D.str.injEq, D.ref.injEq, D.tup.injEq, D.ty.injEq, true_and, and_true, forall_const, forall_eq', forall_eq, mt_int, mt_bool, mt_str, mt_tuple, mt_list, mt_dict, st_int_int, st_int_bool, st_int_str, st_int_tuple, st_int_list, st_int_dict, st_bool_int, st_bool_bool, st_bool_str, st_bool_tuple, st_bool_list, st_bool_dict, st_str_int, st_str_bool, st_str_str, st_str_tuple, st_str_list, st_str_dict, st_tuple_int, st_tuple_bool, st_tuple_str, st_tuple_tuple, st_tuple_list, st_tuple_dict, st_list_int, st_list_bool, st_list_str, st_list_tuple, st_list_list, st_list_dict, st_dict_int, st_dict_bool, st_dict_str, st_dict_tuple, st_dict_list, st_dict_dict, eq_self, Bool.true_eq_false, Bool.false_eq_true, false_implies, true_implies, implies_true, decide_eq_true_eq, decide_eq_false_iff_not, Bool.not_true, Bool.not_false, Bool.not_eq_true, Bool.not_eq_false, Bool.not_eq_true', Bool.not_eq_false', not_true_eq_false, not_false_eq_true, false_and, and_false, or_false, false_or, reduceCtorEq, ↓exLSu, ↓exDKu, ↓exDKd, ↓exLSd, ↓exLu, ↓dIxRu, ↓dPutu, ↓dGetAu, ↓dEq_int, ↓dNe_int, ↓dEq_bl, ↓dNe_bl, ↓dEq_str, ↓dNe_str, ↓dAdd_int, ↓exAt10, ↓exIx10, ↓exAt20, ↓exIx20, ↓exAt21, ↓exIx21, ↓exAt30, ↓exIx30, ↓exAt31, ↓exIx31, ↓exAt32, ↓exIx32, ↓exAt40, ↓exIx40, ↓exAt41, ↓exIx41, ↓exAt42, ↓exIx42, ↓exAt43, ↓exIx43, ↓exAt50, ↓exIx50, ↓exAt51, ↓exIx51, ↓exAt52, ↓exIx52, ↓exAt53, ↓exIx53, ↓exAt54, ↓exIx54, ↓exAt60, ↓exIx60, ↓exAt61, ↓exIx61, ↓exAt62, ↓exIx62, ↓exAt63, ↓exIx63, ↓exAt64, ↓exIx64, ↓exAt65, ↓exIx65, up_up, false_or, or_false, ↓exAtM, ↓dFlag_bl, ↓exBl, ↓exInt, ↓exRef, ↓dVar0, ↓dAug0, ↓dSet0, ↓dTgN0, ↓dTgW0, ↓dVar1, ↓dAug1, ↓dSet1, ↓dTgN1, ↓dTgW1, ↓dVar2, ↓dAug2, ↓dSet2, ↓dTgN2, ↓dTgW2, ↓dVar3, ↓dAug3, ↓dSet3, ↓dTgN3, ↓dTgW3, ↓dVar4, ↓dAug4, ↓dSet4, ↓dTgN4, ↓dTgW4, ↓dVar5, ↓dAug5, ↓dSet5, ↓dTgN5, ↓dTgW5, ↓dVar6, ↓dAug6, ↓dSet6, ↓dTgN6, ↓dTgW6, ↓dVar7, ↓dAug7, ↓dSet7, ↓dTgN7, ↓dTgW7, ↓dVar8, ↓dAug8, ↓dSet8, ↓dTgN8, ↓dTgW8, ↓dVar9, ↓dAug9, ↓dSet9, ↓dTgN9, ↓dTgW9, ↓dVar10, ↓dAug10, ↓dSet10, ↓dTgN10, ↓dTgW10, ↓dVar11, ↓dAug11, ↓dSet11, ↓dTgN11, ↓dTgW11, ↓dVar12, ↓dAug12, ↓dSet12, ↓dTgN12, ↓dTgW12, ↓dVar13, ↓dAug13, ↓dSet13, ↓dTgN13, ↓dTgW13, ↓dVar14, ↓dAug14, ↓dSet14, ↓dTgN14, ↓dTgW14, ↓dVar15, ↓dAug15, ↓dSet15, ↓dTgN15, ↓dTgW15, ↓dVar16, ↓dAug16, ↓dSet16, ↓dTgN16, ↓dTgW16, ↓dVar17, ↓dAug17, ↓dSet17, ↓dTgN17, ↓dTgW17, ↓dVar18, ↓dAug18, ↓dSet18, ↓dTgN18, ↓dTgW18, ↓dVar19, ↓dAug19, ↓dSet19, ↓dTgN19, ↓dTgW19, ↓dTg_t2, ↓dTg_t3, ↓exGetM, ↓exSumU, nD, plD, rwD, ↓dAdd_tup, ↓dAdd_ref, dIx_tup, dIx_str, dIx_ref, dIx_kl, dListOf_tup, dListOf_kl, dListOf_ref, dLen_tup, dLen_str, dLen_kl, dLen_ref, dTupOf_tup, dTupOf_ref, dSeqI_x, sqX_tup, sqX_ref, sqX_str, dEnumI_x, enX_tup, enX_ref, dRevA, dRevD, dSIndex, dLtS, dUpper, dListS, dDisp1, dRevT, dInS, dSortA, dIsi2, isT2, Bool.or_true, Bool.true_or, Bool.or_false, Bool.or_self, dCallX, dRaise, dTryO, dTryA, dRaise1, dExF, dCls, dIsX, ↓exOne, WD0, ↓X0_, ↓X1_, ↓X2_, ↓X3_]
    refine ⟨_, ls, atW_last ft, _, _, rfl, rfl, fun z => ?_, fun z => ?_⟩
    · exact sb0 (y1 (decide_eq_true (by have := (one_lt _ _).mp z; omega)))
    · exact sb0 (y2 (decide_eq_false fun y => z ((one_lt _ _).mpr (by omega))))
  rw [h1]
  simp (config := {failIfUnchanged := false}) only [dC, dOp, dTest, dChain, dAnd, dOr, dNot, dAndV, dOrV, dNotV, dIf, dNil, dCons, dTup, dLst, dCB, d1, dNoPart, dPart, dSl, dCut, dNeg, dSorted, dSum, dAll, dAny, dInt, dAbs, dMax, dMin, dIsi, isT, dNext, dSeq, dBrk, dCont, dNever, dExpr, dRet, dRetN, dIfS, dAsg, dPutI, dI0, dI, dIsN, dNotN, dRng1, dRng2, dRngDn, dZipI, dYes, dCall, dLM, dAppend, dExtend, dReverse, dInsert, dAugI, dRg1, dRg2, dTupRg, dLstRg, dNewK, dNewT, ↓S0_, ↓S1_, ↓S2_, ↓S3_, ↓S4_, ↓S5_, ↓S6_, List.map_cons, List.map_nil, List.length_cons, List.length_nil, List.replicate, List.cons_append, List.nil_append, Nat.reduceAdd, Nat.reduceSub, Nat.zero_add, List.getElem?_cons_zero, List.getElem?_cons_succ, Option.some.injEq, exists_eq_left, exists_eq_left', List.set_cons_zero, List.set_cons_succ, wipeD, D.int.injEq, D.bl.injEq, D.str.injEq, D.ref.injEq, D.tup.injEq, D.ty.injEq, true_and, and_true, forall_const, forall_eq', forall_eq, mt_int, mt_bool, mt_str, mt_tuple, mt_list, mt_dict, st_int_int, st_int_bool, st_int_str, st_int_tuple, st_int_list, st_int_dict, st_bool_int, st_bool_bool, st_bool_str, st_bool_tuple, st_bool_list, st_bool_dict, st_str_int, st_str_bool, st_str_str, st_str_tuple, st_str_list, st_str_dict, st_tuple_int, st_tuple_bool, st_tuple_str, st_tuple_tuple, st_tuple_list, st_tuple_dict, st_list_int, st_list_bool, st_list_str, st_list_tuple, st_list_list, st_list_dict, st_dict_int, st_dict_bool, st_dict_str, st_dict_tuple, st_dict_list, st_dict_dict, eq_self, Bool.true_eq_false, Bool.false_eq_true, false_implies, true_implies, implies_true, decide_eq_true_eq, decide_eq_false_iff_not, Bool.not_true, Bool.not_false, Bool.not_eq_true, Bool.not_eq_false, Bool.not_eq_true', Bool.not_eq_false', not_true_eq_false, not_false_eq_true, false_and, and_false, or_false, false_or, reduceCtorEq, ↓exLSu, ↓exDKu, ↓exDKd, ↓exLSd, ↓exLu, ↓dIxRu, ↓dPutu, ↓dGetAu, ↓dEq_int, ↓dNe_int, ↓dEq_bl, ↓dNe_bl, ↓dEq_str, ↓dNe_str, ↓dAdd_int, ↓exAt10, ↓exIx10, ↓exAt20, ↓exIx20, ↓exAt21, ↓exIx21, ↓exAt30, ↓exIx30, ↓exAt31, ↓exIx31, ↓exAt32, ↓exIx32, ↓exAt40, ↓exIx40, ↓exAt41, ↓exIx41, ↓exAt42, ↓exIx42, ↓exAt43, ↓exIx43, ↓exAt50, ↓exIx50, ↓exAt51, ↓exIx51, ↓exAt52, ↓exIx52, ↓exAt53, ↓exIx53, ↓exAt54, ↓exIx54, ↓exAt60, ↓exIx60, ↓exAt61, ↓exIx61, ↓exAt62, ↓exIx62, ↓exAt63, ↓exIx63, ↓exAt64, ↓exIx64, ↓exAt65, ↓exIx65, up_up, false_or, or_false, ↓exAtM, ↓dFlag_bl, ↓exBl, ↓exInt, ↓exRef, ↓dVar0, ↓dAug0, ↓dSet0, ↓dTgN0, ↓dTgW0, ↓dVar1, ↓dAug1, ↓dSet1, ↓dTgN1, ↓dTgW1, ↓dVar2, ↓dAug2, ↓dSet2, ↓dTgN2, ↓dTgW2, ↓dVar3, ↓dAug3, ↓dSet3, ↓dTgN3, ↓dTgW3, ↓dVar4, ↓dAug4, ↓dSet4, ↓dTgN4, ↓dTgW4, ↓dVar5, ↓dAug5, ↓dSet5, ↓dTgN5, ↓dTgW5, ↓dVar6, ↓dAug6, ↓dSet6, ↓dTgN6, ↓dTgW6, ↓dVar7, ↓dAug7, ↓dSet7, ↓dTgN7, ↓dTgW7, ↓dVar8, ↓dAug8, ↓dSet8, ↓dTgN8, ↓dTgW8, ↓dVar9, ↓dAug9, ↓dSet9, ↓dTgN9, ↓dTgW9, ↓dVar10, ↓dAug10, ↓dSet10, ↓dTgN10, ↓dTgW10, ↓dVar11, ↓dAug11, ↓dSet11, ↓dTgN11, ↓dTgW11, ↓dVar12, ↓dAug12, ↓dSet12, ↓dTgN12, ↓dTgW12, ↓dVar13, ↓dAug13, ↓dSet13, ↓dTgN13, ↓dTgW13, ↓dVar14, ↓dAug14, ↓dSet14, ↓dTgN14, ↓dTgW14, ↓dVar15, ↓dAug15, ↓dSet15, ↓dTgN15, ↓dTgW15, ↓dVar16, ↓dAug16, ↓dSet16, ↓dTgN16, ↓dTgW16, ↓dVar17, ↓dAug17, ↓dSet17, ↓dTgN17, ↓dTgW17, ↓dVar18, ↓dAug18, ↓dSet18, ↓dTgN18, ↓dTgW18, ↓dVar19, ↓dAug19, ↓dSet19, ↓dTgN19, ↓dTgW19, ↓dTg_t2, ↓dTg_t3, ↓exGetM, ↓exSumU, nD, plD, rwD, ↓dAdd_tup, ↓dAdd_ref, dIx_tup, dIx_str, dIx_ref, dIx_kl, dListOf_tup, dListOf_kl, dListOf_ref, dLen_tup, dLen_str, dLen_kl, dLen_ref, dTupOf_tup, dTupOf_ref, dSeqI_x, sqX_tup, sqX_ref, sqX_str, dEnumI_x, enX_tup, enX_ref, dRevA, dRevD, dSIndex, dLtS, dUpper, dListS, dDisp1, dRevT, dInS, dSortA, dIsi2, isT2, Bool.or_true, Bool.true_or, Bool.or_false, Bool.or_self, dCallX, dRaise, dTryO, dTryA, dRaise1, dExF, dCls, dIsX, ↓exOne, WD0, ↓X0_, ↓X1_, ↓X2_, ↓X3_, LS_up]
  have s1 : Sub (up M q (.lst (((List.range 26).filter fun i => decide (t.getD (t.length - 1) 0 < i)).map fun i => D.str ⟨#[122 - i]⟩))) M := Sub.new hq (by intro _ z; cases z)
  have hmem : ∀ i ∈ (List.range 26).filter (fun i => decide (t.getD (t.length - 1) 0 < i)), i < 26 ∧ t.getD (t.length - 1) 0 < i := fun i hi => ⟨List.mem_range.mp (List.mem_filter.mp hi).1, of_decide_eq_true (List.mem_filter.mp hi).2⟩
  have hfl := List.length_filter_le (fun i => decide (t.getD (t.length - 1) 0 < i)) (List.range 26)
  rw [List.length_range] at hfl
  generalize (List.range 26).filter (fun i => decide (t.getD (t.length - 1) 0 < i)) = TL at *
  refine ⟨fun _ => s1.dn (h t ft), fun hne => ?_⟩
  rw [List.length_map] at hne ⊢
  refine ⟨TL.length, rfl, hp.sub s1, by omega, by omega, fun u hu => ⟨_, atI_nat (get_of31 hu), dAdd_s.mpr ⟨small_es (by rw [wS_len31]; show t.length + 1 ≤ 1000; omega), ?_⟩⟩⟩
  rw [wS_sn31]
  obtain ⟨m1, m2⟩ := hmem _ (List.mem_of_getElem? (get_of31 hu))
  refine s1.dn (h _ ⟨by simp, List.pairwise_append.mpr ⟨ft.asc, List.pairwise_singleton _ _, fun a ha b hb => ?_⟩, fun i hi => ?_⟩)
  · rw [List.mem_singleton] at hb
    rw [hb]
    exact fal_last ft m2 a ha
  · rcases List.mem_append.mp hi with z | z
    · exact ft.lt i z
    · rw [List.mem_singleton] at z
      rw [z]
      exact m1
theorem pr__law_beginnings (G : Gv K mg) : Pr P w K mg base "_law_beginnings" 1 ["_law_things"] (S1 fun x M Q => ∃ (f : Addr) (T : List (List Nat)), x = .ref f ∧ M f = some (.lst (T.map wD)) ∧ (∀ t ∈ T, Fal t) ∧ T.length ≤ 100 ∧ ∀ L f M', Lk T L → L.length ≤ 25 * T.length → Sub M' M → M f = none → M' f = some (.lst (L.map wD)) → Q (.ref f) M') := by
  refine (pr3 (k := 0) G.d__law_beginnings bi__law_beginnings sc__law_beginnings S1n (fun f cdv A outer s H E hr => (b_cons (s_set 1 sc__law_beginnings.nd e_newK)
      (b_cons (s_for PassesOwn.never rfl (i_seq (e_var 0)) (g_nm 2 sc__law_beginnings.nd)
      (b_one (s_for PassesOwn.never rfl (i_rng2 (by rfl) G.b_range (a_cons e_int (a_cons (e_callB cd_len (by rfl) G.b_len rfl (a_cons (e_var 2) a_nil)) a_nil))) (g_nm 3 sc__law_beginnings.nd)
      (b_one (s_put (put3 (hu_of hr)) (e_var 1) (e_slice slD (e_var 2) o_none (o_some (e_var 3))) e_bl)))))
      (b_one (s_ret (e_callB (cd_sortA (hu3 hr)) (by rfl) G.b_sorted rfl (a_cons (e_lc (own := [("_law_text", 2)]) rfl sc__law_beginnings.nd (i_seq (e_callTy (cd_list rfl) (by rfl) G.b_list rfl (a_cons (e_var 1) a_nil))) (blkOk_by (by rfl)) (fun _ _ _ _ _ => (g_nm 2 sc__law_beginnings.nd)) (fun _ _ _ _ _ => (ts_one (t_cmp (od_notin (hu_of hr)) (e_var 2) (e_var 0)))) (fun _ _ _ _ _ => (e_var 2))) a_nil)))))))) ?_
  rintro _ M Q E ⟨_, rfl, f, T, rfl, hf, hF, hl, h⟩ H rep
  refine ⟨M, rep, fun _ h => h, ?_⟩
  simp only [startD, List.map_cons, List.map_nil, List.length_cons, List.length_nil, Nat.reduceAdd, Nat.reduceSub, Nat.zero_add, List.replicate, List.cons_append, List.nil_append]; simp (config := {failIfUnchanged := false}) only [dC, dOp, dTest, dChain, dAnd, dOr, dNot, dAndV, dOrV, dNotV, dIf, dNil, dCons, dTup, dLst, dCB, d1, dNoPart, dPart, dSl, dCut, dNeg, dSorted, dSum, dAll, dAny, dInt, dAbs, dMax, dMin, dIsi, isT, dNext, dSeq, dBrk, dCont, dNever, dExpr, dRet, dRetN, dIfS, dAsg, dPutI, dI0, dI, dIsN, dNotN, dRng1, dRng2, dRngDn, dZipI, dYes, dCall, dLM, dAppend, dExtend, dReverse, dInsert, dAugI, dRg1, dRg2, dTupRg, dLstRg, dNewK, dNewT, ↓S0_, ↓S1_, ↓S2_, ↓S3_, ↓S4_, ↓S5_, ↓S6_, List.map_cons, List.map_nil, List.length_cons, List.length_nil, List.replicate, List.cons_append, List.nil_append, Nat.reduceAdd, Nat.reduceSub, Nat.zero_add, List.getElem?_cons_zero, List.getElem?_cons_succ, Option.some.injEq, exists_eq_left, exists_eq_left', List.set_cons_zero, List.set_cons_succ, wipeD, D.int.injEq, D.bl.injEq, D.str.injEq, D.ref.injEq, D.tup.injEq, D.ty.injEq, true_and, and_true, forall_const, forall_eq', forall_eq, mt_int, mt_bool, mt_str, mt_tuple, mt_list, mt_dict, st_int_int, st_int_bool, st_int_str, st_int_tuple, st_int_list, st_int_dict, st_bool_int, st_bool_bool, st_bool_str, st_bool_tuple, st_bool_list, st_bool_dict, st_str_int, st_str_bool, st_str_str, st_str_tuple, st_str_list, st_str_dict, st_tuple_int, st_tuple_bool, st_tuple_str, st_tuple_tuple, st_tuple_list, st_tuple_dict, st_list_int, st_list_bool, st_list_str, st_list_tuple, st_list_list, st_list_dict, st_dict_int, st_dict_bool, st_dict_str, st_dict_tuple, st_dict_list, st_dict_dict, eq_self, Bool.true_eq_false, Bool.false_eq_true, false_implies, true_implies, implies_true, decide_eq_true_eq, decide_eq_false_iff_not, Bool.not_true, Bool.not_false, Bool.not_eq_true, Bool.not_eq_false, Bool.not_eq_true', Bool.not_eq_false', not_true_eq_false, not_false_eq_true, false_and, and_false, or_false, false_or, reduceCtorEq, ↓exLSu, ↓exDKu, ↓exDKd, ↓exLSd, ↓exLu, ↓dIxRu, ↓dPutu, ↓dGetAu, ↓dEq_int, ↓dNe_int, ↓dEq_bl, ↓dNe_bl, ↓dEq_str, ↓dNe_str, ↓dAdd_int, ↓exAt10, ↓exIx10, ↓exAt20, ↓exIx20, ↓exAt21, ↓exIx21, ↓exAt30, ↓exIx30, ↓exAt31, ↓exIx31, ↓exAt32, ↓exIx32, ↓exAt40, ↓exIx40, ↓exAt41, ↓exIx41, ↓exAt42, ↓exIx42, ↓exAt43, ↓exIx43, ↓exAt50, ↓exIx50, ↓exAt51, ↓exIx51, ↓exAt52, ↓exIx52, ↓exAt53, ↓exIx53, ↓exAt54, ↓exIx54, ↓exAt60, ↓exIx60, ↓exAt61, ↓exIx61, ↓exAt62, ↓exIx62, ↓exAt63, ↓exIx63, ↓exAt64, ↓exIx64, ↓exAt65, ↓exIx65, up_up, false_or, or_false, ↓exAtM, ↓dFlag_bl, ↓exBl, ↓exInt, ↓exRef, ↓dVar0, ↓dAug0, ↓dSet0, ↓dTgN0, ↓dTgW0, ↓dVar1, ↓dAug1, ↓dSet1, ↓dTgN1, ↓dTgW1, ↓dVar2, ↓dAug2, ↓dSet2, ↓dTgN2, ↓dTgW2, ↓dVar3, ↓dAug3, ↓dSet3, ↓dTgN3, ↓dTgW3, ↓dVar4, ↓dAug4, ↓dSet4, ↓dTgN4, ↓dTgW4, ↓dVar5, ↓dAug5, ↓dSet5, ↓dTgN5, ↓dTgW5, ↓dVar6, ↓dAug6, ↓dSet6, ↓dTgN6, ↓dTgW6, ↓dVar7, ↓dAug7, ↓dSet7, ↓dTgN7, ↓dTgW7, ↓dVar8, ↓dAug8, ↓dSet8, ↓dTgN8, ↓dTgW8, ↓dVar9, ↓dAug9, ↓dSet9, ↓dTgN9, ↓dTgW9, ↓dVar10, ↓dAug10, ↓dSet10, ↓dTgN10, ↓dTgW10, ↓dVar11, ↓dAug11, ↓dSet11, ↓dTgN11, ↓dTgW11, ↓dVar12, ↓dAug12, ↓dSet12, ↓dTgN12, ↓dTgW12, ↓dVar13, ↓dAug13, ↓dSet13, ↓dTgN13, ↓dTgW13, ↓dVar14, ↓dAug14, ↓dSet14, ↓dTgN14, ↓dTgW14, ↓dVar15, ↓dAug15, ↓dSet15, ↓dTgN15, ↓dTgW15, ↓dVar16, ↓dAug16, ↓dSet16, ↓dTgN16, ↓dTgW16, ↓dVar17, ↓dAug17, ↓dSet17, ↓dTgN17, ↓dTgW17, ↓dVar18, ↓dAug18, ↓dSet18, ↓dTgN18, ↓dTgW18, ↓dVar19, ↓dAug19, ↓dSet19, ↓dTgN19, ↓dTgW19, ↓dTg_t2, ↓dTg_t3, ↓exGetM, ↓exSumU, nD, plD, rwD, ↓dAdd_tup, ↓dAdd_ref, dIx_tup, dIx_str, dIx_ref, dIx_kl, dListOf_tup, dListOf_kl, dListOf_ref, dLen_tup, dLen_str, dLen_kl, dLen_ref, dTupOf_tup, dTupOf_ref, dSeqI_x, sqX_tup, sqX_ref, sqX_str, dEnumI_x, enX_tup, enX_ref, dRevA, dRevD, dSIndex, dLtS, dUpper, dListS, dDisp1, dRevT, dInS, dSortA, dIsi2, isT2, Bool.or_true, Bool.true_or, Bool.or_false, Bool.or_self, dCallX, dRaise, dTryO, dTryA, dRaise1, dExF, dCls, dIsX, ↓exOne, WD0, ↓X0_, ↓X1_, ↓X2_, ↓X3_]
  intro fd hfd
  have hF26 : ∀ t ∈ T, ∀ i ∈ t, i < 26 := fun t ht => (hF t ht).lt
  have nff : f ≠ fd := by rintro rfl; rw [hf] at hfd; cases hfd
  have sU : ∀ K, Sub (up M fd (.dK K)) M := fun K => Sub.new hfd (by intro _ z; cases z)
  have aF : ∀ l, (∀ t ∈ l, t ∈ T) → ∀ (B : List (List Nat)), (∀ c ∈ B, ∀ i ∈ c, i < 26) → ∀ c ∈ addF (fun _ => true) (prA l ++ B), ∀ i ∈ c, i < 26 := fun l hlT B hB c hc => by
    have := (((addF_mem (fun _ => true) (prA l ++ B)).2.1 c).mp hc).1
    rcases List.mem_append.mp this with z | z
    · exact ((prA_mem.mp z).fal fun t ht => hF t (hlT t ht)).lt
    · exact hB c z
  refine dFor_g fun F1 T1 h1 t1 => ?_; simp only [dFor, dC, dOp, dTest, dChain, dAnd, dOr, dNot, dAndV, dOrV, dNotV, dIf, dNil, dCons, dTup, dLst, dCB, d1, dNoPart, dPart, dSl, dCut, dNeg, dSorted, dSum, dAll, dAny, dInt, dAbs, dMax, dMin, dIsi, isT, dNext, dSeq, dBrk, dCont, dNever, dExpr, dRet, dRetN, dIfS, dAsg, dPutI, dI0, dI, dIsN, dNotN, dRng1, dRng2, dRngDn, dZipI, dYes, dCall, dLM, dAppend, dExtend, dReverse, dInsert, dAugI, dRg1, dRg2, dTupRg, dLstRg, dNewK, dNewT, ↓S0_, ↓S1_, ↓S2_, ↓S3_, ↓S4_, ↓S5_, ↓S6_, List.map_cons, List.map_nil, List.length_cons, List.length_nil, List.replicate, List.cons_append, List.nil_append, Nat.reduceAdd, Nat.reduceSub, Nat.zero_add, List.getElem?_cons_zero, List.getElem?_cons_succ, Option.some.injEq, exists_eq_left, exists_eq_left', List.set_cons_zero, List.set_cons_succ, wipeD, D.int.injEq, D.bl.injEq, D.str.injEq, D.ref.injEq, D.tup.injEq, D.ty.injEq, true_and, and_true, forall_const, forall_eq', forall_eq, mt_int, mt_bool, mt_str, mt_tuple, mt_list, mt_dict, st_int_int, st_int_bool, st_int_str, st_int_tuple, st_int_list, st_int_dict, st_bool_int, st_bool_bool, st_bool_str, st_bool_tuple, st_bool_list, st_bool_dict, st_str_int, st_str_bool, st_str_str, st_str_tuple, st_str_list, st_str_dict, st_tuple_int, st_tuple_bool, st_tuple_str, st_tuple_tuple, st_tuple_list, st_tuple_dict, st_list_int, st_list_bool, st_list_str, st_list_tuple, st_list_list, st_list_dict, st_dict_int, st_dict_bool, st_dict_str, st_dict_tuple, st_dict_list, st_dict_dict, eq_self, Bool.true_eq_false, Bool.false_eq_true, false_implies, true_implies, implies_true, decide_eq_true_eq, decide_eq_false_iff_not, Bool.not_true, Bool.not_false, Bool.not_eq_true, Bool.not_eq_false, Bool.not_eq_true', Bool.not_eq_false', not_true_eq_false, not_false_eq_true, false_and, and_false, or_false, false_or, reduceCtorEq, ↓exLSu, ↓exDKu, ↓exDKd, ↓exLSd, ↓exLu, ↓dIxRu, ↓dPutu, ↓dGetAu, ↓dEq_int, ↓dNe_int, ↓dEq_bl, ↓dNe_bl, ↓dEq_str, ↓dNe_str, ↓dAdd_int, ↓exAt10, ↓exIx10, ↓exAt20, ↓exIx20, ↓exAt21, ↓exIx21, ↓exAt30, ↓exIx30, ↓exAt31, ↓exIx31, ↓exAt32, ↓exIx32, ↓exAt40, ↓exIx40, ↓exAt41, ↓exIx41, ↓exAt42, ↓exIx42, ↓exAt43, ↓exIx43, ↓exAt50, ↓exIx50, ↓exAt51, ↓exIx51, ↓exAt52, ↓exIx52, ↓exAt53, ↓exIx53, ↓exAt54, ↓exIx54, ↓exAt60, ↓exIx60, ↓exAt61, ↓exIx61, ↓exAt62, ↓exIx62, ↓exAt63, ↓exIx63, ↓exAt64, ↓exIx64, ↓exAt65, ↓exIx65, up_up, false_or, or_false, ↓exAtM, ↓dFlag_bl, ↓exBl, ↓exInt, ↓exRef, ↓dVar0, ↓dAug0, ↓dSet0, ↓dTgN0, ↓dTgW0, ↓dVar1, ↓dAug1, ↓dSet1, ↓dTgN1, ↓dTgW1, ↓dVar2, ↓dAug2, ↓dSet2, ↓dTgN2, ↓dTgW2, ↓dVar3, ↓dAug3, ↓dSet3, ↓dTgN3, ↓dTgW3, ↓dVar4, ↓dAug4, ↓dSet4, ↓dTgN4, ↓dTgW4, ↓dVar5, ↓dAug5, ↓dSet5, ↓dTgN5, ↓dTgW5, ↓dVar6, ↓dAug6, ↓dSet6, ↓dTgN6, ↓dTgW6, ↓dVar7, ↓dAug7, ↓dSet7, ↓dTgN7, ↓dTgW7, ↓dVar8, ↓dAug8, ↓dSet8, ↓dTgN8, ↓dTgW8, ↓dVar9, ↓dAug9, ↓dSet9, ↓dTgN9, ↓dTgW9, ↓dVar10, ↓dAug10, ↓dSet10, ↓dTgN10, ↓dTgW10, ↓dVar11, ↓dAug11, ↓dSet11, ↓dTgN11, ↓dTgW11, ↓dVar12, ↓dAug12, ↓dSet12, ↓dTgN12, ↓dTgW12, ↓dVar13, ↓dAug13, ↓dSet13, ↓dTgN13, ↓dTgW13, ↓dVar14, ↓dAug14, ↓dSet14, ↓dTgN14, ↓dTgW14, ↓dVar15, ↓dAug15, ↓dSet15, ↓dTgN15, ↓dTgW15, ↓dVar16, ↓dAug16, ↓dSet16, ↓dTgN16, ↓dTgW16, ↓dVar17, ↓dAug17, ↓dSet17, ↓dTgN17, ↓dTgW17, ↓dVar18, ↓dAug18, ↓dSet18, ↓dTgN18, ↓dTgW18, ↓dVar19, ↓dAug19, ↓dSet19, ↓dTgN19, ↓dTgW19, ↓dTg_t2, ↓dTg_t3, ↓exGetM, ↓exSumU, nD, plD, rwD, ↓dAdd_tup, ↓dAdd_ref, dIx_tup, dIx_str, dIx_ref, dIx_kl, dListOf_tup, dListOf_kl, dListOf_ref, dLen_tup, dLen_str, dLen_kl, dLen_ref, dTupOf_tup, dTupOf_ref, dSeqI_x, sqX_tup, sqX_ref, sqX_str, dEnumI_x, enX_tup, enX_ref, dRevA, dRevD, dSIndex, dLtS, dUpper, dListS, dDisp1, dRevT, dInS, dSortA, dIsi2, isT2, Bool.or_true, Bool.true_or, Bool.or_false, Bool.or_self, dCallX, dRaise, dTryO, dTryA, dRaise1, dExF, dCls, dIsX, ↓exOne, WD0, ↓X0_, ↓X1_, ↓X2_, ↓X3_]
  refine ⟨_, .inl ((sU _).1 _ _ hf), forL wD T (fun l δ M' => M' = up M fd (.dK (dkW (addF (fun _ => true) (prA l)))) ∧ ∃ a b, δ = [some (.ref f), some (.ref fd), a, b]) rfl ⟨rfl, _, _, rfl⟩ ?_ ?_⟩
  · rintro l t r δ' M' pre P' e ⟨hM', a, b, rfl⟩ hP
    have ht : t ∈ T := by rw [e]; simp
    have hlT : ∀ t ∈ l, t ∈ T := fun t ht => by rw [e]; simp [ht]
    have hft := hF t ht
    have htl := hft.len
    have ht0 := hft.pos
    subst hM'
    refine ⟨.inl ((sU _).1 _ _ hf), ?_⟩
    subst t1
    simp (config := {failIfUnchanged := false}) only [dC, dOp, dTest, dChain, dAnd, dOr, dNot, dAndV, dOrV, dNotV, dIf, dNil, dCons, dTup, dLst, dCB, d1, dNoPart, dPart, dSl, dCut, dNeg, dSorted, dSum, dAll, dAny, dInt, dAbs, dMax, dMin, dIsi, isT, dNext, dSeq, dBrk, dCont, dNever, dExpr, dRet, dRetN, dIfS, dAsg, dPutI, dI0, dI, dIsN, dNotN, dRng1, dRng2, dRngDn, dZipI, dYes, dCall, dLM, dAppend, dExtend, dReverse, dInsert, dAugI, dRg1, dRg2, dTupRg, dLstRg, dNewK, dNewT, ↓S0_, ↓S1_, ↓S2_, ↓S3_, ↓S4_, ↓S5_, ↓S6_, List.map_cons, List.map_nil, List.length_cons, List.length_nil, List.replicate, List.cons_append, List.nil_append, Nat.reduceAdd, Nat.reduceSub, Nat.zero_add, List.getElem?_cons_zero, List.getElem?_cons_succ, Option.some.injEq, exists_eq_left, exists_eq_left', List.set_cons_zero, List.set_cons_succ, wipeD, D.int.injEq, D.bl.injEq, D.str.injEq, D.ref.injEq, D.tup.injEq, D.ty.injEq, true_and, and_true, forall_const, forall_eq', forall_eq, mt_int, mt_bool, mt_str, mt_tuple, mt_list, mt_dict, st_int_int, st_int_bool, st_int_str, st_int_tuple, st_int_list, st_int_dict, st_bool_int, st_bool_bool, st_bool_str, st_bool_tuple, st_bool_list, st_bool_dict, st_str_int, st_str_bool, st_str_str, st_str_tuple, st_str_list, st_str_dict, st_tuple_int, st_tuple_bool, st_tuple_str, st_tuple_tuple, st_tuple_list, st_tuple_dict, st_list_int, st_list_bool, st_list_str, st_list_tuple, st_list_list, st_list_dict, st_dict_int, st_dict_bool, st_dict_str, st_dict_tuple, st_dict_list, st_dict_dict, eq_self, Bool.true_eq_false, Bool.false_eq_true, false_implies, true_implies, implies_true, decide_eq_true_eq, decide_eq_false_iff_not, Bool.not_true, Bool.not_false, Bool.not_eq_true, Bool.not_eq_false, Bool.not_eq_true', Bool.not_eq_false', not_true_eq_false, not_false_eq_true, false_and, and_false, or_false, false_or, reduceCtorEq, ↓exLSu, ↓exDKu, ↓exDKd, ↓exLSd, ↓exLu, ↓dIxRu, ↓dPutu, ↓dGetAu, ↓dEq_int, ↓dNe_int, ↓dEq_bl, ↓dNe_bl, ↓dEq_str, ↓dNe_str, ↓dAdd_int, ↓exAt10, ↓exIx10, ↓exAt20, ↓exIx20, ↓exAt21, ↓exIx21, ↓exAt30, ↓exIx30, ↓exAt31, ↓exIx31, ↓exAt32, ↓exIx32, ↓exAt40, ↓exIx40, ↓exAt41, ↓exIx41, ↓exAt42, ↓exIx42, ↓exAt43, ↓exIx43, ↓exAt50, ↓exIx50, ↓exAt51, ↓exIx51, ↓exAt52, ↓exIx52, ↓exAt53, ↓exIx53, ↓exAt54, ↓exIx54, ↓exAt60, ↓exIx60, ↓exAt61, ↓exIx61, ↓exAt62, ↓exIx62, ↓exAt63, ↓exIx63, ↓exAt64, ↓exIx64, ↓exAt65, ↓exIx65, up_up, false_or, or_false, ↓exAtM, ↓dFlag_bl, ↓exBl, ↓exInt, ↓exRef, ↓dVar0, ↓dAug0, ↓dSet0, ↓dTgN0, ↓dTgW0, ↓dVar1, ↓dAug1, ↓dSet1, ↓dTgN1, ↓dTgW1, ↓dVar2, ↓dAug2, ↓dSet2, ↓dTgN2, ↓dTgW2, ↓dVar3, ↓dAug3, ↓dSet3, ↓dTgN3, ↓dTgW3, ↓dVar4, ↓dAug4, ↓dSet4, ↓dTgN4, ↓dTgW4, ↓dVar5, ↓dAug5, ↓dSet5, ↓dTgN5, ↓dTgW5, ↓dVar6, ↓dAug6, ↓dSet6, ↓dTgN6, ↓dTgW6, ↓dVar7, ↓dAug7, ↓dSet7, ↓dTgN7, ↓dTgW7, ↓dVar8, ↓dAug8, ↓dSet8, ↓dTgN8, ↓dTgW8, ↓dVar9, ↓dAug9, ↓dSet9, ↓dTgN9, ↓dTgW9, ↓dVar10, ↓dAug10, ↓dSet10, ↓dTgN10, ↓dTgW10, ↓dVar11, ↓dAug11, ↓dSet11, ↓dTgN11, ↓dTgW11, ↓dVar12, ↓dAug12, ↓dSet12, ↓dTgN12, ↓dTgW12, ↓dVar13, ↓dAug13, ↓dSet13, ↓dTgN13, ↓dTgW13, ↓dVar14, ↓dAug14, ↓dSet14, ↓dTgN14, ↓dTgW14, ↓dVar15, ↓dAug15, ↓dSet15, ↓dTgN15, ↓dTgW15, ↓dVar16, ↓dAug16, ↓dSet16, ↓dTgN16, ↓dTgW16, ↓dVar17, ↓dAug17, ↓dSet17, ↓dTgN17, ↓dTgW17, ↓dVar18, ↓dAug18, ↓dSet18, ↓dTgN18, ↓dTgW18, ↓dVar19, ↓dAug19, ↓dSet19, ↓dTgN19, ↓dTgW19, ↓dTg_t2, ↓dTg_t3, ↓exGetM, ↓exSumU, nD, plD, rwD, ↓dAdd_tup, ↓dAdd_ref, dIx_tup, dIx_str, dIx_ref, dIx_kl, dListOf_tup, dListOf_kl, dListOf_ref, dLen_tup, dLen_str, dLen_kl, dLen_ref, dTupOf_tup, dTupOf_ref, dSeqI_x, sqX_tup, sqX_ref, sqX_str, dEnumI_x, enX_tup, enX_ref, dRevA, dRevD, dSIndex, dLtS, dUpper, dListS, dDisp1, dRevT, dInS, dSortA, dIsi2, isT2, Bool.or_true, Bool.true_or, Bool.or_false, Bool.or_self, dCallX, dRaise, dTryO, dTryA, dRaise1, dExF, dCls, dIsX, ↓exOne, WD0, ↓X0_, ↓X1_, ↓X2_, ↓X3_, wD]
    refine dFor_g fun F2 T2 h2 t2 => ?_; simp only [dFor, dC, dOp, dTest, dChain, dAnd, dOr, dNot, dAndV, dOrV, dNotV, dIf, dNil, dCons, dTup, dLst, dCB, d1, dNoPart, dPart, dSl, dCut, dNeg, dSorted, dSum, dAll, dAny, dInt, dAbs, dMax, dMin, dIsi, isT, dNext, dSeq, dBrk, dCont, dNever, dExpr, dRet, dRetN, dIfS, dAsg, dPutI, dI0, dI, dIsN, dNotN, dRng1, dRng2, dRngDn, dZipI, dYes, dCall, dLM, dAppend, dExtend, dReverse, dInsert, dAugI, dRg1, dRg2, dTupRg, dLstRg, dNewK, dNewT, ↓S0_, ↓S1_, ↓S2_, ↓S3_, ↓S4_, ↓S5_, ↓S6_, List.map_cons, List.map_nil, List.length_cons, List.length_nil, List.replicate, List.cons_append, List.nil_append, Nat.reduceAdd, Nat.reduceSub, Nat.zero_add, List.getElem?_cons_zero, List.getElem?_cons_succ, Option.some.injEq, exists_eq_left, exists_eq_left', List.set_cons_zero, List.set_cons_succ, wipeD, D.int.injEq, D.bl.injEq, D.str.injEq, D.ref.injEq, D.tup.injEq, D.ty.injEq, true_and, and_true, forall_const, forall_eq', forall_eq, mt_int, mt_bool, mt_str, mt_tuple, mt_list, mt_dict, st_int_int, st_int_bool, st_int_str, st_int_tuple, st_int_list, st_int_dict, st_bool_int, st_bool_bool, st_bool_str, st_bool_tuple, st_bool_list, st_bool_dict, st_str_int, st_str_bool, st_str_str, st_str_tuple, st_str_list, st_str_dict, st_tuple_int, st_tuple_bool, st_tuple_str, st_tuple_tuple, st_tuple_list, st_tuple_dict, st_list_int, st_list_bool, st_list_str, st_list_tuple, st_list_list, st_list_dict, st_dict_int, st_dict_bool, st_dict_str, st_dict_tuple, st_dict_list, st_dict_dict, eq_self, Bool.true_eq_false, Bool.false_eq_true, false_implies, true_implies, implies_true, decide_eq_true_eq, decide_eq_false_iff_not, Bool.not_true, Bool.not_false, Bool.not_eq_true, Bool.not_eq_false, Bool.not_eq_true', Bool.not_eq_false', not_true_eq_false, not_false_eq_true, false_and, and_false, or_false, false_or, reduceCtorEq, ↓exLSu, ↓exDKu, ↓exDKd, ↓exLSd, ↓exLu, ↓dIxRu, ↓dPutu, ↓dGetAu, ↓dEq_int, ↓dNe_int, ↓dEq_bl, ↓dNe_bl, ↓dEq_str, ↓dNe_str, ↓dAdd_int, ↓exAt10, ↓exIx10, ↓exAt20, ↓exIx20, ↓exAt21, ↓exIx21, ↓exAt30, ↓exIx30, ↓exAt31, ↓exIx31, ↓exAt32, ↓exIx32, ↓exAt40, ↓exIx40, ↓exAt41, ↓exIx41, ↓exAt42, ↓exIx42, ↓exAt43, ↓exIx43, ↓exAt50, ↓exIx50, ↓exAt51, ↓exIx51, ↓exAt52, ↓exIx52, ↓exAt53, ↓exIx53, ↓exAt54, ↓exIx54, ↓exAt60, ↓exIx60, ↓exAt61, ↓exIx61, ↓exAt62, ↓exIx62, ↓exAt63, ↓exIx63, ↓exAt64, ↓exIx64, ↓exAt65, ↓exIx65, up_up, false_or, or_false, ↓exAtM, ↓dFlag_bl, ↓exBl, ↓exInt, ↓exRef, ↓dVar0, ↓dAug0, ↓dSet0, ↓dTgN0, ↓dTgW0, ↓dVar1, ↓dAug1, ↓dSet1, ↓dTgN1, ↓dTgW1, ↓dVar2, ↓dAug2, ↓dSet2, ↓dTgN2, ↓dTgW2, ↓dVar3, ↓dAug3, ↓dSet3, ↓dTgN3, ↓dTgW3, ↓dVar4, ↓dAug4, ↓dSet4, ↓dTgN4, ↓dTgW4, ↓dVar5, ↓dAug5, ↓dSet5, ↓dTgN5, ↓dTgW5, ↓dVar6, ↓dAug6, ↓dSet6, ↓dTgN6, ↓dTgW6, ↓dVar7, ↓dAug7, ↓dSet7, ↓dTgN7, ↓dTgW7, ↓dVar8, ↓dAug8, ↓dSet8, ↓dTgN8, ↓dTgW8, ↓dVar9, ↓dAug9, ↓dSet9, ↓dTgN9, ↓dTgW9, ↓dVar10, ↓dAug10, ↓dSet10, ↓dTgN10, ↓dTgW10, ↓dVar11, ↓dAug11, ↓dSet11, ↓dTgN11, ↓dTgW11, ↓dVar12, ↓dAug12, ↓dSet12, ↓dTgN12, ↓dTgW12, ↓dVar13, ↓dAug13, ↓dSet13, ↓dTgN13, ↓dTgW13, ↓dVar14, ↓dAug14, ↓dSet14, ↓dTgN14, ↓dTgW14, ↓dVar15, ↓dAug15, ↓dSet15, ↓dTgN15, ↓dTgW15, ↓dVar16, ↓dAug16, ↓dSet16, ↓dTgN16, ↓dTgW16, ↓dVar17, ↓dAug17, ↓dSet17, ↓dTgN17, ↓dTgW17, ↓dVar18, ↓dAug18, ↓dSet18, ↓dTgN18, ↓dTgW18, ↓dVar19, ↓dAug19, ↓dSet19, ↓dTgN19, ↓dTgW19, ↓dTg_t2, ↓dTg_t3, ↓exGetM, ↓exSumU, nD, plD, rwD, ↓dAdd_tup, ↓dAdd_ref, dIx_tup, dIx_str, dIx_ref, dIx_kl, dListOf_tup, dListOf_kl, dListOf_ref, dLen_tup, dLen_str, dLen_kl, dLen_ref, dTupOf_tup, dTupOf_ref, dSeqI_x, sqX_tup, sqX_ref, sqX_str, dEnumI_x, enX_tup, enX_ref, dRevA, dRevD, dSIndex, dLtS, dUpper, dListS, dDisp1, dRevT, dInS, dSortA, dIsi2, isT2, Bool.or_true, Bool.true_or, Bool.or_false, Bool.or_self, dCallX, dRaise, dTryO, dTryA, dRaise1, dExF, dCls, dIsX, ↓exOne, WD0, ↓X0_, ↓X1_, ↓X2_, ↓X3_]
    rw [wS_len31, rng31 _ ht0]
    refine ⟨small_es (by omega), by omega, forL (fun i : Nat => nD (i + 1)) (List.range (t.length - 1)) (fun l2 δ M' => M' = up M fd (.dK (dkW (addF (fun _ => true) (prA l ++ l2.map fun i => t.take (i + 1))))) ∧ ∃ c, δ = [some (.ref f), some (.ref fd), some (.str (wS t)), c]) rfl ⟨by rw [List.map_nil, List.append_nil], _, rfl⟩ ?_ ?_⟩
    · rintro l2 j r2 δ2 M4 pre2 P2 e2 ⟨hM4, c', rfl⟩ hP2
      have hj : j < t.length - 1 := List.mem_range.mp (show j ∈ List.range (t.length - 1) by rw [e2]; simp)
      have hft2 := hft.take (k := j + 1) (by omega)
      have hB : ∀ c ∈ l2.map (fun i => t.take (i + 1)), ∀ i ∈ c, i < 26 := fun c hc => by
        obtain ⟨i, _, rfl⟩ := List.mem_map.mp hc
        exact (hft.take (by omega)).lt
      have hK26 := aF l hlT _ hB
      have hKl := (addF_mem (fun _ => true) (prA l ++ l2.map fun i => t.take (i + 1))).2.2
      subst hM4
      subst t2
      simp (config := {failIfUnchanged := false}) only [dC, dOp, dTest, dChain, dAnd, dOr, dNot, dAndV, dOrV, dNotV, dIf, dNil, dCons, dTup, dLst, dCB, d1, dNoPart, dPart, dSl, dCut, dNeg, dSorted, dSum, dAll, dAny, dInt, dAbs, dMax, dMin, dIsi, isT, dNext, dSeq, dBrk, dCont, dNever, dExpr, dRet, dRetN, dIfS, dAsg, dPutI, dI0, dI, dIsN, dNotN, dRng1, dRng2, dRngDn, dZipI, dYes, dCall, dLM, dAppend, dExtend, dReverse, dInsert, dAugI, dRg1, dRg2, dTupRg, dLstRg, dNewK, dNewT, ↓S0_, ↓S1_, ↓S2_, ↓S3_, ↓S4_, ↓S5_, ↓S6_, List.map_cons, List.map_nil, List.length_cons, List.length_nil, List.replicate, List.cons_append, List.nil_append, Nat.reduceAdd, Nat.reduceSub, Nat.zero_add, List.getElem?_cons_zero, List.getElem?_cons_succ, Option.some.injEq, exists_eq_left, exists_eq_left', List.set_cons_zero, List.set_cons_succ, wipeD, D.int.injEq, D.bl.injEq, D.str.injEq, D.ref.injEq, D.tup.injEq, D.ty.injEq, true_and, and_true, forall_const, forall_eq', forall_eq, mt_int, mt_bool, mt_str, mt_tuple, mt_list, mt_dict, st_int_int, st_int_bool, st_int_str, st_int_tuple, st_int_list, st_int_dict, st_bool_int, st_bool_bool, st_bool_str, st_bool_tuple, st_bool_list, st_bool_dict, st_str_int, st_str_bool, st_str_str, st_str_tuple, st_str_list, st_str_dict, st_tuple_int, st_tuple_bool, st_tuple_str, st_tuple_tuple, st_tuple_list, st_tuple_dict, st_list_int, st_list_bool, st_list_str, st_list_tuple, st_list_list, st_list_dict, st_dict_int, st_dict_bool, st_dict_str, st_dict_tuple, st_dict_list, st_dict_dict, eq_self, Bool.true_eq_false, Bool.false_eq_true, false_implies, true_implies, implies_true, decide_eq_true_eq, decide_eq_false_iff_not, Bool.not_true, Bool.not_false, Bool.not_eq_true, Bool.not_eq_false, Bool.not_eq_true', Bool.not_eq_false', not_true_eq_false, not_false_eq_true, false_and, and_false, or_false, false_or, reduceCtorEq, ↓exLSu, ↓exDKu, ↓exDKd, ↓exLSd, ↓exLu, ↓dIxRu, ↓dPutu, ↓dGetAu, ↓dEq_int, ↓dNe_int, ↓dEq_bl, ↓dNe_bl, ↓dEq_str, ↓dNe_str, ↓dAdd_int, ↓exAt10, ↓exIx10, ↓exAt20, ↓exIx20, ↓exAt21, ↓exIx21, ↓exAt30, ↓exIx30, ↓exAt31, ↓exIx31, ↓exAt32, ↓exIx32, ↓exAt40, ↓exIx40, ↓exAt41, ↓exIx41, ↓exAt42, ↓exIx42, ↓exAt43, ↓exIx43, ↓exAt50, ↓exIx50, ↓exAt51, ↓exIx51, ↓exAt52, ↓exIx52, ↓exAt53, ↓exIx53, ↓exAt54, ↓exIx54, ↓exAt60, ↓exIx60, ↓exAt61, ↓exIx61, ↓exAt62, ↓exIx62, ↓exAt63, ↓exIx63, ↓exAt64, ↓exIx64, ↓exAt65, ↓exIx65, up_up, false_or, or_false, ↓exAtM, ↓dFlag_bl, ↓exBl, ↓exInt, ↓exRef, ↓dVar0, ↓dAug0, ↓dSet0, ↓dTgN0, ↓dTgW0, ↓dVar1, ↓dAug1, ↓dSet1, ↓dTgN1, ↓dTgW1, ↓dVar2, ↓dAug2, ↓dSet2, ↓dTgN2, ↓dTgW2, ↓dVar3, ↓dAug3, ↓dSet3, ↓dTgN3, ↓dTgW3, ↓dVar4, ↓dAug4, ↓dSet4, ↓dTgN4, ↓dTgW4, ↓dVar5, ↓dAug5, ↓dSet5, ↓dTgN5, ↓dTgW5, ↓dVar6, ↓dAug6, ↓dSet6, ↓dTgN6, ↓dTgW6, ↓dVar7, ↓dAug7, ↓dSet7, ↓dTgN7, ↓dTgW7, ↓dVar8, ↓dAug8, ↓dSet8, ↓dTgN8, ↓dTgW8, ↓dVar9, ↓dAug9, ↓dSet9, ↓dTgN9, ↓dTgW9, ↓dVar10, ↓dAug10, ↓dSet10, ↓dTgN10, ↓dTgW10, ↓dVar11, ↓dAug11, ↓dSet11, ↓dTgN11, ↓dTgW11, ↓dVar12, ↓dAug12, ↓dSet12, ↓dTgN12, ↓dTgW12, ↓dVar13, ↓dAug13, ↓dSet13, ↓dTgN13, ↓dTgW13, ↓dVar14, ↓dAug14, ↓dSet14, ↓dTgN14, ↓dTgW14, ↓dVar15, ↓dAug15, ↓dSet15, ↓dTgN15, ↓dTgW15, ↓dVar16, ↓dAug16, ↓dSet16, ↓dTgN16, ↓dTgW16, ↓dVar17, ↓dAug17, ↓dSet17, ↓dTgN17, ↓dTgW17, ↓dVar18, ↓dAug18, ↓dSet18, ↓dTgN18, ↓dTgW18, ↓dVar19, ↓dAug19, ↓dSet19, ↓dTgN19, ↓dTgW19, ↓dTg_t2, ↓dTg_t3, ↓exGetM, ↓exSumU, nD, plD, rwD, ↓dAdd_tup, ↓dAdd_ref, dIx_tup, dIx_str, dIx_ref, dIx_kl, dListOf_tup, dListOf_kl, dListOf_ref, dLen_tup, dLen_str, dLen_kl, dLen_ref, dTupOf_tup, dTupOf_ref, dSeqI_x, sqX_tup, sqX_ref, sqX_str, dEnumI_x, enX_tup, enX_ref, dRevA, dRevD, dSIndex, dLtS, dUpper, dListS, dDisp1, dRevT, dInS, dSortA, dIsi2, isT2, Bool.or_true, Bool.true_or, Bool.or_false, Bool.or_self, dCallX, dRaise, dTryO, dTryA, dRaise1, dExF, dCls, dIsX, ↓exOne, WD0, ↓X0_, ↓X1_, ↓X2_, ↓X3_]
      rw [cutW]
      have lens : (wS t).length ≤ sizeLine := small_es (by rw [wS_len31]; omega)
      have es : addF (fun _ => true) (prA l ++ (l2 ++ [j]).map fun i => t.take (i + 1)) = addK (fun _ => true) (addF (fun _ => true) (prA l ++ l2.map fun i => t.take (i + 1))) (t.take (j + 1)) := by
        rw [List.map_append, ← List.append_assoc]
        exact addF_snoc _ _ _
      refine ⟨lens, fd, rfl, .inr (.inl ⟨_, .inr (wS (t.take (j + 1))), rfl, up_same, ?_, sb0 (hP2 _ _ ⟨?_, _, rfl⟩)⟩)⟩
      · unfold dkW
        rw [List.length_map]
        have h1 := prA_len (T := l) fun t ht => hF t (hlT t ht)
        have h2 : l.length ≤ T.length := by rw [e]; simp
        have h3 : l2.length ≤ t.length - 1 := by
          have := congrArg List.length e2
          rw [List.length_range, List.length_append, List.length_cons] at this
          omega
        rw [List.length_append, List.length_map] at hKl
        rw [sizeLine_eq]
        omega
      · rw [up_up, es, dkW_put hK26 hft2.lt]
    · rintro δ2 M4 ⟨hM4, c', rfl⟩
      subst hM4
      rw [h2]
      refine sb0 (hP _ _ ⟨?_, _, _, rfl⟩)
      rw [prA_snoc]; rfl
  · rintro δ' M' ⟨hM', a, b, rfl⟩
    subst hM'
    refine ⟨.inl ((sU _).1 _ _ hf), ?_⟩
    rw [h1]
    simp (config := {failIfUnchanged := false}) only [dC, dOp, dTest, dChain, dAnd, dOr, dNot, dAndV, dOrV, dNotV, dIf, dNil, dCons, dTup, dLst, dCB, d1, dNoPart, dPart, dSl, dCut, dNeg, dSorted, dSum, dAll, dAny, dInt, dAbs, dMax, dMin, dIsi, isT, dNext, dSeq, dBrk, dCont, dNever, dExpr, dRet, dRetN, dIfS, dAsg, dPutI, dI0, dI, dIsN, dNotN, dRng1, dRng2, dRngDn, dZipI, dYes, dCall, dLM, dAppend, dExtend, dReverse, dInsert, dAugI, dRg1, dRg2, dTupRg, dLstRg, dNewK, dNewT, ↓S0_, ↓S1_, ↓S2_, ↓S3_, ↓S4_, ↓S5_, ↓S6_, List.map_cons, List.map_nil, List.length_cons, List.length_nil, List.replicate, List.cons_append, List.nil_append, Nat.reduceAdd, Nat.reduceSub, Nat.zero_add, List.getElem?_cons_zero, List.getElem?_cons_succ, Option.some.injEq, exists_eq_left, exists_eq_left', List.set_cons_zero, List.set_cons_succ, wipeD, D.int.injEq, D.bl.injEq, D.str.injEq, D.ref.injEq, D.tup.injEq, D.ty.injEq, true_and, and_true, forall_const, forall_eq', forall_eq, mt_int, mt_bool, mt_str, mt_tuple, mt_list, mt_dict, st_int_int, st_int_bool, st_int_str, st_int_tuple, st_int_list, st_int_dict, st_bool_int, st_bool_bool, st_bool_str, st_bool_tuple, st_bool_list, st_bool_dict, st_str_int, st_str_bool, st_str_str, st_str_tuple, st_str_list, st_str_dict, st_tuple_int, st_tuple_bool, st_tuple_str, st_tuple_tuple, st_tuple_list, st_tuple_dict, st_list_int, st_list_bool, st_list_str, st_list_tuple, st_list_list, st_list_dict, st_dict_int, st_dict_bool, st_dict_str, st_dict_tuple, st_dict_list, st_dict_dict, eq_self, Bool.true_eq_false, Bool.false_eq_true, false_implies, true_implies, implies_true, decide_eq_true_eq, decide_eq_false_iff_not, Bool.not_true, Bool.not_false, Bool.not_eq_true, Bool.not_eq_false, Bool.not_eq_true', Bool.not_eq_false', not_true_eq_false, not_false_eq_true, false_and, and_false, or_false, false_or, reduceCtorEq, ↓exLSu, ↓exDKu, ↓exDKd, ↓exLSd, ↓exLu, ↓dIxRu, ↓dPutu, ↓dGetAu, ↓dEq_int, ↓dNe_int, ↓dEq_bl, ↓dNe_bl, ↓dEq_str, ↓dNe_str, ↓dAdd_int, ↓exAt10, ↓exIx10, ↓exAt20, ↓exIx20, ↓exAt21, ↓exIx21, ↓exAt30, ↓exIx30, ↓exAt31, ↓exIx31, ↓exAt32, ↓exIx32, ↓exAt40, ↓exIx40, ↓exAt41, ↓exIx41, ↓exAt42, ↓exIx42, ↓exAt43, ↓exIx43, ↓exAt50, ↓exIx50, ↓exAt51, ↓exIx51, ↓exAt52, ↓exIx52, ↓exAt53, ↓exIx53, ↓exAt54, ↓exIx54, ↓exAt60, ↓exIx60, ↓exAt61, ↓exIx61, ↓exAt62, ↓exIx62, ↓exAt63, ↓exIx63, ↓exAt64, ↓exIx64, ↓exAt65, ↓exIx65, up_up, false_or, or_false, ↓exAtM, ↓dFlag_bl, ↓exBl, ↓exInt, ↓exRef, ↓dVar0, ↓dAug0, ↓dSet0, ↓dTgN0, ↓dTgW0, ↓dVar1, ↓dAug1, ↓dSet1, ↓dTgN1, ↓dTgW1, ↓dVar2, ↓dAug2, ↓dSet2, ↓dTgN2, ↓dTgW2, ↓dVar3, ↓dAug3, ↓dSet3, ↓dTgN3, ↓dTgW3, ↓dVar4, ↓dAug4, ↓dSet4, ↓dTgN4, ↓dTgW4, ↓dVar5, ↓dAug5, ↓dSet5, ↓dTgN5, ↓dTgW5, ↓dVar6, ↓dAug6, ↓dSet6, ↓dTgN6, ↓dTgW6, ↓dVar7, ↓dAug7, ↓dSet7, ↓dTgN7, ↓dTgW7, ↓dVar8, ↓dAug8, ↓dSet8, ↓dTgN8, ↓dTgW8, ↓dVar9, ↓dAug9, ↓dSet9, ↓dTgN9, ↓dTgW9, ↓dVar10, ↓dAug10, ↓dSet10, ↓dTgN10, ↓dTgW10, ↓dVar11, ↓dAug11, ↓dSet11, ↓dTgN11, ↓dTgW11, ↓dVar12, ↓dAug12, ↓dSet12, ↓dTgN12, ↓dTgW12, ↓dVar13, ↓dAug13, ↓dSet13, ↓dTgN13, ↓dTgW13, ↓dVar14, ↓dAug14, ↓dSet14, ↓dTgN14, ↓dTgW14, ↓dVar15, ↓dAug15, ↓dSet15, ↓dTgN15, ↓dTgW15, ↓dVar16, ↓dAug16, ↓dSet16, ↓dTgN16, ↓dTgW16, ↓dVar17, ↓dAug17, ↓dSet17, ↓dTgN17, ↓dTgW17, ↓dVar18, ↓dAug18, ↓dSet18, ↓dTgN18, ↓dTgW18, ↓dVar19, ↓dAug19, ↓dSet19, ↓dTgN19, ↓dTgW19, ↓dTg_t2, ↓dTg_t3, ↓exGetM, ↓exSumU, nD, plD, rwD, ↓dAdd_tup, ↓dAdd_ref, dIx_tup, dIx_str, dIx_ref, dIx_kl, dListOf_tup, dListOf_kl, dListOf_ref, dLen_tup, dLen_str, dLen_kl, dLen_ref, dTupOf_tup, dTupOf_ref, dSeqI_x, sqX_tup, sqX_ref, sqX_str, dEnumI_x, enX_tup, enX_ref, dRevA, dRevD, dSIndex, dLtS, dUpper, dListS, dDisp1, dRevT, dInS, dSortA, dIsi2, isT2, Bool.or_true, Bool.true_or, Bool.or_false, Bool.or_self, dCallX, dRaise, dTryO, dTryA, dRaise1, dExF, dCls, dIsX, ↓exOne, WD0, ↓X0_, ↓X1_, ↓X2_, ↓X3_]
    have lA := prA_len hF
    have aM := addF_mem (fun _ => true) (prA T)
    refine dLc_g fun F3 T3 U3 h3 t3 u3 => ?_; simp only [dLc, dC, dOp, dTest, dChain, dAnd, dOr, dNot, dAndV, dOrV, dNotV, dIf, dNil, dCons, dTup, dLst, dCB, d1, dNoPart, dPart, dSl, dCut, dNeg, dSorted, dSum, dAll, dAny, dInt, dAbs, dMax, dMin, dIsi, isT, dNext, dSeq, dBrk, dCont, dNever, dExpr, dRet, dRetN, dIfS, dAsg, dPutI, dI0, dI, dIsN, dNotN, dRng1, dRng2, dRngDn, dZipI, dYes, dCall, dLM, dAppend, dExtend, dReverse, dInsert, dAugI, dRg1, dRg2, dTupRg, dLstRg, dNewK, dNewT, ↓S0_, ↓S1_, ↓S2_, ↓S3_, ↓S4_, ↓S5_, ↓S6_, List.map_cons, List.map_nil, List.length_cons, List.length_nil, List.replicate, List.cons_append, List.nil_append, Nat.reduceAdd, Nat.reduceSub, Nat.zero_add, List.getElem?_cons_zero, List.getElem?_cons_succ, Option.some.injEq, exists_eq_left, exists_eq_left', List.set_cons_zero, List.set_cons_succ, wipeD, D.int.injEq, D.bl.injEq, D.str.injEq, D.ref.injEq, D.tup.injEq, D.ty.injEq, true_and, and_true, forall_const, forall_eq', forall_eq, mt_int, mt_bool, mt_str, mt_tuple, mt_list, mt_dict, st_int_int, st_int_bool, st_int_str, st_int_tuple, st_int_list, st_int_dict, st_bool_int, st_bool_bool, st_bool_str, st_bool_tuple, st_bool_list, st_bool_dict, st_str_int, st_str_bool, st_str_str, st_str_tuple, st_str_list, st_str_dict, st_tuple_int, st_tuple_bool, st_tuple_str, st_tuple_tuple, st_tuple_list, st_tuple_dict, st_list_int, st_list_bool, st_list_str, st_list_tuple, st_list_list, st_list_dict, st_dict_int, st_dict_bool, st_dict_str, st_dict_tuple, st_dict_list, st_dict_dict, eq_self, Bool.true_eq_false, Bool.false_eq_true, false_implies, true_implies, implies_true, decide_eq_true_eq, decide_eq_false_iff_not, Bool.not_true, Bool.not_false, Bool.not_eq_true, Bool.not_eq_false, Bool.not_eq_true', Bool.not_eq_false', not_true_eq_false, not_false_eq_true, false_and, and_false, or_false, false_or, reduceCtorEq, ↓exLSu, ↓exDKu, ↓exDKd, ↓exLSd, ↓exLu, ↓dIxRu, ↓dPutu, ↓dGetAu, ↓dEq_int, ↓dNe_int, ↓dEq_bl, ↓dNe_bl, ↓dEq_str, ↓dNe_str, ↓dAdd_int, ↓exAt10, ↓exIx10, ↓exAt20, ↓exIx20, ↓exAt21, ↓exIx21, ↓exAt30, ↓exIx30, ↓exAt31, ↓exIx31, ↓exAt32, ↓exIx32, ↓exAt40, ↓exIx40, ↓exAt41, ↓exIx41, ↓exAt42, ↓exIx42, ↓exAt43, ↓exIx43, ↓exAt50, ↓exIx50, ↓exAt51, ↓exIx51, ↓exAt52, ↓exIx52, ↓exAt53, ↓exIx53, ↓exAt54, ↓exIx54, ↓exAt60, ↓exIx60, ↓exAt61, ↓exIx61, ↓exAt62, ↓exIx62, ↓exAt63, ↓exIx63, ↓exAt64, ↓exIx64, ↓exAt65, ↓exIx65, up_up, false_or, or_false, ↓exAtM, ↓dFlag_bl, ↓exBl, ↓exInt, ↓exRef, ↓dVar0, ↓dAug0, ↓dSet0, ↓dTgN0, ↓dTgW0, ↓dVar1, ↓dAug1, ↓dSet1, ↓dTgN1, ↓dTgW1, ↓dVar2, ↓dAug2, ↓dSet2, ↓dTgN2, ↓dTgW2, ↓dVar3, ↓dAug3, ↓dSet3, ↓dTgN3, ↓dTgW3, ↓dVar4, ↓dAug4, ↓dSet4, ↓dTgN4, ↓dTgW4, ↓dVar5, ↓dAug5, ↓dSet5, ↓dTgN5, ↓dTgW5, ↓dVar6, ↓dAug6, ↓dSet6, ↓dTgN6, ↓dTgW6, ↓dVar7, ↓dAug7, ↓dSet7, ↓dTgN7, ↓dTgW7, ↓dVar8, ↓dAug8, ↓dSet8, ↓dTgN8, ↓dTgW8, ↓dVar9, ↓dAug9, ↓dSet9, ↓dTgN9, ↓dTgW9, ↓dVar10, ↓dAug10, ↓dSet10, ↓dTgN10, ↓dTgW10, ↓dVar11, ↓dAug11, ↓dSet11, ↓dTgN11, ↓dTgW11, ↓dVar12, ↓dAug12, ↓dSet12, ↓dTgN12, ↓dTgW12, ↓dVar13, ↓dAug13, ↓dSet13, ↓dTgN13, ↓dTgW13, ↓dVar14, ↓dAug14, ↓dSet14, ↓dTgN14, ↓dTgW14, ↓dVar15, ↓dAug15, ↓dSet15, ↓dTgN15, ↓dTgW15, ↓dVar16, ↓dAug16, ↓dSet16, ↓dTgN16, ↓dTgW16, ↓dVar17, ↓dAug17, ↓dSet17, ↓dTgN17, ↓dTgW17, ↓dVar18, ↓dAug18, ↓dSet18, ↓dTgN18, ↓dTgW18, ↓dVar19, ↓dAug19, ↓dSet19, ↓dTgN19, ↓dTgW19, ↓dTg_t2, ↓dTg_t3, ↓exGetM, ↓exSumU, nD, plD, rwD, ↓dAdd_tup, ↓dAdd_ref, dIx_tup, dIx_str, dIx_ref, dIx_kl, dListOf_tup, dListOf_kl, dListOf_ref, dLen_tup, dLen_str, dLen_kl, dLen_ref, dTupOf_tup, dTupOf_ref, dSeqI_x, sqX_tup, sqX_ref, sqX_str, dEnumI_x, enX_tup, enX_ref, dRevA, dRevD, dSIndex, dLtS, dUpper, dListS, dDisp1, dRevT, dInS, dSortA, dIsi2, isT2, Bool.or_true, Bool.true_or, Bool.or_false, Bool.or_self, dCallX, dRaise, dTryO, dTryA, dRaise1, dExF, dCls, dIsX, ↓exOne, WD0, ↓X0_, ↓X1_, ↓X2_, ↓X3_]
    have eK : (dkW (addF (fun _ => true) (prA T))).map (fun kv => kD kv.1) = (addF (fun _ => true) (prA T)).map wD := by unfold dkW; rw [List.map_map]; rfl
    rw [eK]
    intro q hq
    have sq : Sub (up (up M fd (.dK (dkW (addF (fun _ => true) (prA T))))) q (.lst ((addF (fun _ => true) (prA T)).map wD))) M := (Sub.new hq (by intro _ z; cases z)).trans (sU _)
    have hq0 : up (up M fd (.dK (dkW (addF (fun _ => true) (prA T))))) q (.lst ((addF (fun _ => true) (prA T)).map wD)) q = some (.lst ((addF (fun _ => true) (prA T)).map wD)) := up_same
    generalize up (up M fd (.dK (dkW (addF (fun _ => true) (prA T))))) q (.lst ((addF (fun _ => true) (prA T)).map wD)) = M1 at *
    have aK : ∀ c ∈ addF (fun _ => true) (prA T), ∀ i ∈ c, i < 26 := fun c hc => ((prA_mem.mp ((aM.2.1 c).mp hc).1).fal hF).lt
    generalize addF (fun _ => true) (prA T) = K0 at *
    have hf1 := sq.1 _ _ hf
    refine ⟨by rw [List.length_map, sizeLine_eq]; omega, lcF wD wD (fun c => decide (c ∉ T)) K0 rfl (fun l c r pre acc P2 e y1 y2 => ⟨.inl hq0, ?_⟩) ⟨.inl hq0, fun q3 hq3 => ?_⟩⟩
    · have hc := aK c (by rw [e]; simp)
      subst t3; subst u3
      simp (config := {failIfUnchanged := false}) only [dC, dOp, dTest, dChain, dAnd, dOr, dNot, dAndV, dOrV, dNotV, dIf, dNil, dCons, dTup, dLst, dCB, d1, dNoPart, dPart, dSl, dCut, dNeg, dSorted, dSum, dAll, dAny, dInt, dAbs, dMax, dMin, dIsi, isT, dNext, dSeq, dBrk, dCont, dNever, dExpr, dRet, dRetN, dIfS, dAsg, dPutI, dI0, dI, dIsN, dNotN, dRng1, dRng2, dRngDn, dZipI, dYes, dCall, dLM, dAppend, dExtend, dReverse, dInsert, dAugI, dRg1, dRg2, dTupRg, dLstRg, dNewK, dNewT, ↓S0_, ↓S1_, ↓S2_, ↓S3_, ↓S4_, ↓S5_, ↓S6_, List.map_cons, List.map_nil, List.length_cons, List.length_nil, List.replicate, List.cons_append, List.nil_append, Nat.reduceAdd, Nat.reduceSub, Nat.zero_add, List.getElem?_cons_zero, List.getElem?_cons_succ, Option.some.injEq, exists_eq_left, exists_eq_left', List.set_cons_zero, List.set_cons_succ, wipeD, D.int.injEq, D.bl.injEq, D.str.injEq, D.ref.injEq, D.tup.injEq, D.ty.injEq, true_and, and_true, forall_const, forall_eq', forall_eq, mt_int, mt_bool, mt_str, mt_tuple, mt_list, mt_dict, st_int_int, st_int_bool, st_int_str, st_int_tuple, st_int_list, st_int_dict, st_bool_int, st_bool_bool, st_bool_str, st_bool_tuple, st_bool_list, st_bool_dict, st_str_int, st_str_bool, st_str_str, st_str_tuple, st_str_list, st_str_dict, st_tuple_int, st_tuple_bool, st_tuple_str, st_tuple_tuple, st_tuple_list, st_tuple_dict, st_list_int, st_list_bool, st_list_str, st_list_tuple, st_list_list, st_list_dict, st_dict_int, st_dict_bool, st_dict_str, st_dict_tuple, st_dict_list, st_dict_dict, eq_self, Bool.true_eq_false, Bool.false_eq_true, false_implies, true_implies, implies_true, decide_eq_true_eq, decide_eq_false_iff_not, Bool.not_true, Bool.not_false, Bool.not_eq_true, Bool.not_eq_false, Bool.not_eq_true', Bool.not_eq_false', not_true_eq_false, not_false_eq_true, false_and, and_false, or_false, false_or, reduceCtorEq, ↓exLSu, ↓exDKu, ↓exDKd, ↓exLSd, ↓exLu, ↓dIxRu, ↓dPutu, ↓dGetAu, ↓dEq_int, ↓dNe_int, ↓dEq_bl, ↓dNe_bl, ↓dEq_str, ↓dNe_str, ↓dAdd_int, ↓exAt10, ↓exIx10, ↓exAt20, ↓exIx20, ↓exAt21, ↓exIx21, ↓exAt30, ↓exIx30, ↓exAt31, ↓exIx31, ↓exAt32, ↓exIx32, ↓exAt40, ↓exIx40, ↓exAt41, ↓exIx41, ↓exAt42, ↓exIx42, ↓exAt43, ↓exIx43, ↓exAt50, ↓exIx50, ↓exAt51, ↓exIx51, ↓exAt52, ↓exIx52, ↓exAt53, ↓exIx53, ↓exAt54, ↓exIx54, ↓exAt60, ↓exIx60, ↓exAt61, ↓exIx61, ↓exAt62, ↓exIx62, ↓exAt63, ↓exIx63, ↓exAt64, ↓exIx64, ↓exAt65, ↓exIx65, up_up, false_or, or_false, ↓exAtM, ↓dFlag_bl, ↓exBl, ↓exInt, ↓exRef, ↓dVar0, ↓dAug0, ↓dSet0, ↓dTgN0, ↓dTgW0, ↓dVar1, ↓dAug1, ↓dSet1, ↓dTgN1, ↓dTgW1, ↓dVar2, ↓dAug2, ↓dSet2, ↓dTgN2, ↓dTgW2, ↓dVar3, ↓dAug3, ↓dSet3, ↓dTgN3, ↓dTgW3, ↓dVar4, ↓dAug4, ↓dSet4, ↓dTgN4, ↓dTgW4, ↓dVar5, ↓dAug5, ↓dSet5, ↓dTgN5, ↓dTgW5, ↓dVar6, ↓dAug6, ↓dSet6, ↓dTgN6, ↓dTgW6, ↓dVar7, ↓dAug7, ↓dSet7, ↓dTgN7, ↓dTgW7, ↓dVar8, ↓dAug8, ↓dSet8, ↓dTgN8, ↓dTgW8, ↓dVar9, ↓dAug9, ↓dSet9, ↓dTgN9, ↓dTgW9, ↓dVar10, ↓dAug10, ↓dSet10, ↓dTgN10, ↓dTgW10, ↓dVar11, ↓dAug11, ↓dSet11, ↓dTgN11, ↓dTgW11, ↓dVar12, ↓dAug12, ↓dSet12, ↓dTgN12, ↓dTgW12, ↓dVar13, ↓dAug13, ↓dSet13, ↓dTgN13, ↓dTgW13, ↓dVar14, ↓dAug14, ↓dSet14, ↓dTgN14, ↓dTgW14, ↓dVar15, ↓dAug15, ↓dSet15, ↓dTgN15, ↓dTgW15, ↓dVar16, ↓dAug16, ↓dSet16, ↓dTgN16, ↓dTgW16, ↓dVar17, ↓dAug17, ↓dSet17, ↓dTgN17, ↓dTgW17, ↓dVar18, ↓dAug18, ↓dSet18, ↓dTgN18, ↓dTgW18, ↓dVar19, ↓dAug19, ↓dSet19, ↓dTgN19, ↓dTgW19, ↓dTg_t2, ↓dTg_t3, ↓exGetM, ↓exSumU, nD, plD, rwD, ↓dAdd_tup, ↓dAdd_ref, dIx_tup, dIx_str, dIx_ref, dIx_kl, dListOf_tup, dListOf_kl, dListOf_ref, dLen_tup, dLen_str, dLen_kl, dLen_ref, dTupOf_tup, dTupOf_ref, dSeqI_x, sqX_tup, sqX_ref, sqX_str, dEnumI_x, enX_tup, enX_ref, dRevA, dRevD, dSIndex, dLtS, dUpper, dListS, dDisp1, dRevT, dInS, dSortA, dIsi2, isT2, Bool.or_true, Bool.true_or, Bool.or_false, Bool.or_self, dCallX, dRaise, dTryO, dTryA, dRaise1, dExF, dCls, dIsX, ↓exOne, WD0, ↓X0_, ↓X1_, ↓X2_, ↓X3_, wD]
      have em : wS c ∈ T.map wS ↔ c ∈ T := ⟨fun z => by
        obtain ⟨d, hd, e⟩ := List.mem_map.mp z
        rw [← wS_inj (hF26 d hd) hc e]
        exact hd, fun z => List.mem_map.mpr ⟨c, z, rfl⟩⟩
      refine .inr (.inl ⟨wS c, T.map wS, rfl, .inr ⟨f, rfl, by rw [List.map_map]; exact .inl hf1⟩, ?_⟩)
      by_cases m : c ∈ T
      · rw [decide_eq_true (em.mpr m)]
        exact ⟨fun z => (by cases z), fun _ => sb0 (y2 (decide_eq_false fun z => z m))⟩
      · rw [decide_eq_false fun z => m (em.mp z)]
        exact ⟨fun _ => sb0 (y1 (decide_eq_true m)), fun z => (by cases z)⟩
    rw [h3]; clear h3 t3 u3
    simp (config := {failIfUnchanged := false}) only [dC, dOp, dTest, dChain, dAnd, dOr, dNot, dAndV, dOrV, dNotV, dIf, dNil, dCons, dTup, dLst, dCB, d1, dNoPart, dPart, dSl, dCut, dNeg, dSorted, dSum, dAll, dAny, dInt, dAbs, dMax, dMin, dIsi, isT, dNext, dSeq, dBrk, dCont, dNever, dExpr, dRet, dRetN, dIfS, dAsg, dPutI, dI0, dI, dIsN, dNotN, dRng1, dRng2, dRngDn, dZipI, dYes, dCall, dLM, dAppend, dExtend, dReverse, dInsert, dAugI, dRg1, dRg2, dTupRg, dLstRg, dNewK, dNewT, ↓S0_, ↓S1_, ↓S2_, ↓S3_, ↓S4_, ↓S5_, ↓S6_, List.map_cons, List.map_nil, List.length_cons, List.length_nil, List.replicate, List.cons_append, List.nil_append, Nat.reduceAdd, Nat.reduceSub, Nat.zero_add, List.getElem?_cons_zero, List.getElem?_cons_succ, Option.some.injEq, exists_eq_left, exists_eq_left', List.set_cons_zero, List.set_cons_succ, wipeD, D.int.injEq, D.bl.injEq, D.str.injEq, D.ref.injEq, D.tup.injEq, D.ty.injEq, true_and, and_true, forall_const, forall_eq', forall_eq, mt_int, mt_bool, mt_str, mt_tuple, mt_list, mt_dict, st_int_int, st_int_bool, st_int_str, st_int_tuple, st_int_list, st_int_dict, st_bool_int, st_bool_bool, st_bool_str, st_bool_tuple, st_bool_list, st_bool_dict, st_str_int, st_str_bool, st_str_str, st_str_tuple, st_str_list, st_str_dict, st_tuple_int, st_tuple_bool, st_tuple_str, st_tuple_tuple, st_tuple_list, st_tuple_dict, st_list_int, st_list_bool, st_list_str, st_list_tuple, st_list_list, st_list_dict, st_dict_int, st_dict_bool, st_dict_str, st_dict_tuple, st_dict_list, st_dict_dict, eq_self, Bool.true_eq_false, Bool.false_eq_true, false_implies, true_implies, implies_true, decide_eq_true_eq, decide_eq_false_iff_not, Bool.not_true, Bool.not_false, Bool.not_eq_true, Bool.not_eq_false, Bool.not_eq_true', Bool.not_eq_false', not_true_eq_false, not_false_eq_true, false_and, and_false, or_false, false_or, reduceCtorEq, ↓exLSu, ↓exDKu, ↓exDKd, ↓exLSd, ↓exLu, ↓dIxRu, ↓dPutu, ↓dGetAu, ↓dEq_int, ↓dNe_int, ↓dEq_bl, ↓dNe_bl, ↓dEq_str, ↓dNe_str, ↓dAdd_int, ↓exAt10, ↓exIx10, ↓exAt20, ↓exIx20, ↓exAt21, ↓exIx21, ↓exAt30, ↓exIx30, ↓exAt31, ↓exIx31, ↓exAt32, ↓exIx32, ↓exAt40, ↓exIx40, ↓exAt41, ↓exIx41, ↓exAt42, ↓exIx42, ↓exAt43, ↓exIx43, ↓exAt50, ↓exIx50, ↓exAt51, ↓exIx51, ↓exAt52, ↓exIx52, ↓exAt53, ↓exIx53, ↓exAt54, ↓exIx54, ↓exAt60, ↓exIx60, ↓exAt61, ↓exIx61, ↓exAt62, ↓exIx62, ↓exAt63, ↓exIx63, ↓exAt64, ↓exIx64, ↓exAt65, ↓exIx65, up_up, false_or, or_false, ↓exAtM, ↓dFlag_bl, ↓exBl, ↓exInt, ↓exRef, ↓dVar0, ↓dAug0, ↓dSet0, ↓dTgN0, ↓dTgW0, ↓dVar1, ↓dAug1, ↓dSet1, ↓dTgN1, ↓dTgW1, ↓dVar2, ↓dAug2, ↓dSet2, ↓dTgN2, ↓dTgW2, ↓dVar3, ↓dAug3, ↓dSet3, ↓dTgN3, ↓dTgW3, ↓dVar4, ↓dAug4, ↓dSet4, ↓dTgN4, ↓dTgW4, ↓dVar5, ↓dAug5, ↓dSet5, ↓dTgN5, ↓dTgW5, ↓dVar6, ↓dAug6, ↓dSet6, ↓dTgN6, ↓dTgW6, ↓dVar7, ↓dAug7, ↓dSet7, ↓dTgN7, ↓dTgW7, ↓dVar8, ↓dAug8, ↓dSet8, ↓dTgN8, ↓dTgW8, ↓dVar9, ↓dAug9, ↓dSet9, ↓dTgN9, ↓dTgW9, ↓dVar10, ↓dAug10, ↓dSet10, ↓dTgN10, ↓dTgW10, ↓dVar11, ↓dAug11, ↓dSet11, ↓dTgN11, ↓dTgW11, ↓dVar12, ↓dAug12, ↓dSet12, ↓dTgN12, ↓dTgW12, ↓dVar13, ↓dAug13, ↓dSet13, ↓dTgN13, ↓dTgW13, ↓dVar14, ↓dAug14, ↓dSet14, ↓dTgN14, ↓dTgW14, ↓dVar15, ↓dAug15, ↓dSet15, ↓dTgN15, ↓dTgW15, ↓dVar16, ↓dAug16, ↓dSet16, ↓dTgN16, ↓dTgW16, ↓dVar17, ↓dAug17, ↓dSet17, ↓dTgN17, ↓dTgW17, ↓dVar18, ↓dAug18, ↓dSet18, ↓dTgN18, ↓dTgW18, ↓dVar19, ↓dAug19, ↓dSet19, ↓dTgN19, ↓dTgW19, ↓dTg_t2, ↓dTg_t3, ↓exGetM, ↓exSumU, nD, plD, rwD, ↓dAdd_tup, ↓dAdd_ref, dIx_tup, dIx_str, dIx_ref, dIx_kl, dListOf_tup, dListOf_kl, dListOf_ref, dLen_tup, dLen_str, dLen_kl, dLen_ref, dTupOf_tup, dTupOf_ref, dSeqI_x, sqX_tup, sqX_ref, sqX_str, dEnumI_x, enX_tup, enX_ref, dRevA, dRevD, dSIndex, dLtS, dUpper, dListS, dDisp1, dRevT, dInS, dSortA, dIsi2, isT2, Bool.or_true, Bool.true_or, Bool.or_false, Bool.or_self, dCallX, dRaise, dTryO, dTryA, dRaise1, dExF, dCls, dIsX, ↓exOne, WD0, ↓X0_, ↓X1_, ↓X2_, ↓X3_]
    refine ⟨{s : Str // PyData.strOk s = true}, inferInstance, fun a => .str a.1, fun a => .str a.1, 0, _, (K0.filter fun c => decide (c ∉ T)).map sT, ltl_s, by decide, LS_up.mpr (by rw [List.map_map]; rfl), .inl (.inr fun d hd => ?_), fun L' pL sL q2 hq2 => ?_⟩
    · obtain ⟨u, _, rfl⟩ := List.mem_map.mp hd
      exact ⟨nofun, nofun⟩
    obtain ⟨K', pK, rfl⟩ := perm_map29 (f := sT) pL _ rfl
    have mm : ∀ c, c ∈ K0.filter (fun c => decide (c ∉ T)) ↔ c ∈ prA T ∧ c ∉ T := fun c => by
      rw [List.mem_filter, aM.2.1, decide_eq_true_eq]
      exact ⟨fun z => ⟨z.1.1, z.2⟩, fun z => ⟨⟨z.1, rfl⟩, z.2⟩⟩
    have hK : ∀ c ∈ K', ∀ i ∈ c, i < 26 := fun c hc => ((prA_mem.mp ((mm c).mp (pK.mem_iff.mp hc)).1).fal hF).lt
    have lk : Lk T K' := lk_of (aM.1.filter _) mm pK ((List.pairwise_map.mp sL).imp_of_mem fun {c d} hc hd h => by rw [← wS_lt (hK d hd) (hK c hc)]; exact h)
    have fl := List.length_filter_le (fun c => decide (c ∉ T)) K0
    have s3 : Sub (up M1 q3 (.lst ((K0.filter fun c => decide (c ∉ T)).map wD))) M := (Sub.new hq3 (by intro _ z; cases z)).trans sq
    refine dn0 (h K' q2 _ lk (by rw [pK.length_eq]; omega) ((Sub.new hq2 (by intro _ z; cases z)).trans s3) (s3.free hq2) ?_)
    rw [up_same, List.map_map]; rfl
theorem pr__law_refused (G : Gv K mg) : Pr P w K mg base "_law_refused" 3 ["_law_thing"] (S1 fun x M Q => BadX M x ∧ Q (.bl true) M) := by
  refine (pr3 (k := 2) G.d__law_refused bi__law_refused sc__law_refused S1n (fun f cdv A outer s H E hr => (b_cons (s_tryA 1 rfl rfl sc__law_refused.nd rfl rfl (by rfl) G.x_BetweenError.some tk0 (fun pn1 xe1 B1 WD1 hp1 tk1 => (b_one (s_expr (e_callX (pr_lacking G) (hr.mono (by decide)) (by rfl) tk1 (a_cons (e_var 0) a_nil)))))
      (fun a1 oe1 cls1 d1 fs1 pm1 hz1 hfl1 BB1 hB1 => (b_one (s_ret (e_and (e_callB (cd_isX hz1 hfl1) (by rfl) G.b_isinstance rfl (a_cons (e_var 1) (a_cons (e_clsX G.x_NoHeap.cls (by rfl)) a_nil))) (e_and (e_callB (cd_isX hz1 hfl1) (by rfl) G.b_isinstance rfl (a_cons (e_var 1) (a_cons (e_ty (by rfl) G.b_ValueError rfl) a_nil))) (e_one (e_not (e_callB (cd_isX hz1 hfl1) (by rfl) G.b_isinstance rfl (a_cons (e_var 1) (a_cons (e_clsX G.x_NoPlan.cls (by rfl)) a_nil)))))))))))
      (b_one (s_ret e_bl))))) ?_
  rintro _ M Q E ⟨_, rfl, hb, h⟩ H rep
  refine ⟨M, rep, fun _ h => h, ?_⟩
  simp only [startD, List.map_cons, List.map_nil, List.length_cons, List.length_nil, Nat.reduceAdd, Nat.reduceSub, Nat.zero_add, List.replicate, List.cons_append, List.nil_append]; simp (config := {failIfUnchanged := false}) only [dC, dOp, dTest, dChain, dAnd, dOr, dNot, dAndV, dOrV, dNotV, dIf, dNil, dCons, dTup, dLst, dCB, d1, dNoPart, dPart, dSl, dCut, dNeg, dSorted, dSum, dAll, dAny, dInt, dAbs, dMax, dMin, dIsi, isT, dNext, dSeq, dBrk, dCont, dNever, dExpr, dRet, dRetN, dIfS, dAsg, dPutI, dI0, dI, dIsN, dNotN, dRng1, dRng2, dRngDn, dZipI, dYes, dCall, dLM, dAppend, dExtend, dReverse, dInsert, dAugI, dRg1, dRg2, dTupRg, dLstRg, dNewK, dNewT, ↓S0_, ↓S1_, ↓S2_, ↓S3_, ↓S4_, ↓S5_, ↓S6_, List.map_cons, List.map_nil, List.length_cons, List.length_nil, List.replicate, List.cons_append, List.nil_append, Nat.reduceAdd, Nat.reduceSub, Nat.zero_add, List.getElem?_cons_zero, List.getElem?_cons_succ, Option.some.injEq, exists_eq_left, exists_eq_left', List.set_cons_zero, List.set_cons_succ, wipeD, D.int.injEq, D.bl.injEq, D.str.injEq, D.ref.injEq, D.tup.injEq, D.ty.injEq, true_and, and_true, forall_const, forall_eq', forall_eq, mt_int, mt_bool, mt_str, mt_tuple, mt_list, mt_dict, st_int_int, st_int_bool, st_int_str, st_int_tuple, st_int_list, st_int_dict, st_bool_int, st_bool_bool, st_bool_str, st_bool_tuple, st_bool_list, st_bool_dict, st_str_int, st_str_bool, st_str_str, st_str_tuple, st_str_list, st_str_dict, st_tuple_int, st_tuple_bool, st_tuple_str, st_tuple_tuple, st_tuple_list, st_tuple_dict, st_list_int, st_list_bool, st_list_str, st_list_tuple, st_list_list, st_list_dict, st_dict_int, st_dict_bool, st_dict_str, st_dict_tuple, st_dict_list, st_dict_dict, eq_self, Bool.true_eq_false, Bool.false_eq_true, false_implies, true_implies, implies_true, decide_eq_true_eq, decide_eq_false_iff_not, Bool.not_true, Bool.not_false, Bool.not_eq_true, Bool.not_eq_false, Bool.not_eq_true', Bool.not_eq_false', not_true_eq_false, not_false_eq_true, false_and, and_false, or_false, false_or, reduceCtorEq, ↓exLSu, ↓exDKu, ↓exDKd, ↓exLSd, ↓exLu, ↓dIxRu, ↓dPutu, ↓dGetAu, ↓dEq_int, ↓dNe_int, ↓dEq_bl, ↓dNe_bl, ↓dEq_str, ↓dNe_str, ↓dAdd_int, ↓exAt10, ↓exIx10, ↓exAt20, ↓exIx20, ↓exAt21, ↓exIx21, ↓exAt30, ↓exIx30, ↓exAt31, ↓exIx31, ↓exAt32, ↓exIx32, ↓exAt40, ↓exIx40, ↓exAt41, ↓exIx41, ↓exAt42, ↓exIx42, ↓exAt43, ↓exIx43, ↓exAt50, ↓exIx50, ↓exAt51, ↓exIx51, ↓exAt52, ↓exIx52, ↓exAt53, ↓exIx53, ↓exAt54, ↓exIx54, ↓exAt60, ↓exIx60, ↓exAt61, ↓exIx61, ↓exAt62, ↓exIx62, ↓exAt63, ↓exIx63, ↓exAt64, ↓exIx64, ↓exAt65, ↓exIx65, up_up, false_or, or_false, ↓exAtM, ↓dFlag_bl, ↓exBl, ↓exInt, ↓exRef, ↓dVar0, ↓dAug0, ↓dSet0, ↓dTgN0, ↓dTgW0, ↓dVar1, ↓dAug1, ↓dSet1, ↓dTgN1, ↓dTgW1, ↓dVar2, ↓dAug2, ↓dSet2, ↓dTgN2, ↓dTgW2, ↓dVar3, ↓dAug3, ↓dSet3, ↓dTgN3, ↓dTgW3, ↓dVar4, ↓dAug4, ↓dSet4, ↓dTgN4, ↓dTgW4, ↓dVar5, ↓dAug5, ↓dSet5, ↓dTgN5, ↓dTgW5, ↓dVar6, ↓dAug6, ↓dSet6, ↓dTgN6, ↓dTgW6, ↓dVar7, ↓dAug7, ↓dSet7, ↓dTgN7, ↓dTgW7, ↓dVar8, ↓dAug8, ↓dSet8, ↓dTgN8, ↓dTgW8, ↓dVar9, ↓dAug9, ↓dSet9, ↓dTgN9, ↓dTgW9, ↓dVar10, ↓dAug10, ↓dSet10, ↓dTgN10, ↓dTgW10, ↓dVar11, ↓dAug11, ↓dSet11, ↓dTgN11, ↓dTgW11, ↓dVar12, ↓dAug12, ↓dSet12, ↓dTgN12, ↓dTgW12, ↓dVar13, ↓dAug13, ↓dSet13, ↓dTgN13, ↓dTgW13, ↓dVar14, ↓dAug14, ↓dSet14, ↓dTgN14, ↓dTgW14, ↓dVar15, ↓dAug15, ↓dSet15, ↓dTgN15, ↓dTgW15, ↓dVar16, ↓dAug16, ↓dSet16, ↓dTgN16, ↓dTgW16, ↓dVar17, ↓dAug17, ↓dSet17, ↓dTgN17, ↓dTgW17, ↓dVar18, ↓dAug18, ↓dSet18, ↓dTgN18, ↓dTgW18, ↓dVar19, ↓dAug19, ↓dSet19, ↓dTgN19, ↓dTgW19, ↓dTg_t2, ↓dTg_t3, ↓exGetM, ↓exSumU, nD, plD, rwD, ↓dAdd_tup, ↓dAdd_ref, dIx_tup, dIx_str, dIx_ref, dIx_kl, dListOf_tup, dListOf_kl, dListOf_ref, dLen_tup, dLen_str, dLen_kl, dLen_ref, dTupOf_tup, dTupOf_ref, dSeqI_x, sqX_tup, sqX_ref, sqX_str, dEnumI_x, enX_tup, enX_ref, dRevA, dRevD, dSIndex, dLtS, dUpper, dListS, dDisp1, dRevT, dInS, dSortA, dIsi2, isT2, Bool.or_true, Bool.true_or, Bool.or_false, Bool.or_self, dCallX, dRaise, dTryO, dTryA, dRaise1, dExF, dCls, dIsX, ↓exOne, WD0, ↓X0_, ↓X1_, ↓X2_, ↓X3_]
  obtain ⟨cv, hcv⟩ := G.x_BetweenError.some
  exact ⟨cv, hcv, .inr ⟨hb, fun c hc => ⟨true, G.xm_NoHeap_BetweenError c cv hc hcv, fun _ a d na hd => fun C hC => ⟨.ref C, true, rfl, hd, G.xi_NoHeap_NoHeap c C hc hC, fun _ => ⟨.ty "ValueError", true, rfl, hd, G.xt_NoHeap_ValueError c hc, fun _ C2 hC2 => ⟨.ref C2, false, rfl, hd, G.xi_NoHeap_NoPlan c C2 hc hC2, dn0 h⟩, nofun⟩, nofun⟩, nofun⟩⟩⟩
theorem pr__law_spoiled (G : Gv K mg) : Pr P w K mg base "_law_spoiled" 3 ["_law_state_here", "_law_things"] (S2 fun x y M Q => ∃ (f : Addr) (T : List (List Nat)), y = .ref f ∧ Pool M x ∧ M f = some (.lst (T.map wD)) ∧ T.length ≤ 90 ∧ (∀ t ∈ T, Fal t) ∧ ∀ z M', Sub M' M → BadX M' z → Q z M') := by
  refine (pr3 (k := 2) G.d__law_spoiled bi__law_spoiled sc__law_spoiled S2n (fun f cdv A outer s H E hr => (b_cons (s_set 2 sc__law_spoiled.nd (e_callP (pr__law_falling G) (hr.mono (by decide)) (by rfl) pass0 (a_cons (e_var 0) a_nil)))
      (b_cons (s_set 3 sc__law_spoiled.nd (e_lst (a_cons e_str (a_cons (e_op od_add (e_var 2) (e_ix (ixd (hu_of hr)) (e_var 2) (e_neg e_int))) (a_cons (e_op od_add (e_ix (ixd (hu_of hr)) (e_var 2) e_int) (e_var 2)) (a_cons (e_upper (e_var 2)) (a_cons (e_op od_add (e_var 2) e_str) (a_cons (e_op od_add (e_var 2) e_str) (a_cons e_non (a_cons e_int (a_cons (e_callTy (cd_listS rfl) (by rfl) G.b_list rfl (a_cons (e_var 2) a_nil)) (a_cons (e_op od_add (e_var 2) e_str) a_nil))))))))))))
      (b_cons (s_set 3 sc__law_spoiled.nd (e_op od_add (e_var 3) (e_lst (a_cons (e_tup (a_cons (e_var 2) a_nil)) (a_cons e_bl (a_cons (e_revT e_str) (a_cons (e_op od_add e_str (e_var 2)) a_nil)))))))
      (b_cut (s_set 4 sc__law_spoiled.nd (e_ix (ixd (hu_of hr)) (e_var 3) (e_callP (pr__law_draw G) (hr.mono (by decide)) (by rfl) pass0 (a_cons (e_var 0) (a_cons e_int a_nil)))))
      (b_cons (s_set 5 sc__law_spoiled.nd (e_callP (pr__law_draw G) (hr.mono (by decide)) (by rfl) pass0 (a_cons (e_var 0) (a_cons e_int a_nil))))
      (b_cons (s_if (t_cmp od_lt (e_var 5) e_int) (b_one (s_ret (e_ix (ixd (hu_of hr)) (e_lst (a_cons e_non (a_cons (e_var 2) (a_cons (e_disp1 (e_var 2) e_bl) a_nil)))) (e_var 5)))) b_nil)
      (b_cons (s_set 6 sc__law_spoiled.nd (e_callP (pr__law_draw G) (hr.mono (by decide)) (by rfl) pass0 (a_cons (e_var 0) (a_cons (e_op od_add (e_callB cd_len (by rfl) G.b_len rfl (a_cons (e_var 1) a_nil)) e_int) a_nil))))
      (b_one (s_ret (e_op od_add (e_op od_add (e_slice slD (e_var 1) o_none (o_some (e_var 6))) (e_lst (a_cons (e_var 4) a_nil))) (e_slice slD (e_var 1) (o_some (e_var 6)) o_none))))))))))))) ?_
  rintro _ M Q E ⟨x, _, rfl, f, T, rfl, hp, hf, hl, hF, h⟩ H rep
  refine ⟨M, rep, fun _ h => h, ?_⟩
  simp only [startD, List.map_cons, List.map_nil, List.length_cons, List.length_nil, Nat.reduceAdd, Nat.reduceSub, Nat.zero_add, List.replicate, List.cons_append, List.nil_append]; simp (config := {failIfUnchanged := false}) only [dC, dOp, dTest, dChain, dAnd, dOr, dNot, dAndV, dOrV, dNotV, dIf, dNil, dCons, dTup, dLst, dCB, d1, dNoPart, dPart, dSl, dCut, dNeg, dSorted, dSum, dAll, dAny, dInt, dAbs, dMax, dMin, dIsi, isT, dNext, dSeq, dBrk, dCont, dNever, dExpr, dRet, dRetN, dIfS, dAsg, dPutI, dI0, dI, dIsN, dNotN, dRng1, dRng2, dRngDn, dZipI, dYes, dCall, dLM, dAppend, dExtend, dReverse, dInsert, dAugI, dRg1, dRg2, dTupRg, dLstRg, dNewK, dNewT, ↓S0_, ↓S1_, ↓S2_, ↓S3_, ↓S4_, ↓S5_, ↓S6_, List.map_cons, List.map_nil, List.length_cons, List.length_nil, List.replicate, List.cons_append, List.nil_append, Nat.reduceAdd, Nat.reduceSub, Nat.zero_add, List.getElem?_cons_zero, List.getElem?_cons_succ, Option.some.injEq, exists_eq_left, exists_eq_left', List.set_cons_zero, List.set_cons_succ, wipeD, D.int.injEq, D.bl.injEq, D.str.injEq, D.ref.injEq, D.tup.injEq, D.ty.injEq, true_and, and_true, forall_const, forall_eq', forall_eq, mt_int, mt_bool, mt_str, mt_tuple, mt_list, mt_dict, st_int_int, st_int_bool, st_int_str, st_int_tuple, st_int_list, st_int_dict, st_bool_int, st_bool_bool, st_bool_str, st_bool_tuple, st_bool_list, st_bool_dict, st_str_int, st_str_bool, st_str_str, st_str_tuple, st_str_list, st_str_dict, st_tuple_int, st_tuple_bool, st_tuple_str, st_tuple_tuple, st_tuple_list, st_tuple_dict, st_list_int, st_list_bool, st_list_str, st_list_tuple, st_list_list, st_list_dict, st_dict_int, st_dict_bool, st_dict_str, st_dict_tuple, st_dict_list, st_dict_dict, eq_self, Bool.true_eq_false, Bool.false_eq_true, false_implies, true_implies, implies_true, decide_eq_true_eq, decide_eq_false_iff_not, Bool.not_true, Bool.not_false, Bool.not_eq_true, Bool.not_eq_false, Bool.not_eq_true', Bool.not_eq_false', not_true_eq_false, not_false_eq_true, false_and, and_false, or_false, false_or, reduceCtorEq, ↓exLSu, ↓exDKu, ↓exDKd, ↓exLSd, ↓exLu, ↓dIxRu, ↓dPutu, ↓dGetAu, ↓dEq_int, ↓dNe_int, ↓dEq_bl, ↓dNe_bl, ↓dEq_str, ↓dNe_str, ↓dAdd_int, ↓exAt10, ↓exIx10, ↓exAt20, ↓exIx20, ↓exAt21, ↓exIx21, ↓exAt30, ↓exIx30, ↓exAt31, ↓exIx31, ↓exAt32, ↓exIx32, ↓exAt40, ↓exIx40, ↓exAt41, ↓exIx41, ↓exAt42, ↓exIx42, ↓exAt43, ↓exIx43, ↓exAt50, ↓exIx50, ↓exAt51, ↓exIx51, ↓exAt52, ↓exIx52, ↓exAt53, ↓exIx53, ↓exAt54, ↓exIx54, ↓exAt60, ↓exIx60, ↓exAt61, ↓exIx61, ↓exAt62, ↓exIx62, ↓exAt63, ↓exIx63, ↓exAt64, ↓exIx64, ↓exAt65, ↓exIx65, up_up, false_or, or_false, ↓exAtM, ↓dFlag_bl, ↓exBl, ↓exInt, ↓exRef, ↓dVar0, ↓dAug0, ↓dSet0, ↓dTgN0, ↓dTgW0, ↓dVar1, ↓dAug1, ↓dSet1, ↓dTgN1, ↓dTgW1, ↓dVar2, ↓dAug2, ↓dSet2, ↓dTgN2, ↓dTgW2, ↓dVar3, ↓dAug3, ↓dSet3, ↓dTgN3, ↓dTgW3, ↓dVar4, ↓dAug4, ↓dSet4, ↓dTgN4, ↓dTgW4, ↓dVar5, ↓dAug5, ↓dSet5, ↓dTgN5, ↓dTgW5, ↓dVar6, ↓dAug6, ↓dSet6, ↓dTgN6, ↓dTgW6, ↓dVar7, ↓dAug7, ↓dSet7, ↓dTgN7, ↓dTgW7, ↓dVar8, ↓dAug8, ↓dSet8, ↓dTgN8, ↓dTgW8, ↓dVar9, ↓dAug9, ↓dSet9, ↓dTgN9, ↓dTgW9, ↓dVar10, ↓dAug10, ↓dSet10, ↓dTgN10, ↓dTgW10, ↓dVar11, ↓dAug11, ↓dSet11, ↓dTgN11, ↓dTgW11, ↓dVar12, ↓dAug12, ↓dSet12, ↓dTgN12, ↓dTgW12, ↓dVar13, ↓dAug13, ↓dSet13, ↓dTgN13, ↓dTgW13, ↓dVar14, ↓dAug14, ↓dSet14, ↓dTgN14, ↓dTgW14, ↓dVar15, ↓dAug15, ↓dSet15, ↓dTgN15, ↓dTgW15, ↓dVar16, ↓dAug16, ↓dSet16, ↓dTgN16, ↓dTgW16, ↓dVar17, ↓dAug17, ↓dSet17, ↓dTgN17, ↓dTgW17, ↓dVar18, ↓dAug18, ↓dSet18, ↓dTgN18, ↓dTgW18, ↓dVar19, ↓dAug19, ↓dSet19, ↓dTgN19, ↓dTgW19, ↓dTg_t2, ↓dTg_t3, ↓exGetM, ↓exSumU, nD, plD, rwD, ↓dAdd_tup, ↓dAdd_ref, dIx_tup, dIx_str, dIx_ref, dIx_kl, dListOf_tup, dListOf_kl, dListOf_ref, dLen_tup, dLen_str, dLen_kl, dLen_ref, dTupOf_tup, dTupOf_ref, dSeqI_x, sqX_tup, sqX_ref, sqX_str, dEnumI_x, enX_tup, enX_ref, dRevA, dRevD, dSIndex, dLtS, dUpper, dListS, dDisp1, dRevT, dInS, dSortA, dIsi2, isT2, Bool.or_true, Bool.true_or, Bool.or_false, Bool.or_self, dCallX, dRaise, dTryO, dTryA, dRaise1, dExF, dCls, dIsX, ↓exOne, WD0, ↓X0_, ↓X1_, ↓X2_, ↓X3_]
  refine ⟨hp, fun c hc => ?_⟩
  have lw : (wS c).length ≤ 26 := by rw [wS_len31]; exact hc.len
  have ls : (wS c).length ≤ sizeLine := small_es (by omega)
  have l1 : ∀ n, n ≤ 1 → (wS c).length + n ≤ sizeLine := fun n hn => small_es (by omega)
  have l2 : ∀ n, n ≤ 1 → n + (wS c).length ≤ sizeLine := fun n hn => small_es (by omega)
  simp only [wD, dCutS, ↓dAdd_s, dC, dOp, dTest, dChain, dAnd, dOr, dNot, dAndV, dOrV, dNotV, dIf, dNil, dCons, dTup, dLst, dCB, d1, dNoPart, dPart, dSl, dCut, dNeg, dSorted, dSum, dAll, dAny, dInt, dAbs, dMax, dMin, dIsi, isT, dNext, dSeq, dBrk, dCont, dNever, dExpr, dRet, dRetN, dIfS, dAsg, dPutI, dI0, dI, dIsN, dNotN, dRng1, dRng2, dRngDn, dZipI, dYes, dCall, dLM, dAppend, dExtend, dReverse, dInsert, dAugI, dRg1, dRg2, dTupRg, dLstRg, dNewK, dNewT, ↓S0_, ↓S1_, ↓S2_, ↓S3_, ↓S4_, ↓S5_, ↓S6_, List.map_cons, List.map_nil, List.length_cons, List.length_nil, List.replicate, List.cons_append, List.nil_append, Nat.reduceAdd, Nat.reduceSub, Nat.zero_add, List.getElem?_cons_zero, List.getElem?_cons_succ, Option.some.injEq, exists_eq_left, exists_eq_left', List.set_cons_zero, List.set_cons_succ, wipeD, D.int.injEq, D.bl.injEq, D.str.injEq, D.ref.injEq, D.tup.injEq, D.ty.injEq, true_and, and_true, forall_const, forall_eq', forall_eq, mt_int, mt_bool, mt_str, mt_tuple, mt_list, mt_dict, st_int_int, st_int_bool, st_int_str, st_int_tuple, st_int_list, st_int_dict, st_bool_int, st_bool_bool, st_bool_str, st_bool_tuple, st_bool_list, st_bool_dict, st_str_int, st_str_bool, st_str_str, st_str_tuple, st_str_list, st_str_dict, st_tuple_int, st_tuple_bool, st_tuple_str, st_tuple_tuple, st_tuple_list, st_tuple_dict, st_list_int, st_list_bool, st_list_str, st_list_tuple, st_list_list, st_list_dict, st_dict_int, st_dict_bool, st_dict_str, st_dict_tuple, st_dict_list, st_dict_dict, eq_self, Bool.true_eq_false, Bool.false_eq_true, false_implies, true_implies, implies_true, decide_eq_true_eq, decide_eq_false_iff_not, Bool.not_true, Bool.not_false, Bool.not_eq_true, Bool.not_eq_false, Bool.not_eq_true', Bool.not_eq_false', not_true_eq_false, not_false_eq_true, false_and, and_false, or_false, false_or, reduceCtorEq, ↓exLSu, ↓exDKu, ↓exDKd, ↓exLSd, ↓exLu, ↓dIxRu, ↓dPutu, ↓dGetAu, ↓dEq_int, ↓dNe_int, ↓dEq_bl, ↓dNe_bl, ↓dEq_str, ↓dNe_str, ↓dAdd_int, ↓exAt10, ↓exIx10, ↓exAt20, ↓exIx20, ↓exAt21, ↓exIx21, ↓exAt30, ↓exIx30, ↓exAt31, ↓exIx31, ↓exAt32, ↓exIx32, ↓exAt40, ↓exIx40, ↓exAt41, ↓exIx41, ↓exAt42, ↓exIx42, ↓exAt43, ↓exIx43, ↓exAt50, ↓exIx50, ↓exAt51, ↓exIx51, ↓exAt52, ↓exIx52, ↓exAt53, ↓exIx53, ↓exAt54, ↓exIx54, ↓exAt60, ↓exIx60, ↓exAt61, ↓exIx61, ↓exAt62, ↓exIx62, ↓exAt63, ↓exIx63, ↓exAt64, ↓exIx64, ↓exAt65, ↓exIx65, up_up, false_or, or_false, ↓exAtM, ↓dFlag_bl, ↓exBl, ↓exInt, ↓exRef, ↓dVar0, ↓dAug0, ↓dSet0, ↓dTgN0, ↓dTgW0, ↓dVar1, ↓dAug1, ↓dSet1, ↓dTgN1, ↓dTgW1, ↓dVar2, ↓dAug2, ↓dSet2, ↓dTgN2, ↓dTgW2, ↓dVar3, ↓dAug3, ↓dSet3, ↓dTgN3, ↓dTgW3, ↓dVar4, ↓dAug4, ↓dSet4, ↓dTgN4, ↓dTgW4, ↓dVar5, ↓dAug5, ↓dSet5, ↓dTgN5, ↓dTgW5, ↓dVar6, ↓dAug6, ↓dSet6, ↓dTgN6, ↓dTgW6, ↓dVar7, ↓dAug7, ↓dSet7, ↓dTgN7, ↓dTgW7, ↓dVar8, ↓dAug8, ↓dSet8, ↓dTgN8, ↓dTgW8, ↓dVar9, ↓dAug9, ↓dSet9, ↓dTgN9, ↓dTgW9, ↓dVar10, ↓dAug10, ↓dSet10, ↓dTgN10, ↓dTgW10, ↓dVar11, ↓dAug11, ↓dSet11, ↓dTgN11, ↓dTgW11, ↓dVar12, ↓dAug12, ↓dSet12, ↓dTgN12, ↓dTgW12, ↓dVar13, ↓dAug13, ↓dSet13, ↓dTgN13, ↓dTgW13, ↓dVar14, ↓dAug14, ↓dSet14, ↓dTgN14, ↓dTgW14, ↓dVar15, ↓dAug15, ↓dSet15, ↓dTgN15, ↓dTgW15, ↓dVar16, ↓dAug16, ↓dSet16, ↓dTgN16, ↓dTgW16, ↓dVar17, ↓dAug17, ↓dSet17, ↓dTgN17, ↓dTgW17, ↓dVar18, ↓dAug18, ↓dSet18, ↓dTgN18, ↓dTgW18, ↓dVar19, ↓dAug19, ↓dSet19, ↓dTgN19, ↓dTgW19, ↓dTg_t2, ↓dTg_t3, ↓exGetM, ↓exSumU, nD, plD, rwD, ↓dAdd_tup, ↓dAdd_ref, dIx_tup, dIx_str, dIx_ref, dIx_kl, dListOf_tup, dListOf_kl, dListOf_ref, dLen_tup, dLen_str, dLen_kl, dLen_ref, dTupOf_tup, dTupOf_ref, dSeqI_x, sqX_tup, sqX_ref, sqX_str, dEnumI_x, enX_tup, enX_ref, dRevA, dRevD, dSIndex, dLtS, dUpper, dListS, dDisp1, dRevT, dInS, dSortA, dIsi2, isT2, Bool.or_true, Bool.true_or, Bool.or_false, Bool.or_self, dCallX, dRaise, dTryO, dTryA, dRaise1, dExF, dCls, dIsX, ↓exOne, WD0, ↓X0_, ↓X1_, ↓X2_, ↓X3_]
  refine ⟨_, ls, atW_last hc, l1 _ (Nat.le_refl 1), _, ls, atI_nat (j := 0) (show _ = some (122 - c.getD 0 0) from ?_), l2 _ (Nat.le_refl 1), Nat.le_trans lw (by decide), l1 _ (by decide), l1 _ (by decide), ls, fun q hq => ⟨l1 _ (by decide), fun p hpn => ⟨by decide, l2 _ (by decide), fun p1 hp1 => ⟨[D.str (Str.ofString ""), D.str (wS c ++ (⟨#[122 - c.getD (c.length - 1) 0]⟩ : Str)), D.str ((⟨#[122 - c.getD 0 0]⟩ : Str) ++ wS c), D.str (Txt.upper (wS c)), D.str (wS c ++ Str.ofString "Z"), D.str (wS c ++ Str.ofString "{"), D.non, D.int 0, D.ref q, D.str (wS c ++ Str.ofString " ")], ?_, by show 10 + 4 ≤ sizeLine; decide, fun l hl => ⟨fun δ M' => Sub M' M ∧ ∃ w b, FalR M' w false ∧ δ = [some x, some (.ref f), some (wD c), b, some w, none, none], ?_, ?_⟩⟩⟩⟩⟩
  · rw [wS_list, List.getElem?_map, get_of31 hc.pos]; rfl
  · have n : p ≠ p1 := by rintro rfl; rw [up_same] at hp1; cases hp1
    rw [up_ne n, up_same]
  · have sq : Sub (up M q (.lst ((wS c).cps.toList.map fun c => D.str ⟨#[c]⟩))) M := Sub.new hq (by intro _ z; cases z)
    have hq1 : up M q (.lst ((wS c).cps.toList.map fun c => D.str ⟨#[c]⟩)) q = some (.lst ((wS c).cps.toList.map fun c => D.str ⟨#[c]⟩)) := up_same
    generalize up M q (.lst ((wS c).cps.toList.map fun c => D.str ⟨#[c]⟩)) = M1 at *
    have s2 := Sub.new (o := .lst [D.str (Str.ofString ""), D.str (wS c ++ (⟨#[122 - c.getD (c.length - 1) 0]⟩ : Str)), D.str ((⟨#[122 - c.getD 0 0]⟩ : Str) ++ wS c), D.str (Txt.upper (wS c)), D.str (wS c ++ Str.ofString "Z"), D.str (wS c ++ Str.ofString "{"), D.non, D.int 0, D.ref q, D.str (wS c ++ Str.ofString " ")]) hpn (by intro _ z; cases z)
    have s3 := Sub.new (o := .lst [D.tup [D.str (wS c)], D.bl true, D.str (revT (Str.ofString "zy")), D.str (Str.ofString "0" ++ wS c)]) hp1 (by intro _ z; cases z)
    have sl := Sub.new (o := .lst ([D.str (Str.ofString ""), D.str (wS c ++ (⟨#[122 - c.getD (c.length - 1) 0]⟩ : Str)), D.str ((⟨#[122 - c.getD 0 0]⟩ : Str) ++ wS c), D.str (Txt.upper (wS c)), D.str (wS c ++ Str.ofString "Z"), D.str (wS c ++ Str.ofString "{"), D.non, D.int 0, D.ref q, D.str (wS c ++ Str.ofString " ")] ++ [D.tup [D.str (wS c)], D.bl true, D.str (revT (Str.ofString "zy")), D.str (Str.ofString "0" ++ wS c)])) hl (by intro _ z; cases z)
    have s5 := (sl.trans (s3.trans s2))
    have hq5 := s5.1 _ _ hq1
    have s6 := s5.trans sq
    have out : ∀ (z : Str) (y : Nat), y ∈ z.cps.toList → (y < 97 ∨ 122 < y) → fallB z.cps.toList = false := fun z y hy hr => fall_out hy fun m => by
      have := L26_low m
      omega
    have mR : ∀ (b : Str) (y : Nat), y ∈ b.cps.toList → y ∈ (wS c ++ b).cps.toList := fun b y hy => by rw [app31]; exact List.mem_append.mpr (.inr hy)
    have key : ∀ w ∈ [D.str (Str.ofString ""), D.str (wS c ++ (⟨#[122 - c.getD (c.length - 1) 0]⟩ : Str)), D.str ((⟨#[122 - c.getD 0 0]⟩ : Str) ++ wS c), D.str (Txt.upper (wS c)), D.str (wS c ++ Str.ofString "Z"), D.str (wS c ++ Str.ofString "{"), D.non, D.int 0, D.ref q, D.str (wS c ++ Str.ofString " ")] ++ [D.tup [D.str (wS c)], D.bl true, D.str (revT (Str.ofString "zy")), D.str (Str.ofString "0" ++ wS c)], FalR _ w false := fun w hw => by
      simp only [List.mem_append, List.mem_cons, List.not_mem_nil, or_false] at hw
      rcases hw with (rfl | rfl | rfl | rfl | rfl | rfl | rfl | rfl | rfl | rfl) | rfl | rfl | rfl | rfl
      · exact .inl ⟨_, rfl, by decide, by decide⟩
      · exact .inl ⟨_, rfl, by rw [len_app31]; show (wS c).length + 1 ≤ 100; omega, (fall_last hc).symm⟩
      · exact .inl ⟨_, rfl, by rw [len_app31]; show 1 + (wS c).length ≤ 100; omega, (fall_first hc).symm⟩
      · exact .inl ⟨_, rfl, by have := PyProof.Rows.len_upper (wS c); omega, (up_out hc).symm⟩
      · exact .inl ⟨_, rfl, by rw [len_app31]; show (wS c).length + 1 ≤ 100; omega, (out _ 90 (mR _ _ (by decide)) (by omega)).symm⟩
      · exact .inl ⟨_, rfl, by rw [len_app31]; show (wS c).length + 1 ≤ 100; omega, (out _ 123 (mR _ _ (by decide)) (by omega)).symm⟩
      · exact .inr ⟨.inl rfl, rfl⟩
      · exact .inr ⟨.inr (.inl ⟨_, rfl⟩), rfl⟩
      · exact .inr ⟨.inr (.inr (.inr (.inr ⟨_, _, rfl, hq5⟩))), rfl⟩
      · exact .inl ⟨_, rfl, by rw [len_app31]; show (wS c).length + 1 ≤ 100; omega, (out _ 32 (mR _ _ (by decide)) (by omega)).symm⟩
      · exact .inr ⟨.inr (.inr (.inr (.inl ⟨_, rfl⟩))), rfl⟩
      · exact .inr ⟨.inr (.inr (.inl ⟨_, rfl⟩)), rfl⟩
      · exact .inl ⟨_, rfl, by decide, by decide⟩
      · exact .inl ⟨_, rfl, by rw [len_app31]; show 1 + (wS c).length ≤ 100; omega, (out _ 48 (by rw [app31]; exact List.mem_append.mpr (.inl (by decide))) (by omega)).symm⟩
    have l14 : ([D.str (Str.ofString ""), D.str (wS c ++ (⟨#[122 - c.getD (c.length - 1) 0]⟩ : Str)), D.str ((⟨#[122 - c.getD 0 0]⟩ : Str) ++ wS c), D.str (Txt.upper (wS c)), D.str (wS c ++ Str.ofString "Z"), D.str (wS c ++ Str.ofString "{"), D.non, D.int 0, D.ref q, D.str (wS c ++ Str.ofString " ")] ++ [D.tup [D.str (wS c)], D.bl true, D.str (revT (Str.ofString "zy")), D.str (Str.ofString "0" ++ wS c)]).length = 14 := rfl
    generalize [D.str (Str.ofString ""), D.str (wS c ++ (⟨#[122 - c.getD (c.length - 1) 0]⟩ : Str)), D.str ((⟨#[122 - c.getD 0 0]⟩ : Str) ++ wS c), D.str (Txt.upper (wS c)), D.str (wS c ++ Str.ofString "Z"), D.str (wS c ++ Str.ofString "{"), D.non, D.int 0, D.ref q, D.str (wS c ++ Str.ofString " ")] ++ [D.tup [D.str (wS c)], D.bl true, D.str (revT (Str.ofString "zy")), D.str (Str.ofString "0" ++ wS c)] = LL at *
    exact ⟨14, rfl, hp.sub s6, by omega, by omega, fun v hv => ⟨_, atI_nat (List.getElem?_eq_getElem (show v < LL.length by omega)), s6, _, _, key _ (List.getElem_mem _), rfl⟩⟩
  rintro δ M1 ⟨s1, w, b, hw, rfl⟩
  have hp1 := hp.sub s1
  have hf1 := s1.1 _ _ hf
  simp only [wD, ↓dAdd_s, dC, dOp, dTest, dChain, dAnd, dOr, dNot, dAndV, dOrV, dNotV, dIf, dNil, dCons, dTup, dLst, dCB, d1, dNoPart, dPart, dSl, dCut, dNeg, dSorted, dSum, dAll, dAny, dInt, dAbs, dMax, dMin, dIsi, isT, dNext, dSeq, dBrk, dCont, dNever, dExpr, dRet, dRetN, dIfS, dAsg, dPutI, dI0, dI, dIsN, dNotN, dRng1, dRng2, dRngDn, dZipI, dYes, dCall, dLM, dAppend, dExtend, dReverse, dInsert, dAugI, dRg1, dRg2, dTupRg, dLstRg, dNewK, dNewT, ↓S0_, ↓S1_, ↓S2_, ↓S3_, ↓S4_, ↓S5_, ↓S6_, List.map_cons, List.map_nil, List.length_cons, List.length_nil, List.replicate, List.cons_append, List.nil_append, Nat.reduceAdd, Nat.reduceSub, Nat.zero_add, List.getElem?_cons_zero, List.getElem?_cons_succ, Option.some.injEq, exists_eq_left, exists_eq_left', List.set_cons_zero, List.set_cons_succ, wipeD, D.int.injEq, D.bl.injEq, D.str.injEq, D.ref.injEq, D.tup.injEq, D.ty.injEq, true_and, and_true, forall_const, forall_eq', forall_eq, mt_int, mt_bool, mt_str, mt_tuple, mt_list, mt_dict, st_int_int, st_int_bool, st_int_str, st_int_tuple, st_int_list, st_int_dict, st_bool_int, st_bool_bool, st_bool_str, st_bool_tuple, st_bool_list, st_bool_dict, st_str_int, st_str_bool, st_str_str, st_str_tuple, st_str_list, st_str_dict, st_tuple_int, st_tuple_bool, st_tuple_str, st_tuple_tuple, st_tuple_list, st_tuple_dict, st_list_int, st_list_bool, st_list_str, st_list_tuple, st_list_list, st_list_dict, st_dict_int, st_dict_bool, st_dict_str, st_dict_tuple, st_dict_list, st_dict_dict, eq_self, Bool.true_eq_false, Bool.false_eq_true, false_implies, true_implies, implies_true, decide_eq_true_eq, decide_eq_false_iff_not, Bool.not_true, Bool.not_false, Bool.not_eq_true, Bool.not_eq_false, Bool.not_eq_true', Bool.not_eq_false', not_true_eq_false, not_false_eq_true, false_and, and_false, or_false, false_or, reduceCtorEq, ↓exLSu, ↓exDKu, ↓exDKd, ↓exLSd, ↓exLu, ↓dIxRu, ↓dPutu, ↓dGetAu, ↓dEq_int, ↓dNe_int, ↓dEq_bl, ↓dNe_bl, ↓dEq_str, ↓dNe_str, ↓dAdd_int, ↓exAt10, ↓exIx10, ↓exAt20, ↓exIx20, ↓exAt21, ↓exIx21, ↓exAt30, ↓exIx30, ↓exAt31, ↓exIx31, ↓exAt32, ↓exIx32, ↓exAt40, ↓exIx40, ↓exAt41, ↓exIx41, ↓exAt42, ↓exIx42, ↓exAt43, ↓exIx43, ↓exAt50, ↓exIx50, ↓exAt51, ↓exIx51, ↓exAt52, ↓exIx52, ↓exAt53, ↓exIx53, ↓exAt54, ↓exIx54, ↓exAt60, ↓exIx60, ↓exAt61, ↓exIx61, ↓exAt62, ↓exIx62, ↓exAt63, ↓exIx63, ↓exAt64, ↓exIx64, ↓exAt65, ↓exIx65, up_up, false_or, or_false, ↓exAtM, ↓dFlag_bl, ↓exBl, ↓exInt, ↓exRef, ↓dVar0, ↓dAug0, ↓dSet0, ↓dTgN0, ↓dTgW0, ↓dVar1, ↓dAug1, ↓dSet1, ↓dTgN1, ↓dTgW1, ↓dVar2, ↓dAug2, ↓dSet2, ↓dTgN2, ↓dTgW2, ↓dVar3, ↓dAug3, ↓dSet3, ↓dTgN3, ↓dTgW3, ↓dVar4, ↓dAug4, ↓dSet4, ↓dTgN4, ↓dTgW4, ↓dVar5, ↓dAug5, ↓dSet5, ↓dTgN5, ↓dTgW5, ↓dVar6, ↓dAug6, ↓dSet6, ↓dTgN6, ↓dTgW6, ↓dVar7, ↓dAug7, ↓dSet7, ↓dTgN7, ↓dTgW7, ↓dVar8, ↓dAug8, ↓dSet8, ↓dTgN8, ↓dTgW8, ↓dVar9, ↓dAug9, ↓dSet9, ↓dTgN9, ↓dTgW9, ↓dVar10, ↓dAug10, ↓dSet10, ↓dTgN10, ↓dTgW10, ↓dVar11, ↓dAug11, ↓dSet11, ↓dTgN11, ↓dTgW11, ↓dVar12, ↓dAug12, ↓dSet12, ↓dTgN12, ↓dTgW12, ↓dVar13, ↓dAug13, ↓dSet13, ↓dTgN13, ↓dTgW13, ↓dVar14, ↓dAug14, ↓dSet14, ↓dTgN14, ↓dTgW14, ↓dVar15, ↓dAug15, ↓dSet15, ↓dTgN15, ↓dTgW15, ↓dVar16, ↓dAug16, ↓dSet16, ↓dTgN16, ↓dTgW16, ↓dVar17, ↓dAug17, ↓dSet17, ↓dTgN17, ↓dTgW17, ↓dVar18, ↓dAug18, ↓dSet18, ↓dTgN18, ↓dTgW18, ↓dVar19, ↓dAug19, ↓dSet19, ↓dTgN19, ↓dTgW19, ↓dTg_t2, ↓dTg_t3, ↓exGetM, ↓exSumU, nD, plD, rwD, ↓dAdd_tup, ↓dAdd_ref, dIx_tup, dIx_str, dIx_ref, dIx_kl, dListOf_tup, dListOf_kl, dListOf_ref, dLen_tup, dLen_str, dLen_kl, dLen_ref, dTupOf_tup, dTupOf_ref, dSeqI_x, sqX_tup, sqX_ref, sqX_str, dEnumI_x, enX_tup, enX_ref, dRevA, dRevD, dSIndex, dLtS, dUpper, dListS, dDisp1, dRevT, dInS, dSortA, dIsi2, isT2, Bool.or_true, Bool.true_or, Bool.or_false, Bool.or_self, dCallX, dRaise, dTryO, dTryA, dRaise1, dExF, dCls, dIsX, ↓exOne, WD0, ↓X0_, ↓X1_, ↓X2_, ↓X3_]
  refine ⟨9, rfl, hp1, by omega, by omega, fun v hv => ⟨fun h3 => ⟨.inr (wS c), rfl, fun p hpn p2 hp2 => ?_⟩, fun h3 => .inl ⟨_, .inl hf1, T.length + 1, by rw [List.length_map]; rfl, hp1, by omega, by omega, fun u hu => ⟨_, .inl hf1, fun q hq p hpn => ?_⟩⟩⟩⟩
  · have npp : p ≠ p2 := by rintro rfl; rw [up_same] at hp2; cases hp2
    have s4 : Sub (up M1 p (.dK [(.inr (wS c), D.bl true)])) M1 := Sub.new hpn (by intro _ z; cases z)
    have hd : up (up M1 p (.dK [(.inr (wS c), D.bl true)])) p2 (.lst [D.non, D.str (wS c), D.ref p]) p = some (.dK [(.inr (wS c), D.bl true)]) := by rw [up_ne npp, up_same]
    have s5 : Sub (up (up M1 p (.dK [(.inr (wS c), D.bl true)])) p2 (.lst [D.non, D.str (wS c), D.ref p])) M := (Sub.new hp2 (by intro _ z; cases z)).trans (s4.trans s1)
    generalize up (up M1 p (.dK [(.inr (wS c), D.bl true)])) p2 (.lst [D.non, D.str (wS c), D.ref p]) = M5 at *
    have key : ∀ z ∈ [D.non, D.str (wS c), D.ref p], BadX M5 z := fun z hz => by
      simp only [List.mem_cons, List.not_mem_nil, or_false] at hz
      rcases hz with rfl | rfl | rfl
      · exact .inl rfl
      · exact .inr (.inl ⟨_, rfl⟩)
      · exact .inr (.inr (.inl ⟨_, _, rfl, hd⟩))
    have l3 : [D.non, D.str (wS c), D.ref p].length = 3 := rfl
    generalize [D.non, D.str (wS c), D.ref p] = LL at *
    exact ⟨_, atI_nat (List.getElem?_eq_getElem (show v < LL.length by omega)), dn0 (h _ M5 s5 (key _ (List.getElem_mem _)))⟩
  rw [cutD_to] at hpn ⊢
  have nqp : q ≠ p := by rintro rfl; rw [up_same] at hpn; cases hpn
  refine ⟨(T.map wD).take u, by rw [up_ne nqp, up_same], ?_, fun l hl => ?_⟩
  · have := List.length_take_le u (T.map wD)
    exact small_es (by omega)
  have s4 : Sub (up M1 q (.lst ((T.map wD).take u))) M1 := Sub.new hq (by intro _ z; cases z)
  have s5 := (Sub.new (o := .lst [w]) hpn (by intro _ z; cases z)).trans s4
  have s6 := (Sub.new (o := .lst ((T.map wD).take u ++ [w])) hl (by intro _ z; cases z)).trans s5
  refine ⟨_, .inl (s6.1 _ _ hf1), fun q1 hq1 => ?_⟩
  rw [cutD_from]
  have nlq : l ≠ q1 := by rintro rfl; rw [up_same] at hq1; cases hq1
  have s7 := (Sub.new (o := .lst ((T.map wD).drop u)) hq1 (by intro _ z; cases z)).trans s6
  refine ⟨(T.map wD).take u ++ [w], by rw [up_ne nlq, up_same], ?_, fun l2 hl2 => ?_⟩
  · have := List.length_take_le u (T.map wD)
    rw [List.length_append, List.length_drop, List.length_singleton, List.length_map]
    exact small_es (by omega)
  have s8 := (Sub.new (o := .lst ((T.map wD).take u ++ [w] ++ (T.map wD).drop u)) hl2 (by intro _ z; cases z)).trans s7
  refine dn0 (h _ _ (s8.trans s1) (.inr (.inr (.inr ⟨l2, (T.map fun t => (wD t, true)).take u ++ [(w, false)] ++ (T.map fun t => (wD t, true)).drop u, rfl, ?_, ?_, fun d hd => ?_, (w, false), by simp, rfl⟩))))
  · rw [up_same, List.map_append, List.map_append, List.map_take, List.map_drop, List.map_map]; rfl
  · have := List.length_take_le u (T.map fun t => (wD t, true))
    rw [List.length_append, List.length_append, List.length_drop, List.length_singleton, List.length_map]
    omega
  · have gd : ∀ (M' : Hd), ∀ d ∈ T.map (fun t => (wD t, true)), FalR M' d.1 d.2 := fun M' d hd => by
      obtain ⟨t, ht, rfl⟩ := List.mem_map.mp hd
      exact FalR.ok (hF t ht)
    simp only [List.mem_append, List.mem_singleton] at hd
    rcases hd with (z | rfl) | z
    · exact gd _ d (List.mem_of_mem_take z)
    · exact hw.sub s8
    · exact gd _ d (List.mem_of_mem_drop z)
end
theorem sub_list31 : ∀ ws : List (List Nat), ∃ l : List {s : Str // PyData.strOk s = true}, l.map (fun a => D.str a.1) = ws.map wD := fun ws => ⟨ws.map sT, by rw [List.map_map]; rfl⟩
theorem strs_eq31 {M : Hd} {p q : Addr} {ws : List (List Nat)} {Q : Bool → Prop} (hp : LS M p (ws.map wD)) (hq : LS M q (ws.map wD)) (z : Q true) : dEqD (.ref p) (.ref q) M Q := by
  obtain ⟨l, e⟩ := sub_list31 ws
  rw [← e] at hp hq
  exact like_s.dEqL (by decide) hp hq (by rw [decide_eq_true rfl]; exact z)
section
variable {P : Program} {w : World} {K : PySem.W.Frag} {mg : Str → Option Value} {base : Heap}
theorem pr__law_asked (G : Gv K mg) : Pr P w K mg base "_law_asked" 3 ["_law_state_here", "_law_things"] (S2 fun x y M Q => ∃ (f : Addr) (T : List (List Nat)), y = .ref f ∧ Pool M x ∧ M f = some (.lst (T.map wD)) ∧ T.length ≤ 61 ∧ (∀ t ∈ T, Fal t) ∧ Q (.bl true) M) := by
  refine (pr3 (k := 2) G.d__law_asked bi__law_asked sc__law_asked S2n (fun f cdv A outer s H E hr => (b_cons (s_set 2 sc__law_asked.nd (e_callP (pr__law_beginnings G) (hr.mono (by decide)) (by rfl) pass0 (a_cons (e_var 1) a_nil)))
      (b_cut (s_set 3 sc__law_asked.nd (e_if (t_cmp (od_eq (hu3 hr)) (e_callP (pr__law_draw G) (hr.mono (by decide)) (by rfl) pass0 (a_cons (e_var 0) (a_cons e_int a_nil))) e_int) (e_callTy cd_tuple (by rfl) G.b_tuple rfl (a_cons (e_var 1) a_nil)) (e_callTy (cd_list rfl) (by rfl) G.b_list rfl (a_cons (e_var 1) a_nil))))
      (b_cons (s_set 4 sc__law_asked.nd (e_callX (pr_lacking G) (hr.mono (by decide)) (by rfl) tk0 (a_cons (e_var 3) a_nil)))
      (b_cut (s_if (PW3.pt (w_or (t_not (t_val (e_callP (pr__law_alike G) (hr.mono (by decide)) (by rfl) pass0 (a_cons (e_var 4) (a_cons (e_var 2) a_nil))))) (w_or1 (t_cmp (od_ne (hu3 hr)) (e_callTy (cd_list rfl) (by rfl) G.b_list rfl (a_cons (e_var 3) a_nil)) (e_var 1))))) (b_one (s_ret e_bl)) b_nil)
      (b_cons (s_expr (e_lm PySem.F.slot_list_append PySem.F.type_list_append m_append (e_var 4) (a_cons e_str a_nil)))
      (b_cons (s_expr (e_lm0 PySem.F.slot_list_reverse PySem.F.type_list_reverse m_reverse (e_var 4)))
      (b_cons (s_if (PW3.pt (w_or (t_not (t_val (e_callP (pr__law_alike G) (hr.mono (by decide)) (by rfl) pass0 (a_cons (e_callX (pr_lacking G) (hr.mono (by decide)) (by rfl) tk0 (a_cons (e_var 3) a_nil)) (a_cons (e_var 2) a_nil))))) (w_or1 (t_not (t_val (e_callP (pr__law_alike G) (hr.mono (by decide)) (by rfl) pass0 (a_cons (e_callX (pr_lacking G) (hr.mono (by decide)) (by rfl) tk0 (a_cons (e_op od_add (e_var 1) (e_revA (e_var 2))) a_nil)) (a_cons (e_lst a_nil) a_nil)))))))) (b_one (s_ret e_bl)) b_nil)
      (b_cons (s_if (t_cmp (od_eq (hu3 hr)) (e_callB cd_len (by rfl) G.b_len rfl (a_cons (e_var 2) a_nil)) e_int) (b_one (s_ret e_bl)) b_nil)
      (b_cons (s_set 5 sc__law_asked.nd (e_callP (pr__law_draw G) (hr.mono (by decide)) (by rfl) pass0 (a_cons (e_var 0) (a_cons (e_callB cd_len (by rfl) G.b_len rfl (a_cons (e_var 2) a_nil)) a_nil))))
      (b_cons (s_set 6 sc__law_asked.nd (e_op od_add (e_op od_add (e_var 1) (e_slice slD (e_var 2) o_none (o_some (e_var 5)))) (e_slice slD (e_var 2) (o_some (e_op od_add (e_var 5) e_int)) o_none)))
      (b_one (s_ret (e_callP (pr__law_alike G) (hr.mono (by decide)) (by rfl) pass0 (a_cons (e_callX (pr_lacking G) (hr.mono (by decide)) (by rfl) tk0 (a_cons (e_var 6) a_nil)) (a_cons (e_lst (a_cons (e_ix (ixd (hu_of hr)) (e_var 2) (e_var 5)) a_nil)) a_nil))))))))))))))))) ?_
  rintro _ M Q E ⟨x, _, rfl, f, T, rfl, hp, hf, hl, hF, h⟩ H rep
  refine ⟨M, rep, fun _ h => h, ?_⟩
  simp only [startD, List.map_cons, List.map_nil, List.length_cons, List.length_nil, Nat.reduceAdd, Nat.reduceSub, Nat.zero_add, List.replicate, List.cons_append, List.nil_append]; simp (config := {failIfUnchanged := false}) only [dC, dOp, dTest, dChain, dAnd, dOr, dNot, dAndV, dOrV, dNotV, dIf, dNil, dCons, dTup, dLst, dCB, d1, dNoPart, dPart, dSl, dCut, dNeg, dSorted, dSum, dAll, dAny, dInt, dAbs, dMax, dMin, dIsi, isT, dNext, dSeq, dBrk, dCont, dNever, dExpr, dRet, dRetN, dIfS, dAsg, dPutI, dI0, dI, dIsN, dNotN, dRng1, dRng2, dRngDn, dZipI, dYes, dCall, dLM, dAppend, dExtend, dReverse, dInsert, dAugI, dRg1, dRg2, dTupRg, dLstRg, dNewK, dNewT, ↓S0_, ↓S1_, ↓S2_, ↓S3_, ↓S4_, ↓S5_, ↓S6_, List.map_cons, List.map_nil, List.length_cons, List.length_nil, List.replicate, List.cons_append, List.nil_append, Nat.reduceAdd, Nat.reduceSub, Nat.zero_add, List.getElem?_cons_zero, List.getElem?_cons_succ, Option.some.injEq, exists_eq_left, exists_eq_left', List.set_cons_zero, List.set_cons_succ, wipeD, D.int.injEq, D.bl.injEq, D.str.injEq, D.ref.injEq, D.tup.injEq, D.ty.injEq, true_and, and_true, forall_const, forall_eq', forall_eq, mt_int, mt_bool, mt_str, mt_tuple, mt_list, mt_dict, st_int_int, st_int_bool, st_int_str, st_int_tuple, st_int_list, st_int_dict, st_bool_int, st_bool_bool, st_bool_str, st_bool_tuple, st_bool_list, st_bool_dict, st_str_int, st_str_bool, st_str_str, st_str_tuple, st_str_list, st_str_dict, st_tuple_int, st_tuple_bool, st_tuple_str, st_tuple_tuple, st_tuple_list, st_tuple_dict, st_list_int, st_list_bool, st_list_str, st_list_tuple, st_list_list, st_list_dict, st_dict_int, st_dict_bool, st_dict_str, st_dict_tuple, st_dict_list, st_dict_dict, eq_self, Bool.true_eq_false, Bool.false_eq_true, false_implies, true_implies, implies_true, decide_eq_true_eq, decide_eq_false_iff_not, Bool.not_true, Bool.not_false, Bool.not_eq_true, Bool.not_eq_false, Bool.not_eq_true', Bool.not_eq_false', not_true_eq_false, not_false_eq_true, false_and, and_false, or_false, false_or, reduceCtorEq, ↓exLSu, ↓exDKu, ↓exDKd, ↓exLSd, ↓exLu, ↓dIxRu, ↓dPutu, ↓dGetAu, ↓dEq_int, ↓dNe_int, ↓dEq_bl, ↓dNe_bl, ↓dEq_str, ↓dNe_str, ↓dAdd_int, ↓exAt10, ↓exIx10, ↓exAt20, ↓exIx20, ↓exAt21, ↓exIx21, ↓exAt30, ↓exIx30, ↓exAt31, ↓exIx31, ↓exAt32, ↓exIx32, ↓exAt40, ↓exIx40, ↓exAt41, ↓exIx41, ↓exAt42, ↓exIx42, ↓exAt43, ↓exIx43, ↓exAt50, ↓exIx50, ↓exAt51, ↓exIx51, ↓exAt52, ↓exIx52, ↓exAt53, ↓exIx53, ↓exAt54, ↓exIx54, ↓exAt60, ↓exIx60, ↓exAt61, ↓exIx61, ↓exAt62, ↓exIx62, ↓exAt63, ↓exIx63, ↓exAt64, ↓exIx64, ↓exAt65, ↓exIx65, up_up, false_or, or_false, ↓exAtM, ↓dFlag_bl, ↓exBl, ↓exInt, ↓exRef, ↓dVar0, ↓dAug0, ↓dSet0, ↓dTgN0, ↓dTgW0, ↓dVar1, ↓dAug1, ↓dSet1, ↓dTgN1, ↓dTgW1, ↓dVar2, ↓dAug2, ↓dSet2, ↓dTgN2, ↓dTgW2, ↓dVar3, ↓dAug3, ↓dSet3, ↓dTgN3, ↓dTgW3, ↓dVar4, ↓dAug4, ↓dSet4, ↓dTgN4, ↓dTgW4, ↓dVar5, ↓dAug5, ↓dSet5, ↓dTgN5, ↓dTgW5, ↓dVar6, ↓dAug6, ↓dSet6, ↓dTgN6, ↓dTgW6, ↓dVar7, ↓dAug7, ↓dSet7, ↓dTgN7, ↓dTgW7, ↓dVar8, ↓dAug8, ↓dSet8, ↓dTgN8, ↓dTgW8, ↓dVar9, ↓dAug9, ↓dSet9, ↓dTgN9, ↓dTgW9, ↓dVar10, ↓dAug10, ↓dSet10, ↓dTgN10, ↓dTgW10, ↓dVar11, ↓dAug11, ↓dSet11, ↓dTgN11, ↓dTgW11, ↓dVar12, ↓dAug12, ↓dSet12, ↓dTgN12, ↓dTgW12, ↓dVar13, ↓dAug13, ↓dSet13, ↓dTgN13, ↓dTgW13, ↓dVar14, ↓dAug14, ↓dSet14, ↓dTgN14, ↓dTgW14, ↓dVar15, ↓dAug15, ↓dSet15, ↓dTgN15, ↓dTgW15, ↓dVar16, ↓dAug16, ↓dSet16, ↓dTgN16, ↓dTgW16, ↓dVar17, ↓dAug17, ↓dSet17, ↓dTgN17, ↓dTgW17, ↓dVar18, ↓dAug18, ↓dSet18, ↓dTgN18, ↓dTgW18, ↓dVar19, ↓dAug19, ↓dSet19, ↓dTgN19, ↓dTgW19, ↓dTg_t2, ↓dTg_t3, ↓exGetM, ↓exSumU, nD, plD, rwD, ↓dAdd_tup, ↓dAdd_ref, dIx_tup, dIx_str, dIx_ref, dIx_kl, dListOf_tup, dListOf_kl, dListOf_ref, dLen_tup, dLen_str, dLen_kl, dLen_ref, dTupOf_tup, dTupOf_ref, dSeqI_x, sqX_tup, sqX_ref, sqX_str, dEnumI_x, enX_tup, enX_ref, dRevA, dRevD, dSIndex, dLtS, dUpper, dListS, dDisp1, dRevT, dInS, dSortA, dIsi2, isT2, Bool.or_true, Bool.true_or, Bool.or_false, Bool.or_self, dCallX, dRaise, dTryO, dTryA, dRaise1, dExF, dCls, dIsX, ↓exOne, WD0, ↓X0_, ↓X1_, ↓X2_, ↓X3_, dCutS]
  refine ⟨f, T, rfl, hf, hF, by omega, fun L fd M1 lk hLl s1 hfd0 hfd => ?_⟩
  have hf1 := s1.1 _ _ hf
  have hp1 := hp.sub s1
  have hFL := lk.fal hF
  refine ⟨fun δ M' => Sub M' M1 ∧ ∃ px, SqO M' px (T.map wD) ∧ δ = [some x, some (.ref f), some (.ref fd), some px, none, none, none], ?_, ?_⟩
  · simp (config := {failIfUnchanged := false}) only [dC, dOp, dTest, dChain, dAnd, dOr, dNot, dAndV, dOrV, dNotV, dIf, dNil, dCons, dTup, dLst, dCB, d1, dNoPart, dPart, dSl, dCut, dNeg, dSorted, dSum, dAll, dAny, dInt, dAbs, dMax, dMin, dIsi, isT, dNext, dSeq, dBrk, dCont, dNever, dExpr, dRet, dRetN, dIfS, dAsg, dPutI, dI0, dI, dIsN, dNotN, dRng1, dRng2, dRngDn, dZipI, dYes, dCall, dLM, dAppend, dExtend, dReverse, dInsert, dAugI, dRg1, dRg2, dTupRg, dLstRg, dNewK, dNewT, ↓S0_, ↓S1_, ↓S2_, ↓S3_, ↓S4_, ↓S5_, ↓S6_, List.map_cons, List.map_nil, List.length_cons, List.length_nil, List.replicate, List.cons_append, List.nil_append, Nat.reduceAdd, Nat.reduceSub, Nat.zero_add, List.getElem?_cons_zero, List.getElem?_cons_succ, Option.some.injEq, exists_eq_left, exists_eq_left', List.set_cons_zero, List.set_cons_succ, wipeD, D.int.injEq, D.bl.injEq, D.str.injEq, D.ref.injEq, D.tup.injEq, D.ty.injEq, true_and, and_true, forall_const, forall_eq', forall_eq, mt_int, mt_bool, mt_str, mt_tuple, mt_list, mt_dict, st_int_int, st_int_bool, st_int_str, st_int_tuple, st_int_list, st_int_dict, st_bool_int, st_bool_bool, st_bool_str, st_bool_tuple, st_bool_list, st_bool_dict, st_str_int, st_str_bool, st_str_str, st_str_tuple, st_str_list, st_str_dict, st_tuple_int, st_tuple_bool, st_tuple_str, st_tuple_tuple, st_tuple_list, st_tuple_dict, st_list_int, st_list_bool, st_list_str, st_list_tuple, st_list_list, st_list_dict, st_dict_int, st_dict_bool, st_dict_str, st_dict_tuple, st_dict_list, st_dict_dict, eq_self, Bool.true_eq_false, Bool.false_eq_true, false_implies, true_implies, implies_true, decide_eq_true_eq, decide_eq_false_iff_not, Bool.not_true, Bool.not_false, Bool.not_eq_true, Bool.not_eq_false, Bool.not_eq_true', Bool.not_eq_false', not_true_eq_false, not_false_eq_true, false_and, and_false, or_false, false_or, reduceCtorEq, ↓exLSu, ↓exDKu, ↓exDKd, ↓exLSd, ↓exLu, ↓dIxRu, ↓dPutu, ↓dGetAu, ↓dEq_int, ↓dNe_int, ↓dEq_bl, ↓dNe_bl, ↓dEq_str, ↓dNe_str, ↓dAdd_int, ↓exAt10, ↓exIx10, ↓exAt20, ↓exIx20, ↓exAt21, ↓exIx21, ↓exAt30, ↓exIx30, ↓exAt31, ↓exIx31, ↓exAt32, ↓exIx32, ↓exAt40, ↓exIx40, ↓exAt41, ↓exIx41, ↓exAt42, ↓exIx42, ↓exAt43, ↓exIx43, ↓exAt50, ↓exIx50, ↓exAt51, ↓exIx51, ↓exAt52, ↓exIx52, ↓exAt53, ↓exIx53, ↓exAt54, ↓exIx54, ↓exAt60, ↓exIx60, ↓exAt61, ↓exIx61, ↓exAt62, ↓exIx62, ↓exAt63, ↓exIx63, ↓exAt64, ↓exIx64, ↓exAt65, ↓exIx65, up_up, false_or, or_false, ↓exAtM, ↓dFlag_bl, ↓exBl, ↓exInt, ↓exRef, ↓dVar0, ↓dAug0, ↓dSet0, ↓dTgN0, ↓dTgW0, ↓dVar1, ↓dAug1, ↓dSet1, ↓dTgN1, ↓dTgW1, ↓dVar2, ↓dAug2, ↓dSet2, ↓dTgN2, ↓dTgW2, ↓dVar3, ↓dAug3, ↓dSet3, ↓dTgN3, ↓dTgW3, ↓dVar4, ↓dAug4, ↓dSet4, ↓dTgN4, ↓dTgW4, ↓dVar5, ↓dAug5, ↓dSet5, ↓dTgN5, ↓dTgW5, ↓dVar6, ↓dAug6, ↓dSet6, ↓dTgN6, ↓dTgW6, ↓dVar7, ↓dAug7, ↓dSet7, ↓dTgN7, ↓dTgW7, ↓dVar8, ↓dAug8, ↓dSet8, ↓dTgN8, ↓dTgW8, ↓dVar9, ↓dAug9, ↓dSet9, ↓dTgN9, ↓dTgW9, ↓dVar10, ↓dAug10, ↓dSet10, ↓dTgN10, ↓dTgW10, ↓dVar11, ↓dAug11, ↓dSet11, ↓dTgN11, ↓dTgW11, ↓dVar12, ↓dAug12, ↓dSet12, ↓dTgN12, ↓dTgW12, ↓dVar13, ↓dAug13, ↓dSet13, ↓dTgN13, ↓dTgW13, ↓dVar14, ↓dAug14, ↓dSet14, ↓dTgN14, ↓dTgW14, ↓dVar15, ↓dAug15, ↓dSet15, ↓dTgN15, ↓dTgW15, ↓dVar16, ↓dAug16, ↓dSet16, ↓dTgN16, ↓dTgW16, ↓dVar17, ↓dAug17, ↓dSet17, ↓dTgN17, ↓dTgW17, ↓dVar18, ↓dAug18, ↓dSet18, ↓dTgN18, ↓dTgW18, ↓dVar19, ↓dAug19, ↓dSet19, ↓dTgN19, ↓dTgW19, ↓dTg_t2, ↓dTg_t3, ↓exGetM, ↓exSumU, nD, plD, rwD, ↓dAdd_tup, ↓dAdd_ref, dIx_tup, dIx_str, dIx_ref, dIx_kl, dListOf_tup, dListOf_kl, dListOf_ref, dLen_tup, dLen_str, dLen_kl, dLen_ref, dTupOf_tup, dTupOf_ref, dSeqI_x, sqX_tup, sqX_ref, sqX_str, dEnumI_x, enX_tup, enX_ref, dRevA, dRevD, dSIndex, dLtS, dUpper, dListS, dDisp1, dRevT, dInS, dSortA, dIsi2, isT2, Bool.or_true, Bool.true_or, Bool.or_false, Bool.or_self, dCallX, dRaise, dTryO, dTryA, dRaise1, dExF, dCls, dIsX, ↓exOne, WD0, ↓X0_, ↓X1_, ↓X2_, ↓X3_, ↓exLS hf1, ↓exDKh hf1]
    exact ⟨2, rfl, hp1, by omega, by omega, fun v hv => ⟨fun _ => ⟨Sub.refl, _, .inl rfl, rfl⟩, fun _ q hq => ⟨Sub.new hq (by intro _ z; cases z), _, .inr ⟨q, rfl, up_same⟩, rfl⟩⟩⟩
  rintro δ M2 ⟨s2, px, hpx, rfl⟩
  have hf2 := s2.1 _ _ hf1
  have hd2 := s2.1 _ _ hfd
  have hp2 := hp1.sub s2
  simp (config := {failIfUnchanged := false}) only [dC, dOp, dTest, dChain, dAnd, dOr, dNot, dAndV, dOrV, dNotV, dIf, dNil, dCons, dTup, dLst, dCB, d1, dNoPart, dPart, dSl, dCut, dNeg, dSorted, dSum, dAll, dAny, dInt, dAbs, dMax, dMin, dIsi, isT, dNext, dSeq, dBrk, dCont, dNever, dExpr, dRet, dRetN, dIfS, dAsg, dPutI, dI0, dI, dIsN, dNotN, dRng1, dRng2, dRngDn, dZipI, dYes, dCall, dLM, dAppend, dExtend, dReverse, dInsert, dAugI, dRg1, dRg2, dTupRg, dLstRg, dNewK, dNewT, ↓S0_, ↓S1_, ↓S2_, ↓S3_, ↓S4_, ↓S5_, ↓S6_, List.map_cons, List.map_nil, List.length_cons, List.length_nil, List.replicate, List.cons_append, List.nil_append, Nat.reduceAdd, Nat.reduceSub, Nat.zero_add, List.getElem?_cons_zero, List.getElem?_cons_succ, Option.some.injEq, exists_eq_left, exists_eq_left', List.set_cons_zero, List.set_cons_succ, wipeD, D.int.injEq, D.bl.injEq, D.str.injEq, D.ref.injEq, D.tup.injEq, D.ty.injEq, true_and, and_true, forall_const, forall_eq', forall_eq, mt_int, mt_bool, mt_str, mt_tuple, mt_list, mt_dict, st_int_int, st_int_bool, st_int_str, st_int_tuple, st_int_list, st_int_dict, st_bool_int, st_bool_bool, st_bool_str, st_bool_tuple, st_bool_list, st_bool_dict, st_str_int, st_str_bool, st_str_str, st_str_tuple, st_str_list, st_str_dict, st_tuple_int, st_tuple_bool, st_tuple_str, st_tuple_tuple, st_tuple_list, st_tuple_dict, st_list_int, st_list_bool, st_list_str, st_list_tuple, st_list_list, st_list_dict, st_dict_int, st_dict_bool, st_dict_str, st_dict_tuple, st_dict_list, st_dict_dict, eq_self, Bool.true_eq_false, Bool.false_eq_true, false_implies, true_implies, implies_true, decide_eq_true_eq, decide_eq_false_iff_not, Bool.not_true, Bool.not_false, Bool.not_eq_true, Bool.not_eq_false, Bool.not_eq_true', Bool.not_eq_false', not_true_eq_false, not_false_eq_true, false_and, and_false, or_false, false_or, reduceCtorEq, ↓exLSu, ↓exDKu, ↓exDKd, ↓exLSd, ↓exLu, ↓dIxRu, ↓dPutu, ↓dGetAu, ↓dEq_int, ↓dNe_int, ↓dEq_bl, ↓dNe_bl, ↓dEq_str, ↓dNe_str, ↓dAdd_int, ↓exAt10, ↓exIx10, ↓exAt20, ↓exIx20, ↓exAt21, ↓exIx21, ↓exAt30, ↓exIx30, ↓exAt31, ↓exIx31, ↓exAt32, ↓exIx32, ↓exAt40, ↓exIx40, ↓exAt41, ↓exIx41, ↓exAt42, ↓exIx42, ↓exAt43, ↓exIx43, ↓exAt50, ↓exIx50, ↓exAt51, ↓exIx51, ↓exAt52, ↓exIx52, ↓exAt53, ↓exIx53, ↓exAt54, ↓exIx54, ↓exAt60, ↓exIx60, ↓exAt61, ↓exIx61, ↓exAt62, ↓exIx62, ↓exAt63, ↓exIx63, ↓exAt64, ↓exIx64, ↓exAt65, ↓exIx65, up_up, false_or, or_false, ↓exAtM, ↓dFlag_bl, ↓exBl, ↓exInt, ↓exRef, ↓dVar0, ↓dAug0, ↓dSet0, ↓dTgN0, ↓dTgW0, ↓dVar1, ↓dAug1, ↓dSet1, ↓dTgN1, ↓dTgW1, ↓dVar2, ↓dAug2, ↓dSet2, ↓dTgN2, ↓dTgW2, ↓dVar3, ↓dAug3, ↓dSet3, ↓dTgN3, ↓dTgW3, ↓dVar4, ↓dAug4, ↓dSet4, ↓dTgN4, ↓dTgW4, ↓dVar5, ↓dAug5, ↓dSet5, ↓dTgN5, ↓dTgW5, ↓dVar6, ↓dAug6, ↓dSet6, ↓dTgN6, ↓dTgW6, ↓dVar7, ↓dAug7, ↓dSet7, ↓dTgN7, ↓dTgW7, ↓dVar8, ↓dAug8, ↓dSet8, ↓dTgN8, ↓dTgW8, ↓dVar9, ↓dAug9, ↓dSet9, ↓dTgN9, ↓dTgW9, ↓dVar10, ↓dAug10, ↓dSet10, ↓dTgN10, ↓dTgW10, ↓dVar11, ↓dAug11, ↓dSet11, ↓dTgN11, ↓dTgW11, ↓dVar12, ↓dAug12, ↓dSet12, ↓dTgN12, ↓dTgW12, ↓dVar13, ↓dAug13, ↓dSet13, ↓dTgN13, ↓dTgW13, ↓dVar14, ↓dAug14, ↓dSet14, ↓dTgN14, ↓dTgW14, ↓dVar15, ↓dAug15, ↓dSet15, ↓dTgN15, ↓dTgW15, ↓dVar16, ↓dAug16, ↓dSet16, ↓dTgN16, ↓dTgW16, ↓dVar17, ↓dAug17, ↓dSet17, ↓dTgN17, ↓dTgW17, ↓dVar18, ↓dAug18, ↓dSet18, ↓dTgN18, ↓dTgW18, ↓dVar19, ↓dAug19, ↓dSet19, ↓dTgN19, ↓dTgW19, ↓dTg_t2, ↓dTg_t3, ↓exGetM, ↓exSumU, nD, plD, rwD, ↓dAdd_tup, ↓dAdd_ref, dIx_tup, dIx_str, dIx_ref, dIx_kl, dListOf_tup, dListOf_kl, dListOf_ref, dLen_tup, dLen_str, dLen_kl, dLen_ref, dTupOf_tup, dTupOf_ref, dSeqI_x, sqX_tup, sqX_ref, sqX_str, dEnumI_x, enX_tup, enX_ref, dRevA, dRevD, dSIndex, dLtS, dUpper, dListS, dDisp1, dRevT, dInS, dSortA, dIsi2, isT2, Bool.or_true, Bool.true_or, Bool.or_false, Bool.or_self, dCallX, dRaise, dTryO, dTryA, dRaise1, dExF, dCls, dIsX, ↓exOne, WD0, ↓X0_, ↓X1_, ↓X2_, ↓X3_, dCutS]
  refine .inl ⟨T, hpx, hF, by omega, fun L2 ft M3 lk2 _ s3 hft0 hft => ?_⟩
  have e := lk2.uni lk
  subst e
  have hf3 := s3.1 _ _ hf2
  have hd3 := s3.1 _ _ hd2
  have hpx3 : SqO M3 px (T.map wD) := by
    rcases hpx with rfl | ⟨p0, rfl, h0⟩
    · exact .inl rfl
    · exact .inr ⟨p0, rfl, s3.1 _ _ h0⟩
  refine ⟨fun δ M' => Sub M' M3 ∧ δ = [some x, some (.ref f), some (.ref fd), some px, some (.ref ft), none, none], ⟨ft, fd, L2, rfl, rfl, hft, hd3, by omega, ?_⟩, ?_⟩
  · rcases hpx3 with rfl | ⟨p0, rfl, h0⟩
    · simp (config := {failIfUnchanged := false}) only [dC, dOp, dTest, dChain, dAnd, dOr, dNot, dAndV, dOrV, dNotV, dIf, dNil, dCons, dTup, dLst, dCB, d1, dNoPart, dPart, dSl, dCut, dNeg, dSorted, dSum, dAll, dAny, dInt, dAbs, dMax, dMin, dIsi, isT, dNext, dSeq, dBrk, dCont, dNever, dExpr, dRet, dRetN, dIfS, dAsg, dPutI, dI0, dI, dIsN, dNotN, dRng1, dRng2, dRngDn, dZipI, dYes, dCall, dLM, dAppend, dExtend, dReverse, dInsert, dAugI, dRg1, dRg2, dTupRg, dLstRg, dNewK, dNewT, ↓S0_, ↓S1_, ↓S2_, ↓S3_, ↓S4_, ↓S5_, ↓S6_, List.map_cons, List.map_nil, List.length_cons, List.length_nil, List.replicate, List.cons_append, List.nil_append, Nat.reduceAdd, Nat.reduceSub, Nat.zero_add, List.getElem?_cons_zero, List.getElem?_cons_succ, Option.some.injEq, exists_eq_left, exists_eq_left', List.set_cons_zero, List.set_cons_succ, wipeD, D.int.injEq, D.bl.injEq, D.str.injEq, D.ref.injEq, D.tup.injEq, D.ty.injEq, true_and, and_true, forall_const, forall_eq', forall_eq, mt_int, mt_bool, mt_str, mt_tuple, mt_list, mt_dict, st_int_int, st_int_bool, st_int_str, st_int_tuple, st_int_list, st_int_dict, st_bool_int, st_bool_bool, st_bool_str, st_bool_tuple, st_bool_list, st_bool_dict, st_str_int, st_str_bool, st_str_str, st_str_tuple, st_str_list, st_str_dict, st_tuple_int, st_tuple_bool, st_tuple_str, st_tuple_tuple, st_tuple_list, st_tuple_dict, st_list_int, st_list_bool, st_list_str, st_list_tuple, st_list_list, st_list_dict, st_dict_int, st_dict_bool, st_dict_str, st_dict_tuple, st_dict_list, st_dict_dict, eq_self, Bool.true_eq_false, Bool.false_eq_true, false_implies, true_implies, implies_true, decide_eq_true_eq, decide_eq_false_iff_not, Bool.not_true, Bool.not_false, Bool.not_eq_true, Bool.not_eq_false, Bool.not_eq_true', Bool.not_eq_false', not_true_eq_false, not_false_eq_true, false_and, and_false, or_false, false_or, reduceCtorEq, ↓exLSu, ↓exDKu, ↓exDKd, ↓exLSd, ↓exLu, ↓dIxRu, ↓dPutu, ↓dGetAu, ↓dEq_int, ↓dNe_int, ↓dEq_bl, ↓dNe_bl, ↓dEq_str, ↓dNe_str, ↓dAdd_int, ↓exAt10, ↓exIx10, ↓exAt20, ↓exIx20, ↓exAt21, ↓exIx21, ↓exAt30, ↓exIx30, ↓exAt31, ↓exIx31, ↓exAt32, ↓exIx32, ↓exAt40, ↓exIx40, ↓exAt41, ↓exIx41, ↓exAt42, ↓exIx42, ↓exAt43, ↓exIx43, ↓exAt50, ↓exIx50, ↓exAt51, ↓exIx51, ↓exAt52, ↓exIx52, ↓exAt53, ↓exIx53, ↓exAt54, ↓exIx54, ↓exAt60, ↓exIx60, ↓exAt61, ↓exIx61, ↓exAt62, ↓exIx62, ↓exAt63, ↓exIx63, ↓exAt64, ↓exIx64, ↓exAt65, ↓exIx65, up_up, false_or, or_false, ↓exAtM, ↓dFlag_bl, ↓exBl, ↓exInt, ↓exRef, ↓dVar0, ↓dAug0, ↓dSet0, ↓dTgN0, ↓dTgW0, ↓dVar1, ↓dAug1, ↓dSet1, ↓dTgN1, ↓dTgW1, ↓dVar2, ↓dAug2, ↓dSet2, ↓dTgN2, ↓dTgW2, ↓dVar3, ↓dAug3, ↓dSet3, ↓dTgN3, ↓dTgW3, ↓dVar4, ↓dAug4, ↓dSet4, ↓dTgN4, ↓dTgW4, ↓dVar5, ↓dAug5, ↓dSet5, ↓dTgN5, ↓dTgW5, ↓dVar6, ↓dAug6, ↓dSet6, ↓dTgN6, ↓dTgW6, ↓dVar7, ↓dAug7, ↓dSet7, ↓dTgN7, ↓dTgW7, ↓dVar8, ↓dAug8, ↓dSet8, ↓dTgN8, ↓dTgW8, ↓dVar9, ↓dAug9, ↓dSet9, ↓dTgN9, ↓dTgW9, ↓dVar10, ↓dAug10, ↓dSet10, ↓dTgN10, ↓dTgW10, ↓dVar11, ↓dAug11, ↓dSet11, ↓dTgN11, ↓dTgW11, ↓dVar12, ↓dAug12, ↓dSet12, ↓dTgN12, ↓dTgW12, ↓dVar13, ↓dAug13, ↓dSet13, ↓dTgN13, ↓dTgW13, ↓dVar14, ↓dAug14, ↓dSet14, ↓dTgN14, ↓dTgW14, ↓dVar15, ↓dAug15, ↓dSet15, ↓dTgN15, ↓dTgW15, ↓dVar16, ↓dAug16, ↓dSet16, ↓dTgN16, ↓dTgW16, ↓dVar17, ↓dAug17, ↓dSet17, ↓dTgN17, ↓dTgW17, ↓dVar18, ↓dAug18, ↓dSet18, ↓dTgN18, ↓dTgW18, ↓dVar19, ↓dAug19, ↓dSet19, ↓dTgN19, ↓dTgW19, ↓dTg_t2, ↓dTg_t3, ↓exGetM, ↓exSumU, nD, plD, rwD, ↓dAdd_tup, ↓dAdd_ref, dIx_tup, dIx_str, dIx_ref, dIx_kl, dListOf_tup, dListOf_kl, dListOf_ref, dLen_tup, dLen_str, dLen_kl, dLen_ref, dTupOf_tup, dTupOf_ref, dSeqI_x, sqX_tup, sqX_ref, sqX_str, dEnumI_x, enX_tup, enX_ref, dRevA, dRevD, dSIndex, dLtS, dUpper, dListS, dDisp1, dRevT, dInS, dSortA, dIsi2, isT2, Bool.or_true, Bool.true_or, Bool.or_false, Bool.or_self, dCallX, dRaise, dTryO, dTryA, dRaise1, dExF, dCls, dIsX, ↓exOne, WD0, ↓X0_, ↓X1_, ↓X2_, ↓X3_]
      intro q hq
      have nq : f ≠ q := by rintro rfl; rw [hf3] at hq; cases hq
      refine dNe_ref.mpr (strs_eq31 (.inl up_same) (.inl (by rw [up_ne nq]; exact hf3)) ?_)
      simp (config := {failIfUnchanged := false}) only [dC, dOp, dTest, dChain, dAnd, dOr, dNot, dAndV, dOrV, dNotV, dIf, dNil, dCons, dTup, dLst, dCB, d1, dNoPart, dPart, dSl, dCut, dNeg, dSorted, dSum, dAll, dAny, dInt, dAbs, dMax, dMin, dIsi, isT, dNext, dSeq, dBrk, dCont, dNever, dExpr, dRet, dRetN, dIfS, dAsg, dPutI, dI0, dI, dIsN, dNotN, dRng1, dRng2, dRngDn, dZipI, dYes, dCall, dLM, dAppend, dExtend, dReverse, dInsert, dAugI, dRg1, dRg2, dTupRg, dLstRg, dNewK, dNewT, ↓S0_, ↓S1_, ↓S2_, ↓S3_, ↓S4_, ↓S5_, ↓S6_, List.map_cons, List.map_nil, List.length_cons, List.length_nil, List.replicate, List.cons_append, List.nil_append, Nat.reduceAdd, Nat.reduceSub, Nat.zero_add, List.getElem?_cons_zero, List.getElem?_cons_succ, Option.some.injEq, exists_eq_left, exists_eq_left', List.set_cons_zero, List.set_cons_succ, wipeD, D.int.injEq, D.bl.injEq, D.str.injEq, D.ref.injEq, D.tup.injEq, D.ty.injEq, true_and, and_true, forall_const, forall_eq', forall_eq, mt_int, mt_bool, mt_str, mt_tuple, mt_list, mt_dict, st_int_int, st_int_bool, st_int_str, st_int_tuple, st_int_list, st_int_dict, st_bool_int, st_bool_bool, st_bool_str, st_bool_tuple, st_bool_list, st_bool_dict, st_str_int, st_str_bool, st_str_str, st_str_tuple, st_str_list, st_str_dict, st_tuple_int, st_tuple_bool, st_tuple_str, st_tuple_tuple, st_tuple_list, st_tuple_dict, st_list_int, st_list_bool, st_list_str, st_list_tuple, st_list_list, st_list_dict, st_dict_int, st_dict_bool, st_dict_str, st_dict_tuple, st_dict_list, st_dict_dict, eq_self, Bool.true_eq_false, Bool.false_eq_true, false_implies, true_implies, implies_true, decide_eq_true_eq, decide_eq_false_iff_not, Bool.not_true, Bool.not_false, Bool.not_eq_true, Bool.not_eq_false, Bool.not_eq_true', Bool.not_eq_false', not_true_eq_false, not_false_eq_true, false_and, and_false, or_false, false_or, reduceCtorEq, ↓exLSu, ↓exDKu, ↓exDKd, ↓exLSd, ↓exLu, ↓dIxRu, ↓dPutu, ↓dGetAu, ↓dEq_int, ↓dNe_int, ↓dEq_bl, ↓dNe_bl, ↓dEq_str, ↓dNe_str, ↓dAdd_int, ↓exAt10, ↓exIx10, ↓exAt20, ↓exIx20, ↓exAt21, ↓exIx21, ↓exAt30, ↓exIx30, ↓exAt31, ↓exIx31, ↓exAt32, ↓exIx32, ↓exAt40, ↓exIx40, ↓exAt41, ↓exIx41, ↓exAt42, ↓exIx42, ↓exAt43, ↓exIx43, ↓exAt50, ↓exIx50, ↓exAt51, ↓exIx51, ↓exAt52, ↓exIx52, ↓exAt53, ↓exIx53, ↓exAt54, ↓exIx54, ↓exAt60, ↓exIx60, ↓exAt61, ↓exIx61, ↓exAt62, ↓exIx62, ↓exAt63, ↓exIx63, ↓exAt64, ↓exIx64, ↓exAt65, ↓exIx65, up_up, false_or, or_false, ↓exAtM, ↓dFlag_bl, ↓exBl, ↓exInt, ↓exRef, ↓dVar0, ↓dAug0, ↓dSet0, ↓dTgN0, ↓dTgW0, ↓dVar1, ↓dAug1, ↓dSet1, ↓dTgN1, ↓dTgW1, ↓dVar2, ↓dAug2, ↓dSet2, ↓dTgN2, ↓dTgW2, ↓dVar3, ↓dAug3, ↓dSet3, ↓dTgN3, ↓dTgW3, ↓dVar4, ↓dAug4, ↓dSet4, ↓dTgN4, ↓dTgW4, ↓dVar5, ↓dAug5, ↓dSet5, ↓dTgN5, ↓dTgW5, ↓dVar6, ↓dAug6, ↓dSet6, ↓dTgN6, ↓dTgW6, ↓dVar7, ↓dAug7, ↓dSet7, ↓dTgN7, ↓dTgW7, ↓dVar8, ↓dAug8, ↓dSet8, ↓dTgN8, ↓dTgW8, ↓dVar9, ↓dAug9, ↓dSet9, ↓dTgN9, ↓dTgW9, ↓dVar10, ↓dAug10, ↓dSet10, ↓dTgN10, ↓dTgW10, ↓dVar11, ↓dAug11, ↓dSet11, ↓dTgN11, ↓dTgW11, ↓dVar12, ↓dAug12, ↓dSet12, ↓dTgN12, ↓dTgW12, ↓dVar13, ↓dAug13, ↓dSet13, ↓dTgN13, ↓dTgW13, ↓dVar14, ↓dAug14, ↓dSet14, ↓dTgN14, ↓dTgW14, ↓dVar15, ↓dAug15, ↓dSet15, ↓dTgN15, ↓dTgW15, ↓dVar16, ↓dAug16, ↓dSet16, ↓dTgN16, ↓dTgW16, ↓dVar17, ↓dAug17, ↓dSet17, ↓dTgN17, ↓dTgW17, ↓dVar18, ↓dAug18, ↓dSet18, ↓dTgN18, ↓dTgW18, ↓dVar19, ↓dAug19, ↓dSet19, ↓dTgN19, ↓dTgW19, ↓dTg_t2, ↓dTg_t3, ↓exGetM, ↓exSumU, nD, plD, rwD, ↓dAdd_tup, ↓dAdd_ref, dIx_tup, dIx_str, dIx_ref, dIx_kl, dListOf_tup, dListOf_kl, dListOf_ref, dLen_tup, dLen_str, dLen_kl, dLen_ref, dTupOf_tup, dTupOf_ref, dSeqI_x, sqX_tup, sqX_ref, sqX_str, dEnumI_x, enX_tup, enX_ref, dRevA, dRevD, dSIndex, dLtS, dUpper, dListS, dDisp1, dRevT, dInS, dSortA, dIsi2, isT2, Bool.or_true, Bool.true_or, Bool.or_false, Bool.or_self, dCallX, dRaise, dTryO, dTryA, dRaise1, dExF, dCls, dIsX, ↓exOne, WD0, ↓X0_, ↓X1_, ↓X2_, ↓X3_]
      exact Sub.new hq (by intro _ z; cases z)
    · simp (config := {failIfUnchanged := false}) only [dC, dOp, dTest, dChain, dAnd, dOr, dNot, dAndV, dOrV, dNotV, dIf, dNil, dCons, dTup, dLst, dCB, d1, dNoPart, dPart, dSl, dCut, dNeg, dSorted, dSum, dAll, dAny, dInt, dAbs, dMax, dMin, dIsi, isT, dNext, dSeq, dBrk, dCont, dNever, dExpr, dRet, dRetN, dIfS, dAsg, dPutI, dI0, dI, dIsN, dNotN, dRng1, dRng2, dRngDn, dZipI, dYes, dCall, dLM, dAppend, dExtend, dReverse, dInsert, dAugI, dRg1, dRg2, dTupRg, dLstRg, dNewK, dNewT, ↓S0_, ↓S1_, ↓S2_, ↓S3_, ↓S4_, ↓S5_, ↓S6_, List.map_cons, List.map_nil, List.length_cons, List.length_nil, List.replicate, List.cons_append, List.nil_append, Nat.reduceAdd, Nat.reduceSub, Nat.zero_add, List.getElem?_cons_zero, List.getElem?_cons_succ, Option.some.injEq, exists_eq_left, exists_eq_left', List.set_cons_zero, List.set_cons_succ, wipeD, D.int.injEq, D.bl.injEq, D.str.injEq, D.ref.injEq, D.tup.injEq, D.ty.injEq, true_and, and_true, forall_const, forall_eq', forall_eq, mt_int, mt_bool, mt_str, mt_tuple, mt_list, mt_dict, st_int_int, st_int_bool, st_int_str, st_int_tuple, st_int_list, st_int_dict, st_bool_int, st_bool_bool, st_bool_str, st_bool_tuple, st_bool_list, st_bool_dict, st_str_int, st_str_bool, st_str_str, st_str_tuple, st_str_list, st_str_dict, st_tuple_int, st_tuple_bool, st_tuple_str, st_tuple_tuple, st_tuple_list, st_tuple_dict, st_list_int, st_list_bool, st_list_str, st_list_tuple, st_list_list, st_list_dict, st_dict_int, st_dict_bool, st_dict_str, st_dict_tuple, st_dict_list, st_dict_dict, eq_self, Bool.true_eq_false, Bool.false_eq_true, false_implies, true_implies, implies_true, decide_eq_true_eq, decide_eq_false_iff_not, Bool.not_true, Bool.not_false, Bool.not_eq_true, Bool.not_eq_false, Bool.not_eq_true', Bool.not_eq_false', not_true_eq_false, not_false_eq_true, false_and, and_false, or_false, false_or, reduceCtorEq, ↓exLSu, ↓exDKu, ↓exDKd, ↓exLSd, ↓exLu, ↓dIxRu, ↓dPutu, ↓dGetAu, ↓dEq_int, ↓dNe_int, ↓dEq_bl, ↓dNe_bl, ↓dEq_str, ↓dNe_str, ↓dAdd_int, ↓exAt10, ↓exIx10, ↓exAt20, ↓exIx20, ↓exAt21, ↓exIx21, ↓exAt30, ↓exIx30, ↓exAt31, ↓exIx31, ↓exAt32, ↓exIx32, ↓exAt40, ↓exIx40, ↓exAt41, ↓exIx41, ↓exAt42, ↓exIx42, ↓exAt43, ↓exIx43, ↓exAt50, ↓exIx50, ↓exAt51, ↓exIx51, ↓exAt52, ↓exIx52, ↓exAt53, ↓exIx53, ↓exAt54, ↓exIx54, ↓exAt60, ↓exIx60, ↓exAt61, ↓exIx61, ↓exAt62, ↓exIx62, ↓exAt63, ↓exIx63, ↓exAt64, ↓exIx64, ↓exAt65, ↓exIx65, up_up, false_or, or_false, ↓exAtM, ↓dFlag_bl, ↓exBl, ↓exInt, ↓exRef, ↓dVar0, ↓dAug0, ↓dSet0, ↓dTgN0, ↓dTgW0, ↓dVar1, ↓dAug1, ↓dSet1, ↓dTgN1, ↓dTgW1, ↓dVar2, ↓dAug2, ↓dSet2, ↓dTgN2, ↓dTgW2, ↓dVar3, ↓dAug3, ↓dSet3, ↓dTgN3, ↓dTgW3, ↓dVar4, ↓dAug4, ↓dSet4, ↓dTgN4, ↓dTgW4, ↓dVar5, ↓dAug5, ↓dSet5, ↓dTgN5, ↓dTgW5, ↓dVar6, ↓dAug6, ↓dSet6, ↓dTgN6, ↓dTgW6, ↓dVar7, ↓dAug7, ↓dSet7, ↓dTgN7, ↓dTgW7, ↓dVar8, ↓dAug8, ↓dSet8, ↓dTgN8, ↓dTgW8, ↓dVar9, ↓dAug9, ↓dSet9, ↓dTgN9, ↓dTgW9, ↓dVar10, ↓dAug10, ↓dSet10, ↓dTgN10, ↓dTgW10, ↓dVar11, ↓dAug11, ↓dSet11, ↓dTgN11, ↓dTgW11, ↓dVar12, ↓dAug12, ↓dSet12, ↓dTgN12, ↓dTgW12, ↓dVar13, ↓dAug13, ↓dSet13, ↓dTgN13, ↓dTgW13, ↓dVar14, ↓dAug14, ↓dSet14, ↓dTgN14, ↓dTgW14, ↓dVar15, ↓dAug15, ↓dSet15, ↓dTgN15, ↓dTgW15, ↓dVar16, ↓dAug16, ↓dSet16, ↓dTgN16, ↓dTgW16, ↓dVar17, ↓dAug17, ↓dSet17, ↓dTgN17, ↓dTgW17, ↓dVar18, ↓dAug18, ↓dSet18, ↓dTgN18, ↓dTgW18, ↓dVar19, ↓dAug19, ↓dSet19, ↓dTgN19, ↓dTgW19, ↓dTg_t2, ↓dTg_t3, ↓exGetM, ↓exSumU, nD, plD, rwD, ↓dAdd_tup, ↓dAdd_ref, dIx_tup, dIx_str, dIx_ref, dIx_kl, dListOf_tup, dListOf_kl, dListOf_ref, dLen_tup, dLen_str, dLen_kl, dLen_ref, dTupOf_tup, dTupOf_ref, dSeqI_x, sqX_tup, sqX_ref, sqX_str, dEnumI_x, enX_tup, enX_ref, dRevA, dRevD, dSIndex, dLtS, dUpper, dListS, dDisp1, dRevT, dInS, dSortA, dIsi2, isT2, Bool.or_true, Bool.true_or, Bool.or_false, Bool.or_self, dCallX, dRaise, dTryO, dTryA, dRaise1, dExF, dCls, dIsX, ↓exOne, WD0, ↓X0_, ↓X1_, ↓X2_, ↓X3_, ↓exLS h0, ↓exDKh h0, or_false]
      intro q hq
      have nq : f ≠ q := by rintro rfl; rw [hf3] at hq; cases hq
      refine dNe_ref.mpr (strs_eq31 (.inl up_same) (.inl (by rw [up_ne nq]; exact hf3)) ?_)
      simp (config := {failIfUnchanged := false}) only [dC, dOp, dTest, dChain, dAnd, dOr, dNot, dAndV, dOrV, dNotV, dIf, dNil, dCons, dTup, dLst, dCB, d1, dNoPart, dPart, dSl, dCut, dNeg, dSorted, dSum, dAll, dAny, dInt, dAbs, dMax, dMin, dIsi, isT, dNext, dSeq, dBrk, dCont, dNever, dExpr, dRet, dRetN, dIfS, dAsg, dPutI, dI0, dI, dIsN, dNotN, dRng1, dRng2, dRngDn, dZipI, dYes, dCall, dLM, dAppend, dExtend, dReverse, dInsert, dAugI, dRg1, dRg2, dTupRg, dLstRg, dNewK, dNewT, ↓S0_, ↓S1_, ↓S2_, ↓S3_, ↓S4_, ↓S5_, ↓S6_, List.map_cons, List.map_nil, List.length_cons, List.length_nil, List.replicate, List.cons_append, List.nil_append, Nat.reduceAdd, Nat.reduceSub, Nat.zero_add, List.getElem?_cons_zero, List.getElem?_cons_succ, Option.some.injEq, exists_eq_left, exists_eq_left', List.set_cons_zero, List.set_cons_succ, wipeD, D.int.injEq, D.bl.injEq, D.str.injEq, D.ref.injEq, D.tup.injEq, D.ty.injEq, true_and, and_true, forall_const, forall_eq', forall_eq, mt_int, mt_bool, mt_str, mt_tuple, mt_list, mt_dict, st_int_int, st_int_bool, st_int_str, st_int_tuple, st_int_list, st_int_dict, st_bool_int, st_bool_bool, st_bool_str, st_bool_tuple, st_bool_list, st_bool_dict, st_str_int, st_str_bool, st_str_str, st_str_tuple, st_str_list, st_str_dict, st_tuple_int, st_tuple_bool, st_tuple_str, st_tuple_tuple, st_tuple_list, st_tuple_dict, st_list_int, st_list_bool, st_list_str, st_list_tuple, st_list_list, st_list_dict, st_dict_int, st_dict_bool, st_dict_str, st_dict_tuple, st_dict_list, st_dict_dict, eq_self, Bool.true_eq_false, Bool.false_eq_true, false_implies, true_implies, implies_true, decide_eq_true_eq, decide_eq_false_iff_not, Bool.not_true, Bool.not_false, Bool.not_eq_true, Bool.not_eq_false, Bool.not_eq_true', Bool.not_eq_false', not_true_eq_false, not_false_eq_true, false_and, and_false, or_false, false_or, reduceCtorEq, ↓exLSu, ↓exDKu, ↓exDKd, ↓exLSd, ↓exLu, ↓dIxRu, ↓dPutu, ↓dGetAu, ↓dEq_int, ↓dNe_int, ↓dEq_bl, ↓dNe_bl, ↓dEq_str, ↓dNe_str, ↓dAdd_int, ↓exAt10, ↓exIx10, ↓exAt20, ↓exIx20, ↓exAt21, ↓exIx21, ↓exAt30, ↓exIx30, ↓exAt31, ↓exIx31, ↓exAt32, ↓exIx32, ↓exAt40, ↓exIx40, ↓exAt41, ↓exIx41, ↓exAt42, ↓exIx42, ↓exAt43, ↓exIx43, ↓exAt50, ↓exIx50, ↓exAt51, ↓exIx51, ↓exAt52, ↓exIx52, ↓exAt53, ↓exIx53, ↓exAt54, ↓exIx54, ↓exAt60, ↓exIx60, ↓exAt61, ↓exIx61, ↓exAt62, ↓exIx62, ↓exAt63, ↓exIx63, ↓exAt64, ↓exIx64, ↓exAt65, ↓exIx65, up_up, false_or, or_false, ↓exAtM, ↓dFlag_bl, ↓exBl, ↓exInt, ↓exRef, ↓dVar0, ↓dAug0, ↓dSet0, ↓dTgN0, ↓dTgW0, ↓dVar1, ↓dAug1, ↓dSet1, ↓dTgN1, ↓dTgW1, ↓dVar2, ↓dAug2, ↓dSet2, ↓dTgN2, ↓dTgW2, ↓dVar3, ↓dAug3, ↓dSet3, ↓dTgN3, ↓dTgW3, ↓dVar4, ↓dAug4, ↓dSet4, ↓dTgN4, ↓dTgW4, ↓dVar5, ↓dAug5, ↓dSet5, ↓dTgN5, ↓dTgW5, ↓dVar6, ↓dAug6, ↓dSet6, ↓dTgN6, ↓dTgW6, ↓dVar7, ↓dAug7, ↓dSet7, ↓dTgN7, ↓dTgW7, ↓dVar8, ↓dAug8, ↓dSet8, ↓dTgN8, ↓dTgW8, ↓dVar9, ↓dAug9, ↓dSet9, ↓dTgN9, ↓dTgW9, ↓dVar10, ↓dAug10, ↓dSet10, ↓dTgN10, ↓dTgW10, ↓dVar11, ↓dAug11, ↓dSet11, ↓dTgN11, ↓dTgW11, ↓dVar12, ↓dAug12, ↓dSet12, ↓dTgN12, ↓dTgW12, ↓dVar13, ↓dAug13, ↓dSet13, ↓dTgN13, ↓dTgW13, ↓dVar14, ↓dAug14, ↓dSet14, ↓dTgN14, ↓dTgW14, ↓dVar15, ↓dAug15, ↓dSet15, ↓dTgN15, ↓dTgW15, ↓dVar16, ↓dAug16, ↓dSet16, ↓dTgN16, ↓dTgW16, ↓dVar17, ↓dAug17, ↓dSet17, ↓dTgN17, ↓dTgW17, ↓dVar18, ↓dAug18, ↓dSet18, ↓dTgN18, ↓dTgW18, ↓dVar19, ↓dAug19, ↓dSet19, ↓dTgN19, ↓dTgW19, ↓dTg_t2, ↓dTg_t3, ↓exGetM, ↓exSumU, nD, plD, rwD, ↓dAdd_tup, ↓dAdd_ref, dIx_tup, dIx_str, dIx_ref, dIx_kl, dListOf_tup, dListOf_kl, dListOf_ref, dLen_tup, dLen_str, dLen_kl, dLen_ref, dTupOf_tup, dTupOf_ref, dSeqI_x, sqX_tup, sqX_ref, sqX_str, dEnumI_x, enX_tup, enX_ref, dRevA, dRevD, dSIndex, dLtS, dUpper, dListS, dDisp1, dRevT, dInS, dSortA, dIsi2, isT2, Bool.or_true, Bool.true_or, Bool.or_false, Bool.or_self, dCallX, dRaise, dTryO, dTryA, dRaise1, dExF, dCls, dIsX, ↓exOne, WD0, ↓X0_, ↓X1_, ↓X2_, ↓X3_]
      exact Sub.new hq (by intro _ z; cases z)
  rintro δ M5 ⟨s5, rfl⟩
  have ht5 := s5.1 _ _ hft
  have s52 := s5.trans s3
  simp (config := {failIfUnchanged := false}) only [dC, dOp, dTest, dChain, dAnd, dOr, dNot, dAndV, dOrV, dNotV, dIf, dNil, dCons, dTup, dLst, dCB, d1, dNoPart, dPart, dSl, dCut, dNeg, dSorted, dSum, dAll, dAny, dInt, dAbs, dMax, dMin, dIsi, isT, dNext, dSeq, dBrk, dCont, dNever, dExpr, dRet, dRetN, dIfS, dAsg, dPutI, dI0, dI, dIsN, dNotN, dRng1, dRng2, dRngDn, dZipI, dYes, dCall, dLM, dAppend, dExtend, dReverse, dInsert, dAugI, dRg1, dRg2, dTupRg, dLstRg, dNewK, dNewT, ↓S0_, ↓S1_, ↓S2_, ↓S3_, ↓S4_, ↓S5_, ↓S6_, List.map_cons, List.map_nil, List.length_cons, List.length_nil, List.replicate, List.cons_append, List.nil_append, Nat.reduceAdd, Nat.reduceSub, Nat.zero_add, List.getElem?_cons_zero, List.getElem?_cons_succ, Option.some.injEq, exists_eq_left, exists_eq_left', List.set_cons_zero, List.set_cons_succ, wipeD, D.int.injEq, D.bl.injEq, D.str.injEq, D.ref.injEq, D.tup.injEq, D.ty.injEq, true_and, and_true, forall_const, forall_eq', forall_eq, mt_int, mt_bool, mt_str, mt_tuple, mt_list, mt_dict, st_int_int, st_int_bool, st_int_str, st_int_tuple, st_int_list, st_int_dict, st_bool_int, st_bool_bool, st_bool_str, st_bool_tuple, st_bool_list, st_bool_dict, st_str_int, st_str_bool, st_str_str, st_str_tuple, st_str_list, st_str_dict, st_tuple_int, st_tuple_bool, st_tuple_str, st_tuple_tuple, st_tuple_list, st_tuple_dict, st_list_int, st_list_bool, st_list_str, st_list_tuple, st_list_list, st_list_dict, st_dict_int, st_dict_bool, st_dict_str, st_dict_tuple, st_dict_list, st_dict_dict, eq_self, Bool.true_eq_false, Bool.false_eq_true, false_implies, true_implies, implies_true, decide_eq_true_eq, decide_eq_false_iff_not, Bool.not_true, Bool.not_false, Bool.not_eq_true, Bool.not_eq_false, Bool.not_eq_true', Bool.not_eq_false', not_true_eq_false, not_false_eq_true, false_and, and_false, or_false, false_or, reduceCtorEq, ↓exLSu, ↓exDKu, ↓exDKd, ↓exLSd, ↓exLu, ↓dIxRu, ↓dPutu, ↓dGetAu, ↓dEq_int, ↓dNe_int, ↓dEq_bl, ↓dNe_bl, ↓dEq_str, ↓dNe_str, ↓dAdd_int, ↓exAt10, ↓exIx10, ↓exAt20, ↓exIx20, ↓exAt21, ↓exIx21, ↓exAt30, ↓exIx30, ↓exAt31, ↓exIx31, ↓exAt32, ↓exIx32, ↓exAt40, ↓exIx40, ↓exAt41, ↓exIx41, ↓exAt42, ↓exIx42, ↓exAt43, ↓exIx43, ↓exAt50, ↓exIx50, ↓exAt51, ↓exIx51, ↓exAt52, ↓exIx52, ↓exAt53, ↓exIx53, ↓exAt54, ↓exIx54, ↓exAt60, ↓exIx60, ↓exAt61, ↓exIx61, ↓exAt62, ↓exIx62, ↓exAt63, ↓exIx63, ↓exAt64, ↓exIx64, ↓exAt65, ↓exIx65, up_up, false_or, or_false, ↓exAtM, ↓dFlag_bl, ↓exBl, ↓exInt, ↓exRef, ↓dVar0, ↓dAug0, ↓dSet0, ↓dTgN0, ↓dTgW0, ↓dVar1, ↓dAug1, ↓dSet1, ↓dTgN1, ↓dTgW1, ↓dVar2, ↓dAug2, ↓dSet2, ↓dTgN2, ↓dTgW2, ↓dVar3, ↓dAug3, ↓dSet3, ↓dTgN3, ↓dTgW3, ↓dVar4, ↓dAug4, ↓dSet4, ↓dTgN4, ↓dTgW4, ↓dVar5, ↓dAug5, ↓dSet5, ↓dTgN5, ↓dTgW5, ↓dVar6, ↓dAug6, ↓dSet6, ↓dTgN6, ↓dTgW6, ↓dVar7, ↓dAug7, ↓dSet7, ↓dTgN7, ↓dTgW7, ↓dVar8, ↓dAug8, ↓dSet8, ↓dTgN8, ↓dTgW8, ↓dVar9, ↓dAug9, ↓dSet9, ↓dTgN9, ↓dTgW9, ↓dVar10, ↓dAug10, ↓dSet10, ↓dTgN10, ↓dTgW10, ↓dVar11, ↓dAug11, ↓dSet11, ↓dTgN11, ↓dTgW11, ↓dVar12, ↓dAug12, ↓dSet12, ↓dTgN12, ↓dTgW12, ↓dVar13, ↓dAug13, ↓dSet13, ↓dTgN13, ↓dTgW13, ↓dVar14, ↓dAug14, ↓dSet14, ↓dTgN14, ↓dTgW14, ↓dVar15, ↓dAug15, ↓dSet15, ↓dTgN15, ↓dTgW15, ↓dVar16, ↓dAug16, ↓dSet16, ↓dTgN16, ↓dTgW16, ↓dVar17, ↓dAug17, ↓dSet17, ↓dTgN17, ↓dTgW17, ↓dVar18, ↓dAug18, ↓dSet18, ↓dTgN18, ↓dTgW18, ↓dVar19, ↓dAug19, ↓dSet19, ↓dTgN19, ↓dTgW19, ↓dTg_t2, ↓dTg_t3, ↓exGetM, ↓exSumU, nD, plD, rwD, ↓dAdd_tup, ↓dAdd_ref, dIx_tup, dIx_str, dIx_ref, dIx_kl, dListOf_tup, dListOf_kl, dListOf_ref, dLen_tup, dLen_str, dLen_kl, dLen_ref, dTupOf_tup, dTupOf_ref, dSeqI_x, sqX_tup, sqX_ref, sqX_str, dEnumI_x, enX_tup, enX_ref, dRevA, dRevD, dSIndex, dLtS, dUpper, dListS, dDisp1, dRevT, dInS, dSortA, dIsi2, isT2, Bool.or_true, Bool.true_or, Bool.or_false, Bool.or_self, dCallX, dRaise, dTryO, dTryA, dRaise1, dExF, dCls, dIsX, ↓exOne, WD0, ↓X0_, ↓X1_, ↓X2_, ↓X3_, ↓exLh ht5, ↓exLS ht5]
  have s6 : Sub (up M5 ft (.lst (L2.map wD ++ [D.str (Str.ofString "z")]).reverse)) M2 := s52.put hft0 (by intro _ z; cases z)
  refine ⟨⟨ft, _, rfl, .inl ht5⟩, by rw [List.length_map, sizeLine_eq]; omega, ⟨ft, _, rfl, .inl up_same⟩, ?_⟩
  generalize up M5 ft (.lst (L2.map wD ++ [D.str (Str.ofString "z")]).reverse) = M6 at *
  have hpx6 : SqO M6 px (T.map wD) := by
    rcases hpx with rfl | ⟨p0, rfl, h0⟩
    · exact .inl rfl
    · exact .inr ⟨p0, rfl, s6.1 _ _ h0⟩
  refine .inl ⟨T, hpx6, hF, by omega, fun L3 f3 M7 lk3 _ s7 hf30 hf37 => ?_⟩
  have e := lk3.uni lk
  subst e
  have s72 := s7.trans s6
  have hf7 := s72.1 _ _ hf2
  have hd7 := s72.1 _ _ hd2
  refine ⟨f3, fd, L3, rfl, rfl, hf37, hd7, by omega, _, .inl hd7, fun q hq => ?_⟩
  have nfq : f ≠ q := by rintro rfl; rw [hf7] at hq; cases hq
  have sq : Sub (up M7 q (.lst (L3.map wD).reverse)) M2 := (Sub.new hq (by intro _ z; cases z)).trans s72
  refine ⟨T.map wD, by rw [up_ne nfq]; exact hf7, by rw [List.length_map, List.length_reverse, List.length_map, sizeLine_eq]; omega, fun l hl => ?_⟩
  have eR : T.map wD ++ (L3.map wD).reverse = (T ++ L3.reverse).map wD := by rw [List.map_append, List.map_reverse]
  rw [eR]
  have s8 : Sub (up (up M7 q (.lst (L3.map wD).reverse)) l (.lst ((T ++ L3.reverse).map wD))) M2 := (Sub.new hl (by intro _ z; cases z)).trans sq
  refine .inl ⟨T ++ L3.reverse, .inr ⟨l, rfl, up_same⟩, fun t ht => ?_, ?_, fun L4 f4 M9 lk4 _ s9 hf40 hf49 => ?_⟩
  · rcases List.mem_append.mp ht with z | z
    · exact hF t z
    · exact hFL t (List.mem_reverse.mp z)
  · rw [List.length_append, List.length_reverse]
    omega
  have e := lk4.uni lk.all
  subst e
  have s92 := s9.trans s8
  intro pe hpe
  have n4 : f4 ≠ pe := by rintro rfl; rw [hf49] at hpe; cases hpe
  have sA : Sub (up M9 pe (.lst [])) M2 := (Sub.new hpe (by intro _ z; cases z)).trans s92
  refine ⟨f4, pe, [], rfl, rfl, by rw [up_ne n4]; exact hf49, up_same, by decide, ?_⟩
  generalize up M9 pe (.lst []) = MA at *
  have hfA := sA.1 _ _ hf2
  have hdA := sA.1 _ _ hd2
  have sAM : Sub MA M := sA.trans (s2.trans s1)
  refine .inl ⟨_, .inl hdA, fun _ => sAM.dn h, fun hne => .inl ⟨_, .inl hdA, L3.length, by rw [List.length_map], hp2.sub sA, ?_, by omega, fun v hv => ⟨_, .inl hdA, fun q1 hq1 => ?_⟩⟩⟩
  · rw [List.length_map] at hne
    omega
  rw [cutD_to]
  have vl : v < L3.length := hv
  have nf1 : f ≠ q1 := by rintro rfl; rw [hfA] at hq1; cases hq1
  have sB : Sub (up MA q1 (.lst ((L3.map wD).take v))) M2 := (Sub.new hq1 (by intro _ z; cases z)).trans sA
  have lt := List.length_take_le v (L3.map wD)
  refine ⟨T.map wD, by rw [up_ne nf1]; exact hfA, by rw [List.length_map, sizeLine_eq]; omega, fun l1 hl1 => ?_⟩
  have sC := (Sub.new (o := .lst (T.map wD ++ (L3.map wD).take v)) hl1 (by intro _ z; cases z)).trans sB
  refine ⟨_, .inl (sC.1 _ _ hd2), fun q2 hq2 => ?_⟩
  rw [show ((v : Int) + 1) = ((v + 1 : Nat) : Int) by omega, cutD_from]
  have nl1 : l1 ≠ q2 := by rintro rfl; rw [up_same] at hq2; cases hq2
  have sD := (Sub.new (o := .lst ((L3.map wD).drop (v + 1))) hq2 (by intro _ z; cases z)).trans sC
  refine ⟨T.map wD ++ (L3.map wD).take v, by rw [up_ne nl1, up_same], by rw [List.length_append, List.length_map, List.length_drop, List.length_map, sizeLine_eq]; omega, fun l2 hl2 => ?_⟩
  have eS : T.map wD ++ (L3.map wD).take v ++ (L3.map wD).drop (v + 1) = (T ++ L3.take v ++ L3.drop (v + 1)).map wD := by rw [List.map_append, List.map_append, List.map_take, List.map_drop]
  have sE := (Sub.new (o := .lst (T.map wD ++ (L3.map wD).take v ++ (L3.map wD).drop (v + 1))) hl2 (by intro _ z; cases z)).trans sD
  refine .inl ⟨T ++ L3.take v ++ L3.drop (v + 1), .inr ⟨l2, rfl, by rw [up_same, eS]⟩, fun t ht => ?_, ?_, fun L5 f5 MF lk5 _ sF hf50 hf5 => ?_⟩
  · simp only [List.mem_append] at ht
    rcases ht with (z | z) | z
    · exact hF t z
    · exact hFL t (List.mem_of_mem_take z)
    · exact hFL t (List.mem_of_mem_drop z)
  · have := List.length_take_le v L3
    rw [List.length_append, List.length_append, List.length_drop]
    omega
  have e := lk5.uni (lk.one vl)
  subst e
  have sG := sF.trans sE
  have hat : (L3.map wD)[v]? = some (wD (L3.getD v [])) := by
    rw [List.getElem?_map, List.getElem?_eq_getElem vl, List.getD_eq_getElem?_getD, List.getElem?_eq_getElem vl]; rfl
  refine (dIxRh (sG.1 _ _ hd2)).mpr ⟨_, atI_nat hat, fun pz hpz => ?_⟩
  have n5 : f5 ≠ pz := by rintro rfl; rw [hf5] at hpz; cases hpz
  exact ⟨f5, pz, [L3.getD v []], rfl, rfl, by rw [up_ne n5]; exact hf5, up_same, by show 1 ≤ 100000; omega, ((Sub.new hpz (by intro _ z; cases z)).trans (sG.trans (s2.trans s1))).dn h⟩
theorem pr_law (G : Gv K mg) : Pr P w K mg base "law" 4 ["_law_script"] SLaw := by
  refine (pr3 (k := 3) G.d_law bi_law sc_law S1n (fun f cdv A outer s H E hr => (b_cons (s_for PassesOwn.never rfl (i_rng1 (by rfl) G.b_range (a_cons (e_callB (cd_max rfl) (by rfl) G.b_max rfl (a_cons e_int (a_cons (e_callB (cd_min rfl) (by rfl) G.b_min rfl (a_cons e_int (a_cons (e_callB cd_len (by rfl) G.b_len rfl (a_cons (e_var 0) a_nil)) a_nil))) a_nil))) a_nil)) (g_nm 1 sc_law.nd)
      (b_cons (s_set 2 sc_law.nd (e_callP (pr__law_state G) (hr.mono (by decide)) (by rfl) pass0 (a_cons (e_var 0) (a_cons (e_var 1) a_nil))))
      (b_cons (s_set 3 sc_law.nd (e_cmp od_gt (e_callP (pr__law_draw G) (hr.mono (by decide)) (by rfl) pass0 (a_cons (e_var 2) (a_cons e_int a_nil))) e_int))
      (b_cons (s_set 4 sc_law.nd (e_callP (pr__law_draw G) (hr.mono (by decide)) (by rfl) pass0 (a_cons (e_var 2) (a_cons e_int a_nil))))
      (b_cut (s_if (t_cmp (od_eq (hu3 hr)) (e_callP (pr__law_draw G) (hr.mono (by decide)) (by rfl) pass0 (a_cons (e_var 2) (a_cons e_int a_nil))) e_int) (b_one (s_set 4 sc_law.nd (e_callP (pr__law_draw G) (hr.mono (by decide)) (by rfl) pass0 (a_cons (e_var 2) (a_cons e_int a_nil))))) b_nil)
      (b_cons (s_set 5 sc_law.nd (e_lst a_nil))
      (b_cons (s_for PassesOwn.never rfl (i_rng1 (by rfl) G.b_range (a_cons (e_var 4) a_nil)) (g_nm 6 sc_law.nd)
      (b_one (s_expr (e_lm PySem.F.slot_list_append PySem.F.type_list_append m_append (e_var 5) (a_cons (e_callP (pr__law_next G) (hr.mono (by decide)) (by rfl) pass0 (a_cons (e_var 2) (a_cons (e_var 5) a_nil))) a_nil)))))
      (b_cons (s_if (PW3.pt (w_and (t_not (t_val (e_var 3))) (w_and1 (t_not (t_val (e_callP (pr__law_refused G) (hr.mono (by decide)) (by rfl) pass0 (a_cons (e_callP (pr__law_spoiled G) (hr.mono (by decide)) (by rfl) pass0 (a_cons (e_var 2) (a_cons (e_var 5) a_nil))) a_nil))))))) (b_one (s_ret e_bl)) b_nil)
      (b_one (s_if (t_not (t_val (e_callP (pr__law_asked G) (hr.mono (by decide)) (by rfl) pass0 (a_cons (e_var 2) (a_cons (e_var 5) a_nil))))) (b_one (s_ret e_bl)) b_nil))))))))))
      (b_one (s_ret e_bl))))) ?_
  rintro _ M Q E ⟨x, rfl, ns, hl, hs, h⟩ H rep
  refine ⟨M, rep, fun _ h => h, ?_⟩
  have hs' := Scr'.of hs
  simp only [startD, List.map_cons, List.map_nil, List.length_cons, List.length_nil, Nat.reduceAdd, Nat.reduceSub, Nat.zero_add, List.replicate, List.cons_append, List.nil_append]; simp (config := {failIfUnchanged := false}) only [dC, dOp, dTest, dChain, dAnd, dOr, dNot, dAndV, dOrV, dNotV, dIf, dNil, dCons, dTup, dLst, dCB, d1, dNoPart, dPart, dSl, dCut, dNeg, dSorted, dSum, dAll, dAny, dInt, dAbs, dMax, dMin, dIsi, isT, dNext, dSeq, dBrk, dCont, dNever, dExpr, dRet, dRetN, dIfS, dAsg, dPutI, dI0, dI, dIsN, dNotN, dRng1, dRng2, dRngDn, dZipI, dYes, dCall, dLM, dAppend, dExtend, dReverse, dInsert, dAugI, dRg1, dRg2, dTupRg, dLstRg, dNewK, dNewT, ↓S0_, ↓S1_, ↓S2_, ↓S3_, ↓S4_, ↓S5_, ↓S6_, List.map_cons, List.map_nil, List.length_cons, List.length_nil, List.replicate, List.cons_append, List.nil_append, Nat.reduceAdd, Nat.reduceSub, Nat.zero_add, List.getElem?_cons_zero, List.getElem?_cons_succ, Option.some.injEq, exists_eq_left, exists_eq_left', List.set_cons_zero, List.set_cons_succ, wipeD, D.int.injEq, D.bl.injEq, D.str.injEq, D.ref.injEq, D.tup.injEq, D.ty.injEq, true_and, and_true, forall_const, forall_eq', forall_eq, mt_int, mt_bool, mt_str, mt_tuple, mt_list, mt_dict, st_int_int, st_int_bool, st_int_str, st_int_tuple, st_int_list, st_int_dict, st_bool_int, st_bool_bool, st_bool_str, st_bool_tuple, st_bool_list, st_bool_dict, st_str_int, st_str_bool, st_str_str, st_str_tuple, st_str_list, st_str_dict, st_tuple_int, st_tuple_bool, st_tuple_str, st_tuple_tuple, st_tuple_list, st_tuple_dict, st_list_int, st_list_bool, st_list_str, st_list_tuple, st_list_list, st_list_dict, st_dict_int, st_dict_bool, st_dict_str, st_dict_tuple, st_dict_list, st_dict_dict, eq_self, Bool.true_eq_false, Bool.false_eq_true, false_implies, true_implies, implies_true, decide_eq_true_eq, decide_eq_false_iff_not, Bool.not_true, Bool.not_false, Bool.not_eq_true, Bool.not_eq_false, Bool.not_eq_true', Bool.not_eq_false', not_true_eq_false, not_false_eq_true, false_and, and_false, or_false, false_or, reduceCtorEq, ↓exLSu, ↓exDKu, ↓exDKd, ↓exLSd, ↓exLu, ↓dIxRu, ↓dPutu, ↓dGetAu, ↓dEq_int, ↓dNe_int, ↓dEq_bl, ↓dNe_bl, ↓dEq_str, ↓dNe_str, ↓dAdd_int, ↓exAt10, ↓exIx10, ↓exAt20, ↓exIx20, ↓exAt21, ↓exIx21, ↓exAt30, ↓exIx30, ↓exAt31, ↓exIx31, ↓exAt32, ↓exIx32, ↓exAt40, ↓exIx40, ↓exAt41, ↓exIx41, ↓exAt42, ↓exIx42, ↓exAt43, ↓exIx43, ↓exAt50, ↓exIx50, ↓exAt51, ↓exIx51, ↓exAt52, ↓exIx52, ↓exAt53, ↓exIx53, ↓exAt54, ↓exIx54, ↓exAt60, ↓exIx60, ↓exAt61, ↓exIx61, ↓exAt62, ↓exIx62, ↓exAt63, ↓exIx63, ↓exAt64, ↓exIx64, ↓exAt65, ↓exIx65, up_up, false_or, or_false, ↓exAtM, ↓dFlag_bl, ↓exBl, ↓exInt, ↓exRef, ↓dVar0, ↓dAug0, ↓dSet0, ↓dTgN0, ↓dTgW0, ↓dVar1, ↓dAug1, ↓dSet1, ↓dTgN1, ↓dTgW1, ↓dVar2, ↓dAug2, ↓dSet2, ↓dTgN2, ↓dTgW2, ↓dVar3, ↓dAug3, ↓dSet3, ↓dTgN3, ↓dTgW3, ↓dVar4, ↓dAug4, ↓dSet4, ↓dTgN4, ↓dTgW4, ↓dVar5, ↓dAug5, ↓dSet5, ↓dTgN5, ↓dTgW5, ↓dVar6, ↓dAug6, ↓dSet6, ↓dTgN6, ↓dTgW6, ↓dVar7, ↓dAug7, ↓dSet7, ↓dTgN7, ↓dTgW7, ↓dVar8, ↓dAug8, ↓dSet8, ↓dTgN8, ↓dTgW8, ↓dVar9, ↓dAug9, ↓dSet9, ↓dTgN9, ↓dTgW9, ↓dVar10, ↓dAug10, ↓dSet10, ↓dTgN10, ↓dTgW10, ↓dVar11, ↓dAug11, ↓dSet11, ↓dTgN11, ↓dTgW11, ↓dVar12, ↓dAug12, ↓dSet12, ↓dTgN12, ↓dTgW12, ↓dVar13, ↓dAug13, ↓dSet13, ↓dTgN13, ↓dTgW13, ↓dVar14, ↓dAug14, ↓dSet14, ↓dTgN14, ↓dTgW14, ↓dVar15, ↓dAug15, ↓dSet15, ↓dTgN15, ↓dTgW15, ↓dVar16, ↓dAug16, ↓dSet16, ↓dTgN16, ↓dTgW16, ↓dVar17, ↓dAug17, ↓dSet17, ↓dTgN17, ↓dTgW17, ↓dVar18, ↓dAug18, ↓dSet18, ↓dTgN18, ↓dTgW18, ↓dVar19, ↓dAug19, ↓dSet19, ↓dTgN19, ↓dTgW19, ↓dTg_t2, ↓dTg_t3, ↓exGetM, ↓exSumU, nD, plD, rwD, ↓dAdd_tup, ↓dAdd_ref, dIx_tup, dIx_str, dIx_ref, dIx_kl, dListOf_tup, dListOf_kl, dListOf_ref, dLen_tup, dLen_str, dLen_kl, dLen_ref, dTupOf_tup, dTupOf_ref, dSeqI_x, sqX_tup, sqX_ref, sqX_str, dEnumI_x, enX_tup, enX_ref, dRevA, dRevD, dSIndex, dLtS, dUpper, dListS, dDisp1, dRevT, dInS, dSortA, dIsi2, isT2, Bool.or_true, Bool.true_or, Bool.or_false, Bool.or_self, dCallX, dRaise, dTryO, dTryA, dRaise1, dExF, dCls, dIsX, ↓exOne, WD0, ↓X0_, ↓X1_, ↓X2_, ↓X3_]
  refine dFor_g fun F1 T1 h1 t1 => ?_; simp only [dFor, dC, dOp, dTest, dChain, dAnd, dOr, dNot, dAndV, dOrV, dNotV, dIf, dNil, dCons, dTup, dLst, dCB, d1, dNoPart, dPart, dSl, dCut, dNeg, dSorted, dSum, dAll, dAny, dInt, dAbs, dMax, dMin, dIsi, isT, dNext, dSeq, dBrk, dCont, dNever, dExpr, dRet, dRetN, dIfS, dAsg, dPutI, dI0, dI, dIsN, dNotN, dRng1, dRng2, dRngDn, dZipI, dYes, dCall, dLM, dAppend, dExtend, dReverse, dInsert, dAugI, dRg1, dRg2, dTupRg, dLstRg, dNewK, dNewT, ↓S0_, ↓S1_, ↓S2_, ↓S3_, ↓S4_, ↓S5_, ↓S6_, List.map_cons, List.map_nil, List.length_cons, List.length_nil, List.replicate, List.cons_append, List.nil_append, Nat.reduceAdd, Nat.reduceSub, Nat.zero_add, List.getElem?_cons_zero, List.getElem?_cons_succ, Option.some.injEq, exists_eq_left, exists_eq_left', List.set_cons_zero, List.set_cons_succ, wipeD, D.int.injEq, D.bl.injEq, D.str.injEq, D.ref.injEq, D.tup.injEq, D.ty.injEq, true_and, and_true, forall_const, forall_eq', forall_eq, mt_int, mt_bool, mt_str, mt_tuple, mt_list, mt_dict, st_int_int, st_int_bool, st_int_str, st_int_tuple, st_int_list, st_int_dict, st_bool_int, st_bool_bool, st_bool_str, st_bool_tuple, st_bool_list, st_bool_dict, st_str_int, st_str_bool, st_str_str, st_str_tuple, st_str_list, st_str_dict, st_tuple_int, st_tuple_bool, st_tuple_str, st_tuple_tuple, st_tuple_list, st_tuple_dict, st_list_int, st_list_bool, st_list_str, st_list_tuple, st_list_list, st_list_dict, st_dict_int, st_dict_bool, st_dict_str, st_dict_tuple, st_dict_list, st_dict_dict, eq_self, Bool.true_eq_false, Bool.false_eq_true, false_implies, true_implies, implies_true, decide_eq_true_eq, decide_eq_false_iff_not, Bool.not_true, Bool.not_false, Bool.not_eq_true, Bool.not_eq_false, Bool.not_eq_true', Bool.not_eq_false', not_true_eq_false, not_false_eq_true, false_and, and_false, or_false, false_or, reduceCtorEq, ↓exLSu, ↓exDKu, ↓exDKd, ↓exLSd, ↓exLu, ↓dIxRu, ↓dPutu, ↓dGetAu, ↓dEq_int, ↓dNe_int, ↓dEq_bl, ↓dNe_bl, ↓dEq_str, ↓dNe_str, ↓dAdd_int, ↓exAt10, ↓exIx10, ↓exAt20, ↓exIx20, ↓exAt21, ↓exIx21, ↓exAt30, ↓exIx30, ↓exAt31, ↓exIx31, ↓exAt32, ↓exIx32, ↓exAt40, ↓exIx40, ↓exAt41, ↓exIx41, ↓exAt42, ↓exIx42, ↓exAt43, ↓exIx43, ↓exAt50, ↓exIx50, ↓exAt51, ↓exIx51, ↓exAt52, ↓exIx52, ↓exAt53, ↓exIx53, ↓exAt54, ↓exIx54, ↓exAt60, ↓exIx60, ↓exAt61, ↓exIx61, ↓exAt62, ↓exIx62, ↓exAt63, ↓exIx63, ↓exAt64, ↓exIx64, ↓exAt65, ↓exIx65, up_up, false_or, or_false, ↓exAtM, ↓dFlag_bl, ↓exBl, ↓exInt, ↓exRef, ↓dVar0, ↓dAug0, ↓dSet0, ↓dTgN0, ↓dTgW0, ↓dVar1, ↓dAug1, ↓dSet1, ↓dTgN1, ↓dTgW1, ↓dVar2, ↓dAug2, ↓dSet2, ↓dTgN2, ↓dTgW2, ↓dVar3, ↓dAug3, ↓dSet3, ↓dTgN3, ↓dTgW3, ↓dVar4, ↓dAug4, ↓dSet4, ↓dTgN4, ↓dTgW4, ↓dVar5, ↓dAug5, ↓dSet5, ↓dTgN5, ↓dTgW5, ↓dVar6, ↓dAug6, ↓dSet6, ↓dTgN6, ↓dTgW6, ↓dVar7, ↓dAug7, ↓dSet7, ↓dTgN7, ↓dTgW7, ↓dVar8, ↓dAug8, ↓dSet8, ↓dTgN8, ↓dTgW8, ↓dVar9, ↓dAug9, ↓dSet9, ↓dTgN9, ↓dTgW9, ↓dVar10, ↓dAug10, ↓dSet10, ↓dTgN10, ↓dTgW10, ↓dVar11, ↓dAug11, ↓dSet11, ↓dTgN11, ↓dTgW11, ↓dVar12, ↓dAug12, ↓dSet12, ↓dTgN12, ↓dTgW12, ↓dVar13, ↓dAug13, ↓dSet13, ↓dTgN13, ↓dTgW13, ↓dVar14, ↓dAug14, ↓dSet14, ↓dTgN14, ↓dTgW14, ↓dVar15, ↓dAug15, ↓dSet15, ↓dTgN15, ↓dTgW15, ↓dVar16, ↓dAug16, ↓dSet16, ↓dTgN16, ↓dTgW16, ↓dVar17, ↓dAug17, ↓dSet17, ↓dTgN17, ↓dTgW17, ↓dVar18, ↓dAug18, ↓dSet18, ↓dTgN18, ↓dTgW18, ↓dVar19, ↓dAug19, ↓dSet19, ↓dTgN19, ↓dTgW19, ↓dTg_t2, ↓dTg_t3, ↓exGetM, ↓exSumU, nD, plD, rwD, ↓dAdd_tup, ↓dAdd_ref, dIx_tup, dIx_str, dIx_ref, dIx_kl, dListOf_tup, dListOf_kl, dListOf_ref, dLen_tup, dLen_str, dLen_kl, dLen_ref, dTupOf_tup, dTupOf_ref, dSeqI_x, sqX_tup, sqX_ref, sqX_str, dEnumI_x, enX_tup, enX_ref, dRevA, dRevD, dSIndex, dLtS, dUpper, dListS, dDisp1, dRevT, dInS, dSortA, dIsi2, isT2, Bool.or_true, Bool.true_or, Bool.or_false, Bool.or_self, dCallX, dRaise, dTryO, dTryA, dRaise1, dExF, dCls, dIsX, ↓exOne, WD0, ↓X0_, ↓X1_, ↓X2_, ↓X3_]
  have loop : ∀ m : Int, 0 ≤ m → m ≤ 6 → ∃ P : List D → DS → Hd → Prop, P [] [some x, none, none, none, none, none, none] M ∧
      (∀ (pre : List D) (z : D) (post : List D) (δ' : DS) (M' : Hd), rngD 0 m = pre ++ z :: post → P pre δ' M' → dTg (Tg.nm 1) z δ' fun δ2 => T1 { nx := fun δ3 M3 => ∃ M4, T3.Sub M3 M4 ∧ P (pre ++ [z]) δ3 M4, rt := fun v M' => ∃ M2, Fgt K M' M2 ∧ Q v M2, bk := F1, ct := fun δ3 M3 => ∃ M4, T3.Sub M3 M4 ∧ P (pre ++ [z]) δ3 M4 } δ2 M') ∧
      ∀ (δ' : DS) (M' : Hd), P (rngD 0 m) δ' M' → F1 δ' M' := fun m hm0 hm => by
    obtain ⟨n, rfl⟩ : ∃ n : Nat, m = (n : Int) := ⟨m.toNat, by omega⟩
    rw [rng0]
    refine forN (fun i δ M' => Sub M' M ∧ ∃ a b c d e g, δ = [some x, a, b, c, d, e, g]) ⟨Sub.refl, _, _, _, _, _, _, rfl⟩ ?_ ?_
    · rintro i z δ' M1 pre P' hz ⟨s1, a, b, c, d, e, g, rfl⟩ hP
      obtain ⟨hi, rfl⟩ := rgx hz
      subst t1
      simp (config := {failIfUnchanged := false}) only [dC, dOp, dTest, dChain, dAnd, dOr, dNot, dAndV, dOrV, dNotV, dIf, dNil, dCons, dTup, dLst, dCB, d1, dNoPart, dPart, dSl, dCut, dNeg, dSorted, dSum, dAll, dAny, dInt, dAbs, dMax, dMin, dIsi, isT, dNext, dSeq, dBrk, dCont, dNever, dExpr, dRet, dRetN, dIfS, dAsg, dPutI, dI0, dI, dIsN, dNotN, dRng1, dRng2, dRngDn, dZipI, dYes, dCall, dLM, dAppend, dExtend, dReverse, dInsert, dAugI, dRg1, dRg2, dTupRg, dLstRg, dNewK, dNewT, ↓S0_, ↓S1_, ↓S2_, ↓S3_, ↓S4_, ↓S5_, ↓S6_, List.map_cons, List.map_nil, List.length_cons, List.length_nil, List.replicate, List.cons_append, List.nil_append, Nat.reduceAdd, Nat.reduceSub, Nat.zero_add, List.getElem?_cons_zero, List.getElem?_cons_succ, Option.some.injEq, exists_eq_left, exists_eq_left', List.set_cons_zero, List.set_cons_succ, wipeD, D.int.injEq, D.bl.injEq, D.str.injEq, D.ref.injEq, D.tup.injEq, D.ty.injEq, true_and, and_true, forall_const, forall_eq', forall_eq, mt_int, mt_bool, mt_str, mt_tuple, mt_list, mt_dict, st_int_int, st_int_bool, st_int_str, st_int_tuple, st_int_list, st_int_dict, st_bool_int, st_bool_bool, st_bool_str, st_bool_tuple, st_bool_list, st_bool_dict, st_str_int, st_str_bool, st_str_str, st_str_tuple, st_str_list, st_str_dict, st_tuple_int, st_tuple_bool, st_tuple_str, st_tuple_tuple, st_tuple_list, st_tuple_dict, st_list_int, st_list_bool, st_list_str, st_list_tuple, st_list_list, st_list_dict, st_dict_int, st_dict_bool, st_dict_str, st_dict_tuple, st_dict_list, st_dict_dict, eq_self, Bool.true_eq_false, Bool.false_eq_true, false_implies, true_implies, implies_true, decide_eq_true_eq, decide_eq_false_iff_not, Bool.not_true, Bool.not_false, Bool.not_eq_true, Bool.not_eq_false, Bool.not_eq_true', Bool.not_eq_false', not_true_eq_false, not_false_eq_true, false_and, and_false, or_false, false_or, reduceCtorEq, ↓exLSu, ↓exDKu, ↓exDKd, ↓exLSd, ↓exLu, ↓dIxRu, ↓dPutu, ↓dGetAu, ↓dEq_int, ↓dNe_int, ↓dEq_bl, ↓dNe_bl, ↓dEq_str, ↓dNe_str, ↓dAdd_int, ↓exAt10, ↓exIx10, ↓exAt20, ↓exIx20, ↓exAt21, ↓exIx21, ↓exAt30, ↓exIx30, ↓exAt31, ↓exIx31, ↓exAt32, ↓exIx32, ↓exAt40, ↓exIx40, ↓exAt41, ↓exIx41, ↓exAt42, ↓exIx42, ↓exAt43, ↓exIx43, ↓exAt50, ↓exIx50, ↓exAt51, ↓exIx51, ↓exAt52, ↓exIx52, ↓exAt53, ↓exIx53, ↓exAt54, ↓exIx54, ↓exAt60, ↓exIx60, ↓exAt61, ↓exIx61, ↓exAt62, ↓exIx62, ↓exAt63, ↓exIx63, ↓exAt64, ↓exIx64, ↓exAt65, ↓exIx65, up_up, false_or, or_false, ↓exAtM, ↓dFlag_bl, ↓exBl, ↓exInt, ↓exRef, ↓dVar0, ↓dAug0, ↓dSet0, ↓dTgN0, ↓dTgW0, ↓dVar1, ↓dAug1, ↓dSet1, ↓dTgN1, ↓dTgW1, ↓dVar2, ↓dAug2, ↓dSet2, ↓dTgN2, ↓dTgW2, ↓dVar3, ↓dAug3, ↓dSet3, ↓dTgN3, ↓dTgW3, ↓dVar4, ↓dAug4, ↓dSet4, ↓dTgN4, ↓dTgW4, ↓dVar5, ↓dAug5, ↓dSet5, ↓dTgN5, ↓dTgW5, ↓dVar6, ↓dAug6, ↓dSet6, ↓dTgN6, ↓dTgW6, ↓dVar7, ↓dAug7, ↓dSet7, ↓dTgN7, ↓dTgW7, ↓dVar8, ↓dAug8, ↓dSet8, ↓dTgN8, ↓dTgW8, ↓dVar9, ↓dAug9, ↓dSet9, ↓dTgN9, ↓dTgW9, ↓dVar10, ↓dAug10, ↓dSet10, ↓dTgN10, ↓dTgW10, ↓dVar11, ↓dAug11, ↓dSet11, ↓dTgN11, ↓dTgW11, ↓dVar12, ↓dAug12, ↓dSet12, ↓dTgN12, ↓dTgW12, ↓dVar13, ↓dAug13, ↓dSet13, ↓dTgN13, ↓dTgW13, ↓dVar14, ↓dAug14, ↓dSet14, ↓dTgN14, ↓dTgW14, ↓dVar15, ↓dAug15, ↓dSet15, ↓dTgN15, ↓dTgW15, ↓dVar16, ↓dAug16, ↓dSet16, ↓dTgN16, ↓dTgW16, ↓dVar17, ↓dAug17, ↓dSet17, ↓dTgN17, ↓dTgW17, ↓dVar18, ↓dAug18, ↓dSet18, ↓dTgN18, ↓dTgW18, ↓dVar19, ↓dAug19, ↓dSet19, ↓dTgN19, ↓dTgW19, ↓dTg_t2, ↓dTg_t3, ↓exGetM, ↓exSumU, nD, plD, rwD, ↓dAdd_tup, ↓dAdd_ref, dIx_tup, dIx_str, dIx_ref, dIx_kl, dListOf_tup, dListOf_kl, dListOf_ref, dLen_tup, dLen_str, dLen_kl, dLen_ref, dTupOf_tup, dTupOf_ref, dSeqI_x, sqX_tup, sqX_ref, sqX_str, dEnumI_x, enX_tup, enX_ref, dRevA, dRevD, dSIndex, dLtS, dUpper, dListS, dDisp1, dRevT, dInS, dSortA, dIsi2, isT2, Bool.or_true, Bool.true_or, Bool.or_false, Bool.or_self, dCallX, dRaise, dTryO, dTryA, dRaise1, dExF, dCls, dIsX, ↓exOne, WD0, ↓X0_, ↓X1_, ↓X2_, ↓X3_, dCutS]
      refine ⟨ns, i, rfl, by omega, hl, hs'.sub s1, fun y hy => ?_⟩
      have s2 : Sub (up M1 y (.ext (FlatI y G2) [])) M := (Sub.new hy (by intro _ z; cases z)).trans s1
      have hp : Pool (up M1 y (.ext (FlatI y G2) [])) (.ref y) := ⟨y, rfl, up_same⟩
      generalize up M1 y (.ext (FlatI y G2) []) = M2 at *
      refine ⟨4, rfl, hp, by omega, by omega, fun v hv => ⟨13, rfl, hp, by omega, by omega, fun u hu => ⟨fun δ M' => M' = M2 ∧ ∃ (m : Nat) (bg : Bool), m ≤ 60 ∧ δ = [some x, some (nD i), some (.ref y), some (.bl bg), some (nD m), e, g], ?_, ?_⟩⟩⟩
      · exact ⟨6, rfl, hp, by omega, by omega, fun w hw => ⟨fun _ => ⟨61, rfl, hp, by omega, by omega, fun k hk => ⟨rfl, k, _, by omega, rfl⟩⟩, fun _ => ⟨rfl, u, _, by omega, rfl⟩⟩⟩
      rintro δ2 M2 ⟨rfl, m, bg, hm60, rfl⟩
      simp (config := {failIfUnchanged := false}) only [dC, dOp, dTest, dChain, dAnd, dOr, dNot, dAndV, dOrV, dNotV, dIf, dNil, dCons, dTup, dLst, dCB, d1, dNoPart, dPart, dSl, dCut, dNeg, dSorted, dSum, dAll, dAny, dInt, dAbs, dMax, dMin, dIsi, isT, dNext, dSeq, dBrk, dCont, dNever, dExpr, dRet, dRetN, dIfS, dAsg, dPutI, dI0, dI, dIsN, dNotN, dRng1, dRng2, dRngDn, dZipI, dYes, dCall, dLM, dAppend, dExtend, dReverse, dInsert, dAugI, dRg1, dRg2, dTupRg, dLstRg, dNewK, dNewT, ↓S0_, ↓S1_, ↓S2_, ↓S3_, ↓S4_, ↓S5_, ↓S6_, List.map_cons, List.map_nil, List.length_cons, List.length_nil, List.replicate, List.cons_append, List.nil_append, Nat.reduceAdd, Nat.reduceSub, Nat.zero_add, List.getElem?_cons_zero, List.getElem?_cons_succ, Option.some.injEq, exists_eq_left, exists_eq_left', List.set_cons_zero, List.set_cons_succ, wipeD, D.int.injEq, D.bl.injEq, D.str.injEq, D.ref.injEq, D.tup.injEq, D.ty.injEq, true_and, and_true, forall_const, forall_eq', forall_eq, mt_int, mt_bool, mt_str, mt_tuple, mt_list, mt_dict, st_int_int, st_int_bool, st_int_str, st_int_tuple, st_int_list, st_int_dict, st_bool_int, st_bool_bool, st_bool_str, st_bool_tuple, st_bool_list, st_bool_dict, st_str_int, st_str_bool, st_str_str, st_str_tuple, st_str_list, st_str_dict, st_tuple_int, st_tuple_bool, st_tuple_str, st_tuple_tuple, st_tuple_list, st_tuple_dict, st_list_int, st_list_bool, st_list_str, st_list_tuple, st_list_list, st_list_dict, st_dict_int, st_dict_bool, st_dict_str, st_dict_tuple, st_dict_list, st_dict_dict, eq_self, Bool.true_eq_false, Bool.false_eq_true, false_implies, true_implies, implies_true, decide_eq_true_eq, decide_eq_false_iff_not, Bool.not_true, Bool.not_false, Bool.not_eq_true, Bool.not_eq_false, Bool.not_eq_true', Bool.not_eq_false', not_true_eq_false, not_false_eq_true, false_and, and_false, or_false, false_or, reduceCtorEq, ↓exLSu, ↓exDKu, ↓exDKd, ↓exLSd, ↓exLu, ↓dIxRu, ↓dPutu, ↓dGetAu, ↓dEq_int, ↓dNe_int, ↓dEq_bl, ↓dNe_bl, ↓dEq_str, ↓dNe_str, ↓dAdd_int, ↓exAt10, ↓exIx10, ↓exAt20, ↓exIx20, ↓exAt21, ↓exIx21, ↓exAt30, ↓exIx30, ↓exAt31, ↓exIx31, ↓exAt32, ↓exIx32, ↓exAt40, ↓exIx40, ↓exAt41, ↓exIx41, ↓exAt42, ↓exIx42, ↓exAt43, ↓exIx43, ↓exAt50, ↓exIx50, ↓exAt51, ↓exIx51, ↓exAt52, ↓exIx52, ↓exAt53, ↓exIx53, ↓exAt54, ↓exIx54, ↓exAt60, ↓exIx60, ↓exAt61, ↓exIx61, ↓exAt62, ↓exIx62, ↓exAt63, ↓exIx63, ↓exAt64, ↓exIx64, ↓exAt65, ↓exIx65, up_up, false_or, or_false, ↓exAtM, ↓dFlag_bl, ↓exBl, ↓exInt, ↓exRef, ↓dVar0, ↓dAug0, ↓dSet0, ↓dTgN0, ↓dTgW0, ↓dVar1, ↓dAug1, ↓dSet1, ↓dTgN1, ↓dTgW1, ↓dVar2, ↓dAug2, ↓dSet2, ↓dTgN2, ↓dTgW2, ↓dVar3, ↓dAug3, ↓dSet3, ↓dTgN3, ↓dTgW3, ↓dVar4, ↓dAug4, ↓dSet4, ↓dTgN4, ↓dTgW4, ↓dVar5, ↓dAug5, ↓dSet5, ↓dTgN5, ↓dTgW5, ↓dVar6, ↓dAug6, ↓dSet6, ↓dTgN6, ↓dTgW6, ↓dVar7, ↓dAug7, ↓dSet7, ↓dTgN7, ↓dTgW7, ↓dVar8, ↓dAug8, ↓dSet8, ↓dTgN8, ↓dTgW8, ↓dVar9, ↓dAug9, ↓dSet9, ↓dTgN9, ↓dTgW9, ↓dVar10, ↓dAug10, ↓dSet10, ↓dTgN10, ↓dTgW10, ↓dVar11, ↓dAug11, ↓dSet11, ↓dTgN11, ↓dTgW11, ↓dVar12, ↓dAug12, ↓dSet12, ↓dTgN12, ↓dTgW12, ↓dVar13, ↓dAug13, ↓dSet13, ↓dTgN13, ↓dTgW13, ↓dVar14, ↓dAug14, ↓dSet14, ↓dTgN14, ↓dTgW14, ↓dVar15, ↓dAug15, ↓dSet15, ↓dTgN15, ↓dTgW15, ↓dVar16, ↓dAug16, ↓dSet16, ↓dTgN16, ↓dTgW16, ↓dVar17, ↓dAug17, ↓dSet17, ↓dTgN17, ↓dTgW17, ↓dVar18, ↓dAug18, ↓dSet18, ↓dTgN18, ↓dTgW18, ↓dVar19, ↓dAug19, ↓dSet19, ↓dTgN19, ↓dTgW19, ↓dTg_t2, ↓dTg_t3, ↓exGetM, ↓exSumU, nD, plD, rwD, ↓dAdd_tup, ↓dAdd_ref, dIx_tup, dIx_str, dIx_ref, dIx_kl, dListOf_tup, dListOf_kl, dListOf_ref, dLen_tup, dLen_str, dLen_kl, dLen_ref, dTupOf_tup, dTupOf_ref, dSeqI_x, sqX_tup, sqX_ref, sqX_str, dEnumI_x, enX_tup, enX_ref, dRevA, dRevD, dSIndex, dLtS, dUpper, dListS, dDisp1, dRevT, dInS, dSortA, dIsi2, isT2, Bool.or_true, Bool.true_or, Bool.or_false, Bool.or_self, dCallX, dRaise, dTryO, dTryA, dRaise1, dExF, dCls, dIsX, ↓exOne, WD0, ↓X0_, ↓X1_, ↓X2_, ↓X3_]
      intro f hf
      have nyf : ∀ T : List (List Nat), Sub (up M2 f (.lst (T.map wD))) M2 := fun T => Sub.new hf (by intro _ z; cases z)
      refine dFor_g fun F2 T2 h2 t2 => ?_; simp only [dFor, dC, dOp, dTest, dChain, dAnd, dOr, dNot, dAndV, dOrV, dNotV, dIf, dNil, dCons, dTup, dLst, dCB, d1, dNoPart, dPart, dSl, dCut, dNeg, dSorted, dSum, dAll, dAny, dInt, dAbs, dMax, dMin, dIsi, isT, dNext, dSeq, dBrk, dCont, dNever, dExpr, dRet, dRetN, dIfS, dAsg, dPutI, dI0, dI, dIsN, dNotN, dRng1, dRng2, dRngDn, dZipI, dYes, dCall, dLM, dAppend, dExtend, dReverse, dInsert, dAugI, dRg1, dRg2, dTupRg, dLstRg, dNewK, dNewT, ↓S0_, ↓S1_, ↓S2_, ↓S3_, ↓S4_, ↓S5_, ↓S6_, List.map_cons, List.map_nil, List.length_cons, List.length_nil, List.replicate, List.cons_append, List.nil_append, Nat.reduceAdd, Nat.reduceSub, Nat.zero_add, List.getElem?_cons_zero, List.getElem?_cons_succ, Option.some.injEq, exists_eq_left, exists_eq_left', List.set_cons_zero, List.set_cons_succ, wipeD, D.int.injEq, D.bl.injEq, D.str.injEq, D.ref.injEq, D.tup.injEq, D.ty.injEq, true_and, and_true, forall_const, forall_eq', forall_eq, mt_int, mt_bool, mt_str, mt_tuple, mt_list, mt_dict, st_int_int, st_int_bool, st_int_str, st_int_tuple, st_int_list, st_int_dict, st_bool_int, st_bool_bool, st_bool_str, st_bool_tuple, st_bool_list, st_bool_dict, st_str_int, st_str_bool, st_str_str, st_str_tuple, st_str_list, st_str_dict, st_tuple_int, st_tuple_bool, st_tuple_str, st_tuple_tuple, st_tuple_list, st_tuple_dict, st_list_int, st_list_bool, st_list_str, st_list_tuple, st_list_list, st_list_dict, st_dict_int, st_dict_bool, st_dict_str, st_dict_tuple, st_dict_list, st_dict_dict, eq_self, Bool.true_eq_false, Bool.false_eq_true, false_implies, true_implies, implies_true, decide_eq_true_eq, decide_eq_false_iff_not, Bool.not_true, Bool.not_false, Bool.not_eq_true, Bool.not_eq_false, Bool.not_eq_true', Bool.not_eq_false', not_true_eq_false, not_false_eq_true, false_and, and_false, or_false, false_or, reduceCtorEq, ↓exLSu, ↓exDKu, ↓exDKd, ↓exLSd, ↓exLu, ↓dIxRu, ↓dPutu, ↓dGetAu, ↓dEq_int, ↓dNe_int, ↓dEq_bl, ↓dNe_bl, ↓dEq_str, ↓dNe_str, ↓dAdd_int, ↓exAt10, ↓exIx10, ↓exAt20, ↓exIx20, ↓exAt21, ↓exIx21, ↓exAt30, ↓exIx30, ↓exAt31, ↓exIx31, ↓exAt32, ↓exIx32, ↓exAt40, ↓exIx40, ↓exAt41, ↓exIx41, ↓exAt42, ↓exIx42, ↓exAt43, ↓exIx43, ↓exAt50, ↓exIx50, ↓exAt51, ↓exIx51, ↓exAt52, ↓exIx52, ↓exAt53, ↓exIx53, ↓exAt54, ↓exIx54, ↓exAt60, ↓exIx60, ↓exAt61, ↓exIx61, ↓exAt62, ↓exIx62, ↓exAt63, ↓exIx63, ↓exAt64, ↓exIx64, ↓exAt65, ↓exIx65, up_up, false_or, or_false, ↓exAtM, ↓dFlag_bl, ↓exBl, ↓exInt, ↓exRef, ↓dVar0, ↓dAug0, ↓dSet0, ↓dTgN0, ↓dTgW0, ↓dVar1, ↓dAug1, ↓dSet1, ↓dTgN1, ↓dTgW1, ↓dVar2, ↓dAug2, ↓dSet2, ↓dTgN2, ↓dTgW2, ↓dVar3, ↓dAug3, ↓dSet3, ↓dTgN3, ↓dTgW3, ↓dVar4, ↓dAug4, ↓dSet4, ↓dTgN4, ↓dTgW4, ↓dVar5, ↓dAug5, ↓dSet5, ↓dTgN5, ↓dTgW5, ↓dVar6, ↓dAug6, ↓dSet6, ↓dTgN6, ↓dTgW6, ↓dVar7, ↓dAug7, ↓dSet7, ↓dTgN7, ↓dTgW7, ↓dVar8, ↓dAug8, ↓dSet8, ↓dTgN8, ↓dTgW8, ↓dVar9, ↓dAug9, ↓dSet9, ↓dTgN9, ↓dTgW9, ↓dVar10, ↓dAug10, ↓dSet10, ↓dTgN10, ↓dTgW10, ↓dVar11, ↓dAug11, ↓dSet11, ↓dTgN11, ↓dTgW11, ↓dVar12, ↓dAug12, ↓dSet12, ↓dTgN12, ↓dTgW12, ↓dVar13, ↓dAug13, ↓dSet13, ↓dTgN13, ↓dTgW13, ↓dVar14, ↓dAug14, ↓dSet14, ↓dTgN14, ↓dTgW14, ↓dVar15, ↓dAug15, ↓dSet15, ↓dTgN15, ↓dTgW15, ↓dVar16, ↓dAug16, ↓dSet16, ↓dTgN16, ↓dTgW16, ↓dVar17, ↓dAug17, ↓dSet17, ↓dTgN17, ↓dTgW17, ↓dVar18, ↓dAug18, ↓dSet18, ↓dTgN18, ↓dTgW18, ↓dVar19, ↓dAug19, ↓dSet19, ↓dTgN19, ↓dTgW19, ↓dTg_t2, ↓dTg_t3, ↓exGetM, ↓exSumU, nD, plD, rwD, ↓dAdd_tup, ↓dAdd_ref, dIx_tup, dIx_str, dIx_ref, dIx_kl, dListOf_tup, dListOf_kl, dListOf_ref, dLen_tup, dLen_str, dLen_kl, dLen_ref, dTupOf_tup, dTupOf_ref, dSeqI_x, sqX_tup, sqX_ref, sqX_str, dEnumI_x, enX_tup, enX_ref, dRevA, dRevD, dSIndex, dLtS, dUpper, dListS, dDisp1, dRevT, dInS, dSortA, dIsi2, isT2, Bool.or_true, Bool.true_or, Bool.or_false, Bool.or_self, dCallX, dRaise, dTryO, dTryA, dRaise1, dExF, dCls, dIsX, ↓exOne, WD0, ↓X0_, ↓X1_, ↓X2_, ↓X3_]
      rw [rng0]
      refine ⟨by omega, forN (fun j δ M' => ∃ T : List (List Nat), T.length = j ∧ (∀ t ∈ T, Fal t) ∧ M' = up M2 f (.lst (T.map wD)) ∧ ∃ g, δ = [some x, some (nD i), some (.ref y), some (.bl bg), some (nD m), some (.ref f), g]) ⟨[], rfl, by simp, rfl, _, rfl⟩ ?_ ?_⟩
      · rintro j z δ3 M3 pre3 P3 hz ⟨T, hT, hF, hM3, g2, rfl⟩ hP3
        obtain ⟨hj, rfl⟩ := rgx hz
        subst hM3
        subst t2
        simp (config := {failIfUnchanged := false}) only [dC, dOp, dTest, dChain, dAnd, dOr, dNot, dAndV, dOrV, dNotV, dIf, dNil, dCons, dTup, dLst, dCB, d1, dNoPart, dPart, dSl, dCut, dNeg, dSorted, dSum, dAll, dAny, dInt, dAbs, dMax, dMin, dIsi, isT, dNext, dSeq, dBrk, dCont, dNever, dExpr, dRet, dRetN, dIfS, dAsg, dPutI, dI0, dI, dIsN, dNotN, dRng1, dRng2, dRngDn, dZipI, dYes, dCall, dLM, dAppend, dExtend, dReverse, dInsert, dAugI, dRg1, dRg2, dTupRg, dLstRg, dNewK, dNewT, ↓S0_, ↓S1_, ↓S2_, ↓S3_, ↓S4_, ↓S5_, ↓S6_, List.map_cons, List.map_nil, List.length_cons, List.length_nil, List.replicate, List.cons_append, List.nil_append, Nat.reduceAdd, Nat.reduceSub, Nat.zero_add, List.getElem?_cons_zero, List.getElem?_cons_succ, Option.some.injEq, exists_eq_left, exists_eq_left', List.set_cons_zero, List.set_cons_succ, wipeD, D.int.injEq, D.bl.injEq, D.str.injEq, D.ref.injEq, D.tup.injEq, D.ty.injEq, true_and, and_true, forall_const, forall_eq', forall_eq, mt_int, mt_bool, mt_str, mt_tuple, mt_list, mt_dict, st_int_int, st_int_bool, st_int_str, st_int_tuple, st_int_list, st_int_dict, st_bool_int, st_bool_bool, st_bool_str, st_bool_tuple, st_bool_list, st_bool_dict, st_str_int, st_str_bool, st_str_str, st_str_tuple, st_str_list, st_str_dict, st_tuple_int, st_tuple_bool, st_tuple_str, st_tuple_tuple, st_tuple_list, st_tuple_dict, st_list_int, st_list_bool, st_list_str, st_list_tuple, st_list_list, st_list_dict, st_dict_int, st_dict_bool, st_dict_str, st_dict_tuple, st_dict_list, st_dict_dict, eq_self, Bool.true_eq_false, Bool.false_eq_true, false_implies, true_implies, implies_true, decide_eq_true_eq, decide_eq_false_iff_not, Bool.not_true, Bool.not_false, Bool.not_eq_true, Bool.not_eq_false, Bool.not_eq_true', Bool.not_eq_false', not_true_eq_false, not_false_eq_true, false_and, and_false, or_false, false_or, reduceCtorEq, ↓exLSu, ↓exDKu, ↓exDKd, ↓exLSd, ↓exLu, ↓dIxRu, ↓dPutu, ↓dGetAu, ↓dEq_int, ↓dNe_int, ↓dEq_bl, ↓dNe_bl, ↓dEq_str, ↓dNe_str, ↓dAdd_int, ↓exAt10, ↓exIx10, ↓exAt20, ↓exIx20, ↓exAt21, ↓exIx21, ↓exAt30, ↓exIx30, ↓exAt31, ↓exIx31, ↓exAt32, ↓exIx32, ↓exAt40, ↓exIx40, ↓exAt41, ↓exIx41, ↓exAt42, ↓exIx42, ↓exAt43, ↓exIx43, ↓exAt50, ↓exIx50, ↓exAt51, ↓exIx51, ↓exAt52, ↓exIx52, ↓exAt53, ↓exIx53, ↓exAt54, ↓exIx54, ↓exAt60, ↓exIx60, ↓exAt61, ↓exIx61, ↓exAt62, ↓exIx62, ↓exAt63, ↓exIx63, ↓exAt64, ↓exIx64, ↓exAt65, ↓exIx65, up_up, false_or, or_false, ↓exAtM, ↓dFlag_bl, ↓exBl, ↓exInt, ↓exRef, ↓dVar0, ↓dAug0, ↓dSet0, ↓dTgN0, ↓dTgW0, ↓dVar1, ↓dAug1, ↓dSet1, ↓dTgN1, ↓dTgW1, ↓dVar2, ↓dAug2, ↓dSet2, ↓dTgN2, ↓dTgW2, ↓dVar3, ↓dAug3, ↓dSet3, ↓dTgN3, ↓dTgW3, ↓dVar4, ↓dAug4, ↓dSet4, ↓dTgN4, ↓dTgW4, ↓dVar5, ↓dAug5, ↓dSet5, ↓dTgN5, ↓dTgW5, ↓dVar6, ↓dAug6, ↓dSet6, ↓dTgN6, ↓dTgW6, ↓dVar7, ↓dAug7, ↓dSet7, ↓dTgN7, ↓dTgW7, ↓dVar8, ↓dAug8, ↓dSet8, ↓dTgN8, ↓dTgW8, ↓dVar9, ↓dAug9, ↓dSet9, ↓dTgN9, ↓dTgW9, ↓dVar10, ↓dAug10, ↓dSet10, ↓dTgN10, ↓dTgW10, ↓dVar11, ↓dAug11, ↓dSet11, ↓dTgN11, ↓dTgW11, ↓dVar12, ↓dAug12, ↓dSet12, ↓dTgN12, ↓dTgW12, ↓dVar13, ↓dAug13, ↓dSet13, ↓dTgN13, ↓dTgW13, ↓dVar14, ↓dAug14, ↓dSet14, ↓dTgN14, ↓dTgW14, ↓dVar15, ↓dAug15, ↓dSet15, ↓dTgN15, ↓dTgW15, ↓dVar16, ↓dAug16, ↓dSet16, ↓dTgN16, ↓dTgW16, ↓dVar17, ↓dAug17, ↓dSet17, ↓dTgN17, ↓dTgW17, ↓dVar18, ↓dAug18, ↓dSet18, ↓dTgN18, ↓dTgW18, ↓dVar19, ↓dAug19, ↓dSet19, ↓dTgN19, ↓dTgW19, ↓dTg_t2, ↓dTg_t3, ↓exGetM, ↓exSumU, nD, plD, rwD, ↓dAdd_tup, ↓dAdd_ref, dIx_tup, dIx_str, dIx_ref, dIx_kl, dListOf_tup, dListOf_kl, dListOf_ref, dLen_tup, dLen_str, dLen_kl, dLen_ref, dTupOf_tup, dTupOf_ref, dSeqI_x, sqX_tup, sqX_ref, sqX_str, dEnumI_x, enX_tup, enX_ref, dRevA, dRevD, dSIndex, dLtS, dUpper, dListS, dDisp1, dRevT, dInS, dSortA, dIsi2, isT2, Bool.or_true, Bool.true_or, Bool.or_false, Bool.or_self, dCallX, dRaise, dTryO, dTryA, dRaise1, dExF, dCls, dIsX, ↓exOne, WD0, ↓X0_, ↓X1_, ↓X2_, ↓X3_]
        refine ⟨⟨f, _, rfl, .inl up_same⟩, f, T, rfl, hp.sub (nyf T), up_same, by omega, hF, fun c hc => ⟨by rw [List.length_map]; exact small1000 (by omega), sb0 (hP3 _ _ ⟨T ++ [c], by rw [List.length_append, hT]; rfl, fun t ht => ?_, by rw [List.map_append]; rfl, _, rfl⟩)⟩⟩
        rcases List.mem_append.mp ht with z | z
        · exact hF t z
        · rw [List.mem_singleton] at z
          rw [z]
          exact hc
      · rintro δ3 M3 ⟨T, hT, hF, hM3, g2, rfl⟩
        rw [rg_len] at hT
        subst hM3
        rw [h2]
        have hfT : up M2 f (.lst (T.map wD)) f = some (.lst (T.map wD)) := up_same
        have sT2 := nyf T
        generalize up M2 f (.lst (T.map wD)) = M4 at *
        have hp4 := hp.sub sT2
        simp (config := {failIfUnchanged := false}) only [dC, dOp, dTest, dChain, dAnd, dOr, dNot, dAndV, dOrV, dNotV, dIf, dNil, dCons, dTup, dLst, dCB, d1, dNoPart, dPart, dSl, dCut, dNeg, dSorted, dSum, dAll, dAny, dInt, dAbs, dMax, dMin, dIsi, isT, dNext, dSeq, dBrk, dCont, dNever, dExpr, dRet, dRetN, dIfS, dAsg, dPutI, dI0, dI, dIsN, dNotN, dRng1, dRng2, dRngDn, dZipI, dYes, dCall, dLM, dAppend, dExtend, dReverse, dInsert, dAugI, dRg1, dRg2, dTupRg, dLstRg, dNewK, dNewT, ↓S0_, ↓S1_, ↓S2_, ↓S3_, ↓S4_, ↓S5_, ↓S6_, List.map_cons, List.map_nil, List.length_cons, List.length_nil, List.replicate, List.cons_append, List.nil_append, Nat.reduceAdd, Nat.reduceSub, Nat.zero_add, List.getElem?_cons_zero, List.getElem?_cons_succ, Option.some.injEq, exists_eq_left, exists_eq_left', List.set_cons_zero, List.set_cons_succ, wipeD, D.int.injEq, D.bl.injEq, D.str.injEq, D.ref.injEq, D.tup.injEq, D.ty.injEq, true_and, and_true, forall_const, forall_eq', forall_eq, mt_int, mt_bool, mt_str, mt_tuple, mt_list, mt_dict, st_int_int, st_int_bool, st_int_str, st_int_tuple, st_int_list, st_int_dict, st_bool_int, st_bool_bool, st_bool_str, st_bool_tuple, st_bool_list, st_bool_dict, st_str_int, st_str_bool, st_str_str, st_str_tuple, st_str_list, st_str_dict, st_tuple_int, st_tuple_bool, st_tuple_str, st_tuple_tuple, st_tuple_list, st_tuple_dict, st_list_int, st_list_bool, st_list_str, st_list_tuple, st_list_list, st_list_dict, st_dict_int, st_dict_bool, st_dict_str, st_dict_tuple, st_dict_list, st_dict_dict, eq_self, Bool.true_eq_false, Bool.false_eq_true, false_implies, true_implies, implies_true, decide_eq_true_eq, decide_eq_false_iff_not, Bool.not_true, Bool.not_false, Bool.not_eq_true, Bool.not_eq_false, Bool.not_eq_true', Bool.not_eq_false', not_true_eq_false, not_false_eq_true, false_and, and_false, or_false, false_or, reduceCtorEq, ↓exLSu, ↓exDKu, ↓exDKd, ↓exLSd, ↓exLu, ↓dIxRu, ↓dPutu, ↓dGetAu, ↓dEq_int, ↓dNe_int, ↓dEq_bl, ↓dNe_bl, ↓dEq_str, ↓dNe_str, ↓dAdd_int, ↓exAt10, ↓exIx10, ↓exAt20, ↓exIx20, ↓exAt21, ↓exIx21, ↓exAt30, ↓exIx30, ↓exAt31, ↓exIx31, ↓exAt32, ↓exIx32, ↓exAt40, ↓exIx40, ↓exAt41, ↓exIx41, ↓exAt42, ↓exIx42, ↓exAt43, ↓exIx43, ↓exAt50, ↓exIx50, ↓exAt51, ↓exIx51, ↓exAt52, ↓exIx52, ↓exAt53, ↓exIx53, ↓exAt54, ↓exIx54, ↓exAt60, ↓exIx60, ↓exAt61, ↓exIx61, ↓exAt62, ↓exIx62, ↓exAt63, ↓exIx63, ↓exAt64, ↓exIx64, ↓exAt65, ↓exIx65, up_up, false_or, or_false, ↓exAtM, ↓dFlag_bl, ↓exBl, ↓exInt, ↓exRef, ↓dVar0, ↓dAug0, ↓dSet0, ↓dTgN0, ↓dTgW0, ↓dVar1, ↓dAug1, ↓dSet1, ↓dTgN1, ↓dTgW1, ↓dVar2, ↓dAug2, ↓dSet2, ↓dTgN2, ↓dTgW2, ↓dVar3, ↓dAug3, ↓dSet3, ↓dTgN3, ↓dTgW3, ↓dVar4, ↓dAug4, ↓dSet4, ↓dTgN4, ↓dTgW4, ↓dVar5, ↓dAug5, ↓dSet5, ↓dTgN5, ↓dTgW5, ↓dVar6, ↓dAug6, ↓dSet6, ↓dTgN6, ↓dTgW6, ↓dVar7, ↓dAug7, ↓dSet7, ↓dTgN7, ↓dTgW7, ↓dVar8, ↓dAug8, ↓dSet8, ↓dTgN8, ↓dTgW8, ↓dVar9, ↓dAug9, ↓dSet9, ↓dTgN9, ↓dTgW9, ↓dVar10, ↓dAug10, ↓dSet10, ↓dTgN10, ↓dTgW10, ↓dVar11, ↓dAug11, ↓dSet11, ↓dTgN11, ↓dTgW11, ↓dVar12, ↓dAug12, ↓dSet12, ↓dTgN12, ↓dTgW12, ↓dVar13, ↓dAug13, ↓dSet13, ↓dTgN13, ↓dTgW13, ↓dVar14, ↓dAug14, ↓dSet14, ↓dTgN14, ↓dTgW14, ↓dVar15, ↓dAug15, ↓dSet15, ↓dTgN15, ↓dTgW15, ↓dVar16, ↓dAug16, ↓dSet16, ↓dTgN16, ↓dTgW16, ↓dVar17, ↓dAug17, ↓dSet17, ↓dTgN17, ↓dTgW17, ↓dVar18, ↓dAug18, ↓dSet18, ↓dTgN18, ↓dTgW18, ↓dVar19, ↓dAug19, ↓dSet19, ↓dTgN19, ↓dTgW19, ↓dTg_t2, ↓dTg_t3, ↓exGetM, ↓exSumU, nD, plD, rwD, ↓dAdd_tup, ↓dAdd_ref, dIx_tup, dIx_str, dIx_ref, dIx_kl, dListOf_tup, dListOf_kl, dListOf_ref, dLen_tup, dLen_str, dLen_kl, dLen_ref, dTupOf_tup, dTupOf_ref, dSeqI_x, sqX_tup, sqX_ref, sqX_str, dEnumI_x, enX_tup, enX_ref, dRevA, dRevD, dSIndex, dLtS, dUpper, dListS, dDisp1, dRevT, dInS, dSortA, dIsi2, isT2, Bool.or_true, Bool.true_or, Bool.or_false, Bool.or_self, dCallX, dRaise, dTryO, dTryA, dRaise1, dExF, dCls, dIsX, ↓exOne, WD0, ↓X0_, ↓X1_, ↓X2_, ↓X3_]
        refine ⟨fun _ => ⟨f, T, rfl, hp4, hfT, by omega, hF, fun z M' s' hb => ⟨hb, f, T, rfl, hp4.sub s', s'.1 _ _ hfT, by omega, hF, sb0 (hP _ _ ⟨(s'.trans sT2).trans s2, _, _, _, _, _, _, rfl⟩)⟩⟩, fun _ => ⟨f, T, rfl, hp4, hfT, by omega, hF, sb0 (hP _ _ ⟨sT2.trans s2, _, _, _, _, _, _, rfl⟩)⟩⟩
    · rintro δ' M1 ⟨s1, a, b, c, d, e, g, rfl⟩
      rw [h1]
      simp (config := {failIfUnchanged := false}) only [dC, dOp, dTest, dChain, dAnd, dOr, dNot, dAndV, dOrV, dNotV, dIf, dNil, dCons, dTup, dLst, dCB, d1, dNoPart, dPart, dSl, dCut, dNeg, dSorted, dSum, dAll, dAny, dInt, dAbs, dMax, dMin, dIsi, isT, dNext, dSeq, dBrk, dCont, dNever, dExpr, dRet, dRetN, dIfS, dAsg, dPutI, dI0, dI, dIsN, dNotN, dRng1, dRng2, dRngDn, dZipI, dYes, dCall, dLM, dAppend, dExtend, dReverse, dInsert, dAugI, dRg1, dRg2, dTupRg, dLstRg, dNewK, dNewT, ↓S0_, ↓S1_, ↓S2_, ↓S3_, ↓S4_, ↓S5_, ↓S6_, List.map_cons, List.map_nil, List.length_cons, List.length_nil, List.replicate, List.cons_append, List.nil_append, Nat.reduceAdd, Nat.reduceSub, Nat.zero_add, List.getElem?_cons_zero, List.getElem?_cons_succ, Option.some.injEq, exists_eq_left, exists_eq_left', List.set_cons_zero, List.set_cons_succ, wipeD, D.int.injEq, D.bl.injEq, D.str.injEq, D.ref.injEq, D.tup.injEq, D.ty.injEq, true_and, and_true, forall_const, forall_eq', forall_eq, mt_int, mt_bool, mt_str, mt_tuple, mt_list, mt_dict, st_int_int, st_int_bool, st_int_str, st_int_tuple, st_int_list, st_int_dict, st_bool_int, st_bool_bool, st_bool_str, st_bool_tuple, st_bool_list, st_bool_dict, st_str_int, st_str_bool, st_str_str, st_str_tuple, st_str_list, st_str_dict, st_tuple_int, st_tuple_bool, st_tuple_str, st_tuple_tuple, st_tuple_list, st_tuple_dict, st_list_int, st_list_bool, st_list_str, st_list_tuple, st_list_list, st_list_dict, st_dict_int, st_dict_bool, st_dict_str, st_dict_tuple, st_dict_list, st_dict_dict, eq_self, Bool.true_eq_false, Bool.false_eq_true, false_implies, true_implies, implies_true, decide_eq_true_eq, decide_eq_false_iff_not, Bool.not_true, Bool.not_false, Bool.not_eq_true, Bool.not_eq_false, Bool.not_eq_true', Bool.not_eq_false', not_true_eq_false, not_false_eq_true, false_and, and_false, or_false, false_or, reduceCtorEq, ↓exLSu, ↓exDKu, ↓exDKd, ↓exLSd, ↓exLu, ↓dIxRu, ↓dPutu, ↓dGetAu, ↓dEq_int, ↓dNe_int, ↓dEq_bl, ↓dNe_bl, ↓dEq_str, ↓dNe_str, ↓dAdd_int, ↓exAt10, ↓exIx10, ↓exAt20, ↓exIx20, ↓exAt21, ↓exIx21, ↓exAt30, ↓exIx30, ↓exAt31, ↓exIx31, ↓exAt32, ↓exIx32, ↓exAt40, ↓exIx40, ↓exAt41, ↓exIx41, ↓exAt42, ↓exIx42, ↓exAt43, ↓exIx43, ↓exAt50, ↓exIx50, ↓exAt51, ↓exIx51, ↓exAt52, ↓exIx52, ↓exAt53, ↓exIx53, ↓exAt54, ↓exIx54, ↓exAt60, ↓exIx60, ↓exAt61, ↓exIx61, ↓exAt62, ↓exIx62, ↓exAt63, ↓exIx63, ↓exAt64, ↓exIx64, ↓exAt65, ↓exIx65, up_up, false_or, or_false, ↓exAtM, ↓dFlag_bl, ↓exBl, ↓exInt, ↓exRef, ↓dVar0, ↓dAug0, ↓dSet0, ↓dTgN0, ↓dTgW0, ↓dVar1, ↓dAug1, ↓dSet1, ↓dTgN1, ↓dTgW1, ↓dVar2, ↓dAug2, ↓dSet2, ↓dTgN2, ↓dTgW2, ↓dVar3, ↓dAug3, ↓dSet3, ↓dTgN3, ↓dTgW3, ↓dVar4, ↓dAug4, ↓dSet4, ↓dTgN4, ↓dTgW4, ↓dVar5, ↓dAug5, ↓dSet5, ↓dTgN5, ↓dTgW5, ↓dVar6, ↓dAug6, ↓dSet6, ↓dTgN6, ↓dTgW6, ↓dVar7, ↓dAug7, ↓dSet7, ↓dTgN7, ↓dTgW7, ↓dVar8, ↓dAug8, ↓dSet8, ↓dTgN8, ↓dTgW8, ↓dVar9, ↓dAug9, ↓dSet9, ↓dTgN9, ↓dTgW9, ↓dVar10, ↓dAug10, ↓dSet10, ↓dTgN10, ↓dTgW10, ↓dVar11, ↓dAug11, ↓dSet11, ↓dTgN11, ↓dTgW11, ↓dVar12, ↓dAug12, ↓dSet12, ↓dTgN12, ↓dTgW12, ↓dVar13, ↓dAug13, ↓dSet13, ↓dTgN13, ↓dTgW13, ↓dVar14, ↓dAug14, ↓dSet14, ↓dTgN14, ↓dTgW14, ↓dVar15, ↓dAug15, ↓dSet15, ↓dTgN15, ↓dTgW15, ↓dVar16, ↓dAug16, ↓dSet16, ↓dTgN16, ↓dTgW16, ↓dVar17, ↓dAug17, ↓dSet17, ↓dTgN17, ↓dTgW17, ↓dVar18, ↓dAug18, ↓dSet18, ↓dTgN18, ↓dTgW18, ↓dVar19, ↓dAug19, ↓dSet19, ↓dTgN19, ↓dTgW19, ↓dTg_t2, ↓dTg_t3, ↓exGetM, ↓exSumU, nD, plD, rwD, ↓dAdd_tup, ↓dAdd_ref, dIx_tup, dIx_str, dIx_ref, dIx_kl, dListOf_tup, dListOf_kl, dListOf_ref, dLen_tup, dLen_str, dLen_kl, dLen_ref, dTupOf_tup, dTupOf_ref, dSeqI_x, sqX_tup, sqX_ref, sqX_str, dEnumI_x, enX_tup, enX_ref, dRevA, dRevD, dSIndex, dLtS, dUpper, dListS, dDisp1, dRevT, dInS, dSortA, dIsi2, isT2, Bool.or_true, Bool.true_or, Bool.or_false, Bool.or_self, dCallX, dRaise, dTryO, dTryA, dRaise1, dExF, dCls, dIsX, ↓exOne, WD0, ↓X0_, ↓X1_, ↓X2_, ↓X3_]
      exact s1.dn (h _)
  rcases hs with ⟨p0, rfl, hp0, _⟩ | ⟨p0, rfl, _⟩
  · simp (config := {failIfUnchanged := false}) only [dC, dOp, dTest, dChain, dAnd, dOr, dNot, dAndV, dOrV, dNotV, dIf, dNil, dCons, dTup, dLst, dCB, d1, dNoPart, dPart, dSl, dCut, dNeg, dSorted, dSum, dAll, dAny, dInt, dAbs, dMax, dMin, dIsi, isT, dNext, dSeq, dBrk, dCont, dNever, dExpr, dRet, dRetN, dIfS, dAsg, dPutI, dI0, dI, dIsN, dNotN, dRng1, dRng2, dRngDn, dZipI, dYes, dCall, dLM, dAppend, dExtend, dReverse, dInsert, dAugI, dRg1, dRg2, dTupRg, dLstRg, dNewK, dNewT, ↓S0_, ↓S1_, ↓S2_, ↓S3_, ↓S4_, ↓S5_, ↓S6_, List.map_cons, List.map_nil, List.length_cons, List.length_nil, List.replicate, List.cons_append, List.nil_append, Nat.reduceAdd, Nat.reduceSub, Nat.zero_add, List.getElem?_cons_zero, List.getElem?_cons_succ, Option.some.injEq, exists_eq_left, exists_eq_left', List.set_cons_zero, List.set_cons_succ, wipeD, D.int.injEq, D.bl.injEq, D.str.injEq, D.ref.injEq, D.tup.injEq, D.ty.injEq, true_and, and_true, forall_const, forall_eq', forall_eq, mt_int, mt_bool, mt_str, mt_tuple, mt_list, mt_dict, st_int_int, st_int_bool, st_int_str, st_int_tuple, st_int_list, st_int_dict, st_bool_int, st_bool_bool, st_bool_str, st_bool_tuple, st_bool_list, st_bool_dict, st_str_int, st_str_bool, st_str_str, st_str_tuple, st_str_list, st_str_dict, st_tuple_int, st_tuple_bool, st_tuple_str, st_tuple_tuple, st_tuple_list, st_tuple_dict, st_list_int, st_list_bool, st_list_str, st_list_tuple, st_list_list, st_list_dict, st_dict_int, st_dict_bool, st_dict_str, st_dict_tuple, st_dict_list, st_dict_dict, eq_self, Bool.true_eq_false, Bool.false_eq_true, false_implies, true_implies, implies_true, decide_eq_true_eq, decide_eq_false_iff_not, Bool.not_true, Bool.not_false, Bool.not_eq_true, Bool.not_eq_false, Bool.not_eq_true', Bool.not_eq_false', not_true_eq_false, not_false_eq_true, false_and, and_false, or_false, false_or, reduceCtorEq, ↓exLSu, ↓exDKu, ↓exDKd, ↓exLSd, ↓exLu, ↓dIxRu, ↓dPutu, ↓dGetAu, ↓dEq_int, ↓dNe_int, ↓dEq_bl, ↓dNe_bl, ↓dEq_str, ↓dNe_str, ↓dAdd_int, ↓exAt10, ↓exIx10, ↓exAt20, ↓exIx20, ↓exAt21, ↓exIx21, ↓exAt30, ↓exIx30, ↓exAt31, ↓exIx31, ↓exAt32, ↓exIx32, ↓exAt40, ↓exIx40, ↓exAt41, ↓exIx41, ↓exAt42, ↓exIx42, ↓exAt43, ↓exIx43, ↓exAt50, ↓exIx50, ↓exAt51, ↓exIx51, ↓exAt52, ↓exIx52, ↓exAt53, ↓exIx53, ↓exAt54, ↓exIx54, ↓exAt60, ↓exIx60, ↓exAt61, ↓exIx61, ↓exAt62, ↓exIx62, ↓exAt63, ↓exIx63, ↓exAt64, ↓exIx64, ↓exAt65, ↓exIx65, up_up, false_or, or_false, ↓exAtM, ↓dFlag_bl, ↓exBl, ↓exInt, ↓exRef, ↓dVar0, ↓dAug0, ↓dSet0, ↓dTgN0, ↓dTgW0, ↓dVar1, ↓dAug1, ↓dSet1, ↓dTgN1, ↓dTgW1, ↓dVar2, ↓dAug2, ↓dSet2, ↓dTgN2, ↓dTgW2, ↓dVar3, ↓dAug3, ↓dSet3, ↓dTgN3, ↓dTgW3, ↓dVar4, ↓dAug4, ↓dSet4, ↓dTgN4, ↓dTgW4, ↓dVar5, ↓dAug5, ↓dSet5, ↓dTgN5, ↓dTgW5, ↓dVar6, ↓dAug6, ↓dSet6, ↓dTgN6, ↓dTgW6, ↓dVar7, ↓dAug7, ↓dSet7, ↓dTgN7, ↓dTgW7, ↓dVar8, ↓dAug8, ↓dSet8, ↓dTgN8, ↓dTgW8, ↓dVar9, ↓dAug9, ↓dSet9, ↓dTgN9, ↓dTgW9, ↓dVar10, ↓dAug10, ↓dSet10, ↓dTgN10, ↓dTgW10, ↓dVar11, ↓dAug11, ↓dSet11, ↓dTgN11, ↓dTgW11, ↓dVar12, ↓dAug12, ↓dSet12, ↓dTgN12, ↓dTgW12, ↓dVar13, ↓dAug13, ↓dSet13, ↓dTgN13, ↓dTgW13, ↓dVar14, ↓dAug14, ↓dSet14, ↓dTgN14, ↓dTgW14, ↓dVar15, ↓dAug15, ↓dSet15, ↓dTgN15, ↓dTgW15, ↓dVar16, ↓dAug16, ↓dSet16, ↓dTgN16, ↓dTgW16, ↓dVar17, ↓dAug17, ↓dSet17, ↓dTgN17, ↓dTgW17, ↓dVar18, ↓dAug18, ↓dSet18, ↓dTgN18, ↓dTgW18, ↓dVar19, ↓dAug19, ↓dSet19, ↓dTgN19, ↓dTgW19, ↓dTg_t2, ↓dTg_t3, ↓exGetM, ↓exSumU, nD, plD, rwD, ↓dAdd_tup, ↓dAdd_ref, dIx_tup, dIx_str, dIx_ref, dIx_kl, dListOf_tup, dListOf_kl, dListOf_ref, dLen_tup, dLen_str, dLen_kl, dLen_ref, dTupOf_tup, dTupOf_ref, dSeqI_x, sqX_tup, sqX_ref, sqX_str, dEnumI_x, enX_tup, enX_ref, dRevA, dRevD, dSIndex, dLtS, dUpper, dListS, dDisp1, dRevT, dInS, dSortA, dIsi2, isT2, Bool.or_true, Bool.true_or, Bool.or_false, Bool.or_self, dCallX, dRaise, dTryO, dTryA, dRaise1, dExF, dCls, dIsX, ↓exOne, WD0, ↓X0_, ↓X1_, ↓X2_, ↓X3_, ↓exLSz hp0]
    exact .inl ⟨by omega, loop _ (by omega) (by omega)⟩
  · simp (config := {failIfUnchanged := false}) only [dC, dOp, dTest, dChain, dAnd, dOr, dNot, dAndV, dOrV, dNotV, dIf, dNil, dCons, dTup, dLst, dCB, d1, dNoPart, dPart, dSl, dCut, dNeg, dSorted, dSum, dAll, dAny, dInt, dAbs, dMax, dMin, dIsi, isT, dNext, dSeq, dBrk, dCont, dNever, dExpr, dRet, dRetN, dIfS, dAsg, dPutI, dI0, dI, dIsN, dNotN, dRng1, dRng2, dRngDn, dZipI, dYes, dCall, dLM, dAppend, dExtend, dReverse, dInsert, dAugI, dRg1, dRg2, dTupRg, dLstRg, dNewK, dNewT, ↓S0_, ↓S1_, ↓S2_, ↓S3_, ↓S4_, ↓S5_, ↓S6_, List.map_cons, List.map_nil, List.length_cons, List.length_nil, List.replicate, List.cons_append, List.nil_append, Nat.reduceAdd, Nat.reduceSub, Nat.zero_add, List.getElem?_cons_zero, List.getElem?_cons_succ, Option.some.injEq, exists_eq_left, exists_eq_left', List.set_cons_zero, List.set_cons_succ, wipeD, D.int.injEq, D.bl.injEq, D.str.injEq, D.ref.injEq, D.tup.injEq, D.ty.injEq, true_and, and_true, forall_const, forall_eq', forall_eq, mt_int, mt_bool, mt_str, mt_tuple, mt_list, mt_dict, st_int_int, st_int_bool, st_int_str, st_int_tuple, st_int_list, st_int_dict, st_bool_int, st_bool_bool, st_bool_str, st_bool_tuple, st_bool_list, st_bool_dict, st_str_int, st_str_bool, st_str_str, st_str_tuple, st_str_list, st_str_dict, st_tuple_int, st_tuple_bool, st_tuple_str, st_tuple_tuple, st_tuple_list, st_tuple_dict, st_list_int, st_list_bool, st_list_str, st_list_tuple, st_list_list, st_list_dict, st_dict_int, st_dict_bool, st_dict_str, st_dict_tuple, st_dict_list, st_dict_dict, eq_self, Bool.true_eq_false, Bool.false_eq_true, false_implies, true_implies, implies_true, decide_eq_true_eq, decide_eq_false_iff_not, Bool.not_true, Bool.not_false, Bool.not_eq_true, Bool.not_eq_false, Bool.not_eq_true', Bool.not_eq_false', not_true_eq_false, not_false_eq_true, false_and, and_false, or_false, false_or, reduceCtorEq, ↓exLSu, ↓exDKu, ↓exDKd, ↓exLSd, ↓exLu, ↓dIxRu, ↓dPutu, ↓dGetAu, ↓dEq_int, ↓dNe_int, ↓dEq_bl, ↓dNe_bl, ↓dEq_str, ↓dNe_str, ↓dAdd_int, ↓exAt10, ↓exIx10, ↓exAt20, ↓exIx20, ↓exAt21, ↓exIx21, ↓exAt30, ↓exIx30, ↓exAt31, ↓exIx31, ↓exAt32, ↓exIx32, ↓exAt40, ↓exIx40, ↓exAt41, ↓exIx41, ↓exAt42, ↓exIx42, ↓exAt43, ↓exIx43, ↓exAt50, ↓exIx50, ↓exAt51, ↓exIx51, ↓exAt52, ↓exIx52, ↓exAt53, ↓exIx53, ↓exAt54, ↓exIx54, ↓exAt60, ↓exIx60, ↓exAt61, ↓exIx61, ↓exAt62, ↓exIx62, ↓exAt63, ↓exIx63, ↓exAt64, ↓exIx64, ↓exAt65, ↓exIx65, up_up, false_or, or_false, ↓exAtM, ↓dFlag_bl, ↓exBl, ↓exInt, ↓exRef, ↓dVar0, ↓dAug0, ↓dSet0, ↓dTgN0, ↓dTgW0, ↓dVar1, ↓dAug1, ↓dSet1, ↓dTgN1, ↓dTgW1, ↓dVar2, ↓dAug2, ↓dSet2, ↓dTgN2, ↓dTgW2, ↓dVar3, ↓dAug3, ↓dSet3, ↓dTgN3, ↓dTgW3, ↓dVar4, ↓dAug4, ↓dSet4, ↓dTgN4, ↓dTgW4, ↓dVar5, ↓dAug5, ↓dSet5, ↓dTgN5, ↓dTgW5, ↓dVar6, ↓dAug6, ↓dSet6, ↓dTgN6, ↓dTgW6, ↓dVar7, ↓dAug7, ↓dSet7, ↓dTgN7, ↓dTgW7, ↓dVar8, ↓dAug8, ↓dSet8, ↓dTgN8, ↓dTgW8, ↓dVar9, ↓dAug9, ↓dSet9, ↓dTgN9, ↓dTgW9, ↓dVar10, ↓dAug10, ↓dSet10, ↓dTgN10, ↓dTgW10, ↓dVar11, ↓dAug11, ↓dSet11, ↓dTgN11, ↓dTgW11, ↓dVar12, ↓dAug12, ↓dSet12, ↓dTgN12, ↓dTgW12, ↓dVar13, ↓dAug13, ↓dSet13, ↓dTgN13, ↓dTgW13, ↓dVar14, ↓dAug14, ↓dSet14, ↓dTgN14, ↓dTgW14, ↓dVar15, ↓dAug15, ↓dSet15, ↓dTgN15, ↓dTgW15, ↓dVar16, ↓dAug16, ↓dSet16, ↓dTgN16, ↓dTgW16, ↓dVar17, ↓dAug17, ↓dSet17, ↓dTgN17, ↓dTgW17, ↓dVar18, ↓dAug18, ↓dSet18, ↓dTgN18, ↓dTgW18, ↓dVar19, ↓dAug19, ↓dSet19, ↓dTgN19, ↓dTgW19, ↓dTg_t2, ↓dTg_t3, ↓exGetM, ↓exSumU, nD, plD, rwD, ↓dAdd_tup, ↓dAdd_ref, dIx_tup, dIx_str, dIx_ref, dIx_kl, dListOf_tup, dListOf_kl, dListOf_ref, dLen_tup, dLen_str, dLen_kl, dLen_ref, dTupOf_tup, dTupOf_ref, dSeqI_x, sqX_tup, sqX_ref, sqX_str, dEnumI_x, enX_tup, enX_ref, dRevA, dRevD, dSIndex, dLtS, dUpper, dListS, dDisp1, dRevT, dInS, dSortA, dIsi2, isT2, Bool.or_true, Bool.true_or, Bool.or_false, Bool.or_self, dCallX, dRaise, dTryO, dTryA, dRaise1, dExF, dCls, dIsX, ↓exOne, WD0, ↓X0_, ↓X1_, ↓X2_, ↓X3_]
    exact ⟨by omega, loop _ (by omega) (by omega)⟩
end
theorem gv_mk {K : PySem.W.Frag} {h : Heap} {mg : Str → Option Value} {f0 : Addr} {oc0 kV0 dc0 pm0 cd0 ct0 : Value} {od0 an0 : Option Addr} {sl0 : Array (Option Value)}
    {f1 : Addr} {oc1 kV1 dc1 pm1 cd1 ct1 : Value} {od1 an1 : Option Addr} {sl1 : Array (Option Value)}
    {f2 : Addr} {oc2 kV2 dc2 pm2 cd2 ct2 : Value} {od2 an2 : Option Addr} {sl2 : Array (Option Value)}
    {f3 : Addr} {oc3 kV3 dc3 pm3 cd3 ct3 : Value} {od3 an3 : Option Addr} {sl3 : Array (Option Value)}
    {f4 : Addr} {oc4 kV4 dc4 pm4 cd4 ct4 : Value} {od4 an4 : Option Addr} {sl4 : Array (Option Value)}
    {f5 : Addr} {oc5 kV5 dc5 pm5 cd5 ct5 : Value} {od5 an5 : Option Addr} {sl5 : Array (Option Value)}
    {f6 : Addr} {oc6 kV6 dc6 pm6 cd6 ct6 : Value} {od6 an6 : Option Addr} {sl6 : Array (Option Value)}
    {f7 : Addr} {oc7 kV7 dc7 pm7 cd7 ct7 : Value} {od7 an7 : Option Addr} {sl7 : Array (Option Value)}
    {f8 : Addr} {oc8 kV8 dc8 pm8 cd8 ct8 : Value} {od8 an8 : Option Addr} {sl8 : Array (Option Value)}
    {f9 : Addr} {oc9 kV9 dc9 pm9 cd9 ct9 : Value} {od9 an9 : Option Addr} {sl9 : Array (Option Value)}
    {f10 : Addr} {oc10 kV10 dc10 pm10 cd10 ct10 : Value} {od10 an10 : Option Addr} {sl10 : Array (Option Value)}
    {f11 : Addr} {oc11 kV11 dc11 pm11 cd11 ct11 : Value} {od11 an11 : Option Addr} {sl11 : Array (Option Value)}
    {f12 : Addr} {oc12 kV12 dc12 pm12 cd12 ct12 : Value} {od12 an12 : Option Addr} {sl12 : Array (Option Value)}
    {u0 : Addr}
    {u1 : Addr}
    {u2 : Addr}
    {v0 : Tok} (X : K.In h) (G : h.Ns mainGlobals mg)
    (a0 : PySem.W.nsIn K mainGlobals "is_listed" = some (some (.ref f0))) (l0 : K.lookup f0 = some ⟨oc0, od0, .func (PySem.W.fnOf "is_listed" "is_listed" (defArgs st_is_listed) (defBody st_is_listed) (defScope st_is_listed) .none kV0 dc0 pm0 an0 cd0 ct0), sl0⟩) (e0 : PySem.W.codeIn K cd0 "is_listed" = true) (k0 : PySem.W.keepIn K (.ref f0) = true)
    (a1 : PySem.W.nsIn K mainGlobals "is_falling" = some (some (.ref f1))) (l1 : K.lookup f1 = some ⟨oc1, od1, .func (PySem.W.fnOf "is_falling" "is_falling" (defArgs st_is_falling) (defBody st_is_falling) (defScope st_is_falling) .none kV1 dc1 pm1 an1 cd1 ct1), sl1⟩) (e1 : PySem.W.codeIn K cd1 "is_falling" = true) (k1 : PySem.W.keepIn K (.ref f1) = true)
    (a2 : PySem.W.nsIn K mainGlobals "lacking" = some (some (.ref f2))) (l2 : K.lookup f2 = some ⟨oc2, od2, .func (PySem.W.fnOf "lacking" "lacking" (defArgs st_lacking) (defBody st_lacking) (defScope st_lacking) .none kV2 dc2 pm2 an2 cd2 ct2), sl2⟩) (e2 : PySem.W.codeIn K cd2 "lacking" = true) (k2 : PySem.W.keepIn K (.ref f2) = true)
    (a3 : PySem.W.nsIn K mainGlobals "_law_state" = some (some (.ref f3))) (l3 : K.lookup f3 = some ⟨oc3, od3, .func (PySem.W.fnOf "_law_state" "_law_state" (defArgs st__law_state) (defBody st__law_state) (defScope st__law_state) .none kV3 dc3 pm3 an3 cd3 ct3), sl3⟩) (e3 : PySem.W.codeIn K cd3 "_law_state" = true) (k3 : PySem.W.keepIn K (.ref f3) = true)
    (a4 : PySem.W.nsIn K mainGlobals "_law_draw" = some (some (.ref f4))) (l4 : K.lookup f4 = some ⟨oc4, od4, .func (PySem.W.fnOf "_law_draw" "_law_draw" (defArgs st__law_draw) (defBody st__law_draw) (defScope st__law_draw) .none kV4 dc4 pm4 an4 cd4 ct4), sl4⟩) (e4 : PySem.W.codeIn K cd4 "_law_draw" = true) (k4 : PySem.W.keepIn K (.ref f4) = true)
    (a5 : PySem.W.nsIn K mainGlobals "_law_alike" = some (some (.ref f5))) (l5 : K.lookup f5 = some ⟨oc5, od5, .func (PySem.W.fnOf "_law_alike" "_law_alike" (defArgs st__law_alike) (defBody st__law_alike) (defScope st__law_alike) .none kV5 dc5 pm5 an5 cd5 ct5), sl5⟩) (e5 : PySem.W.codeIn K cd5 "_law_alike" = true) (k5 : PySem.W.keepIn K (.ref f5) = true)
    (a6 : PySem.W.nsIn K mainGlobals "_law_falling" = some (some (.ref f6))) (l6 : K.lookup f6 = some ⟨oc6, od6, .func (PySem.W.fnOf "_law_falling" "_law_falling" (defArgs st__law_falling) (defBody st__law_falling) (defScope st__law_falling) .none kV6 dc6 pm6 an6 cd6 ct6), sl6⟩) (e6 : PySem.W.codeIn K cd6 "_law_falling" = true) (k6 : PySem.W.keepIn K (.ref f6) = true)
    (a7 : PySem.W.nsIn K mainGlobals "_law_next" = some (some (.ref f7))) (l7 : K.lookup f7 = some ⟨oc7, od7, .func (PySem.W.fnOf "_law_next" "_law_next" (defArgs st__law_next) (defBody st__law_next) (defScope st__law_next) .none kV7 dc7 pm7 an7 cd7 ct7), sl7⟩) (e7 : PySem.W.codeIn K cd7 "_law_next" = true) (k7 : PySem.W.keepIn K (.ref f7) = true)
    (a8 : PySem.W.nsIn K mainGlobals "_law_beginnings" = some (some (.ref f8))) (l8 : K.lookup f8 = some ⟨oc8, od8, .func (PySem.W.fnOf "_law_beginnings" "_law_beginnings" (defArgs st__law_beginnings) (defBody st__law_beginnings) (defScope st__law_beginnings) .none kV8 dc8 pm8 an8 cd8 ct8), sl8⟩) (e8 : PySem.W.codeIn K cd8 "_law_beginnings" = true) (k8 : PySem.W.keepIn K (.ref f8) = true)
    (a9 : PySem.W.nsIn K mainGlobals "_law_refused" = some (some (.ref f9))) (l9 : K.lookup f9 = some ⟨oc9, od9, .func (PySem.W.fnOf "_law_refused" "_law_refused" (defArgs st__law_refused) (defBody st__law_refused) (defScope st__law_refused) .none kV9 dc9 pm9 an9 cd9 ct9), sl9⟩) (e9 : PySem.W.codeIn K cd9 "_law_refused" = true) (k9 : PySem.W.keepIn K (.ref f9) = true)
    (a10 : PySem.W.nsIn K mainGlobals "_law_spoiled" = some (some (.ref f10))) (l10 : K.lookup f10 = some ⟨oc10, od10, .func (PySem.W.fnOf "_law_spoiled" "_law_spoiled" (defArgs st__law_spoiled) (defBody st__law_spoiled) (defScope st__law_spoiled) .none kV10 dc10 pm10 an10 cd10 ct10), sl10⟩) (e10 : PySem.W.codeIn K cd10 "_law_spoiled" = true) (k10 : PySem.W.keepIn K (.ref f10) = true)
    (a11 : PySem.W.nsIn K mainGlobals "_law_asked" = some (some (.ref f11))) (l11 : K.lookup f11 = some ⟨oc11, od11, .func (PySem.W.fnOf "_law_asked" "_law_asked" (defArgs st__law_asked) (defBody st__law_asked) (defScope st__law_asked) .none kV11 dc11 pm11 an11 cd11 ct11), sl11⟩) (e11 : PySem.W.codeIn K cd11 "_law_asked" = true) (k11 : PySem.W.keepIn K (.ref f11) = true)
    (a12 : PySem.W.nsIn K mainGlobals "law" = some (some (.ref f12))) (l12 : K.lookup f12 = some ⟨oc12, od12, .func (PySem.W.fnOf "law" "law" (defArgs st_law) (defBody st_law) (defScope st_law) .none kV12 dc12 pm12 an12 cd12 ct12), sl12⟩) (e12 : PySem.W.codeIn K cd12 "law" = true) (k12 : PySem.W.keepIn K (.ref f12) = true)
    (z0 : PySem.W.nsIn K mainGlobals "all" = some none)
    (z1 : PySem.W.nsIn K mainGlobals "bool" = some none)
    (z2 : PySem.W.nsIn K mainGlobals "int" = some none)
    (z3 : PySem.W.nsIn K mainGlobals "isinstance" = some none)
    (z4 : PySem.W.nsIn K mainGlobals "len" = some none)
    (z5 : PySem.W.nsIn K mainGlobals "list" = some none)
    (z6 : PySem.W.nsIn K mainGlobals "max" = some none)
    (z7 : PySem.W.nsIn K mainGlobals "min" = some none)
    (z8 : PySem.W.nsIn K mainGlobals "range" = some none)
    (z9 : PySem.W.nsIn K mainGlobals "sorted" = some none)
    (z10 : PySem.W.nsIn K mainGlobals "str" = some none)
    (z11 : PySem.W.nsIn K mainGlobals "tuple" = some none)
    (z12 : PySem.W.nsIn K mainGlobals "ValueError" = some none)
    (xa0 : PySem.W.nsIn K mainGlobals "BetweenError" = some (some (.ref u0))) (xk0 : PySem.W.keepIn K (.ref u0) = true) (xe0 : PySem.W.excIn K u0 [.type "ValueError", .type "Exception", .type "BaseException", .type "object"] "ValueError.__new__" = true) (xs0 : PySem.W.subIn K (.ref u0) (.type "BaseException") = some true) (xt0 : PySem.W.typeIn K (.ref u0) = some (.type "type"))
    (xa1 : PySem.W.nsIn K mainGlobals "NoHeap" = some (some (.ref u1))) (xk1 : PySem.W.keepIn K (.ref u1) = true) (xe1 : PySem.W.excIn K u1 [.type "ValueError", .type "Exception", .type "BaseException", .type "object"] "ValueError.__new__" = true) (xs1 : PySem.W.subIn K (.ref u1) (.type "BaseException") = some true) (xt1 : PySem.W.typeIn K (.ref u1) = some (.type "type"))
    (xa2 : PySem.W.nsIn K mainGlobals "NoPlan" = some (some (.ref u2))) (xk2 : PySem.W.keepIn K (.ref u2) = true) (xe2 : PySem.W.excIn K u2 [.type "ValueError", .type "Exception", .type "BaseException", .type "object"] "ValueError.__new__" = true) (xs2 : PySem.W.subIn K (.ref u2) (.type "BaseException") = some true) (xt2 : PySem.W.typeIn K (.ref u2) = some (.type "type"))
    (xb0 : excCB K u1 = true) (xd0 : PySem.W.kitOne K (.ref u1) (.ref u1) = some true)
    (xb1 : excCB K u1 = true) (xd1 : PySem.W.kitOne K (.ref u1) (.ref u2) = some false)
    (xc0 : excCB K u1 = true) (xg0 : PySem.W.kitOne K (.ref u1) (.type "ValueError") = some true)
    (xh0 : PySem.W.hasDictIn K u0 = true) (xu0 : PySem.W.subIn K (.ref u1) (.ref u0) = some true)
    (xh1 : PySem.W.hasDictIn K u1 = true) (xu1 : PySem.W.subIn K (.ref u1) (.ref u1) = some true)
    (xh2 : PySem.W.hasDictIn K u2 = true) (xu2 : PySem.W.subIn K (.ref u1) (.ref u2) = some false)
    (w0 : PySem.W.nsIn K mainGlobals "LETTERS" = some (some (.str "zyxwvutsrqponmlkjihgfedcba" v0))) : Gv K mg :=
  ⟨df_mk X G a0 l0 e0 k0, df_mk X G a1 l1 e1 k1, df_mk X G a2 l2 e2 k2, df_mk X G a3 l3 e3 k3, df_mk X G a4 l4 e4 k4, df_mk X G a5 l5 e5 k5, df_mk X G a6 l6 e6 k6, df_mk X G a7 l7 e7 k7, df_mk X G a8 l8 e8 k8, df_mk X G a9 l9 e9 k9, df_mk X G a10 l10 e10 k10, df_mk X G a11 l11 e11 k11, df_mk X G a12 l12 e12 k12, gn_mk X G z0, gn_mk X G z1, gn_mk X G z2, gn_mk X G z3, gn_mk X G z4, gn_mk X G z5, gn_mk X G z6, gn_mk X G z7, gn_mk X G z8, gn_mk X G z9, gn_mk X G z10, gn_mk X G z11, gn_mk X G z12, xc_mk X G xa0 xk0 xe0 xs0 xt0, xc_mk X G xa1 xk1 xe1 xs1 xt1, xc_mk X G xa2 xk2 xe2 xs2 xt2, xi_mk X G xa1 xa1 xb0 xd0, xi_mk X G xa1 xa2 xb1 xd1, xt_mk X G xa1 xc0 xg0, xm_mk X G xa1 xa0 xs0 xh0 xt0 xu0, xm_mk X G xa1 xa1 xs1 xh1 xt1 xu1, xm_mk X G xa1 xa2 xs2 xh2 xt2 xu2, gs_mk X G w0 ⟨_, rfl⟩⟩
end Lw

open PySem PySem.W PyProof.Rows in
set_option maxRecDepth 100000 in
set_option maxHeartbeats 0 in
theorem PySem.Challenge.cw_putbetween_k31_whole_lacking_beginnings_holds : PySem.Challenge.rw_putbetween_k31_whole_lacking_beginnings.Holds := by
  w_on; o_law; k_head; (case hw => w_witness2)
  k_fill
  refine T3.walk3 (l := PySem.Challenge.rw_putbetween_k31_whole_lacking_beginnings) (k := 4) (x := "_law_script") rfl rfl ⟨rfl, by decide, by decide⟩ (fun w h Y => PySem.W.kIn_of Y) ?F
  case F =>
    intro w mg h KX G base
    refine Lw.pr_law ?_
    refine' Lw.gv_mk KX G ?a0 ?l0 ?e0 ?k0 ?a1 ?l1 ?e1 ?k1 ?a2 ?l2 ?e2 ?k2 ?a3 ?l3 ?e3 ?k3 ?a4 ?l4 ?e4 ?k4 ?a5 ?l5 ?e5 ?k5 ?a6 ?l6 ?e6 ?k6 ?a7 ?l7 ?e7 ?k7 ?a8 ?l8 ?e8 ?k8 ?a9 ?l9 ?e9 ?k9 ?a10 ?l10 ?e10 ?k10 ?a11 ?l11 ?e11 ?k11 ?a12 ?l12 ?e12 ?k12 ?z0 ?z1 ?z2 ?z3 ?z4 ?z5 ?z6 ?z7 ?z8 ?z9 ?z10 ?z11 ?z12 ?xa0 ?xk0 ?xe0 ?xs0 ?xt0 ?xa1 ?xk1 ?xe1 ?xs1 ?xt1 ?xa2 ?xk2 ?xe2 ?xs2 ?xt2 ?xb0 ?xd0 ?xb1 ?xd1 ?xc0 ?xg0 ?xh0 ?xu0 ?xh1 ?xu1 ?xh2 ?xu2 ?w0
    (case a0 => k_is)
    (case l0 => k_is)
    (case e0 => k_is)
    (case k0 => k_is)
    (case a1 => k_is)
    (case l1 => k_is)
    (case e1 => k_is)
    (case k1 => k_is)
    (case a2 => k_is)
    (case l2 => k_is)
    (case e2 => k_is)
    (case k2 => k_is)
    (case a3 => k_is)
    (case l3 => k_is)
    (case e3 => k_is)
    (case k3 => k_is)
    (case a4 => k_is)
    (case l4 => k_is)
    (case e4 => k_is)
    (case k4 => k_is)
    (case a5 => k_is)
    (case l5 => k_is)
    (case e5 => k_is)
    (case k5 => k_is)
    (case a6 => k_is)
    (case l6 => k_is)
    (case e6 => k_is)
    (case k6 => k_is)
    (case a7 => k_is)
    (case l7 => k_is)
    (case e7 => k_is)
    (case k7 => k_is)
    (case a8 => k_is)
    (case l8 => k_is)
    (case e8 => k_is)
    (case k8 => k_is)
    (case a9 => k_is)
    (case l9 => k_is)
    (case e9 => k_is)
    (case k9 => k_is)
    (case a10 => k_is)
    (case l10 => k_is)
    (case e10 => k_is)
    (case k10 => k_is)
    (case a11 => k_is)
    (case l11 => k_is)
    (case e11 => k_is)
    (case k11 => k_is)
    (case a12 => k_is)
    (case l12 => k_is)
    (case e12 => k_is)
    (case k12 => k_is)
    (case z0 => k_is)
    (case z1 => k_is)
    (case z2 => k_is)
    (case z3 => k_is)
    (case z4 => k_is)
    (case z5 => k_is)
    (case z6 => k_is)
    (case z7 => k_is)
    (case z8 => k_is)
    (case z9 => k_is)
    (case z10 => k_is)
    (case z11 => k_is)
    (case z12 => k_is)
    (case xa0 => k_is)
    (case xk0 => k_is)
    (case xe0 => k_exc)
    (case xs0 => k_is)
    (case xt0 => k_is)
    (case xa1 => k_is)
    (case xk1 => k_is)
    (case xe1 => k_exc)
    (case xs1 => k_is)
    (case xt1 => k_is)
    (case xa2 => k_is)
    (case xk2 => k_is)
    (case xe2 => k_exc)
    (case xs2 => k_is)
    (case xt2 => k_is)
    (case xb0 => kernel_rfl)
    (case xd0 => kernel_rfl)
    (case xb1 => kernel_rfl)
    (case xd1 => kernel_rfl)
    (case xc0 => kernel_rfl)
    (case xg0 => kernel_rfl)
    (case xh0 => k_is)
    (case xu0 => k_is)
    (case xh1 => k_is)
    (case xu1 => k_is)
    (case xh2 => k_is)
    (case xu2 => k_is)
    (case w0 => k_is)

