import PyProof.Rows.All
import Wide.All
import OpenK.AllK
import Wide.FinOn
import HandS.ForMost
import HandS.ForExc
import HandS.Conv
import HandS.IsInst
import HandS.TupAny
import HandS.SortInts
import HandS.DictComp
import HandS.Zip
import HandS.Style
import KE.KTupSum
import KE.GoesEnum
import HandS.Text
import HandS.List
import PyProof.StrOps2
import KE.DataFind
import HandS.Finally
import KE.KDictCopyH
import HandS.Comp
import PySem.Challenge.RW_putbetween_k74_whole_gaps_round_by_round
set_option Elab.async false
set_option linter.all false
set_option maxRecDepth 100000
set_option maxHeartbeats 4000000
/-! The layer over the layer: tuples by value, what is not named stands. -/
namespace T3
open PySem PySem.Spec PyProof.Rows L2
/-! ### data -/
inductive D where
  | non | bl (b : Bool) | int (i : Int) | str (x : Str) | ref (a : Addr) | ty (n : String) | tup (xs : List D) | kl (a : Addr) (ns : List Int) | bt (xs : List D)
mutual
def R (K : PySem.W.Frag) (H : Hp) : D → V → Prop
  | .non, v => v = .non
  | .bl b, v => v = .bl b
  | .int i, v => v = .int i
  | .str x, v => v = .str x
  | .ref a, v => v = .ref a
  | .ty n, v => v = .ty n
  | .kl a ns, v => v = .ref a ∧ ∀ H2, SqL K H2 a (ns.map V.int)
  | .tup ds, v => ∃ a vs, v = .ref a ∧ H a = some (.tup vs) ∧ Rs K H ds vs
  | .bt ds, v => ∃ a ob vs, v = .ref a ∧ H a = some (.frz ob (.tup vs)) ∧ ob.dict = none ∧ Rs K H ds vs
def Rs (K : PySem.W.Frag) (H : Hp) : List D → List V → Prop
  | [], vs => vs = []
  | d :: ds, vs => ∃ v us, vs = v :: us ∧ R K H d v ∧ Rs K H ds us
end
/-- every tuple stands -/
structure Tx (K : PySem.W.Frag) (H H' : Hp) : Prop where
  tu : ∀ a xs, H a = some (.tup xs) → H' a = some (.tup xs)
  fr : ∀ a ob xs, H a = some (.frz ob (.tup xs)) → H' a = some (.frz ob (.tup xs))
instance {K : PySem.W.Frag} {H H' : Hp} : CoeFun (Tx K H H') fun _ => ∀ a xs, H a = some (.tup xs) → H' a = some (.tup xs) := ⟨Tx.tu⟩
section
variable {K : PySem.W.Frag} {H H' H2 : Hp}
theorem Tx.refl : Tx K H H := ⟨fun _ _ h => h, fun _ _ _ h => h⟩
theorem Tx.trans (a : Tx K H H') (b : Tx K H' H2) : Tx K H H2 := ⟨fun x xs h => b.tu x xs (a.tu x xs h), fun x o xs h => b.fr x o xs (a.fr x o xs h)⟩
mutual
theorem R.mono (t : Tx K H H') : ∀ {d : D} {v : V}, R K H d v → R K H' d v
  | .non, _, h => by unfold R at h ⊢; exact h
  | .bl _, _, h => by unfold R at h ⊢; exact h
  | .int _, _, h => by unfold R at h ⊢; exact h
  | .str _, _, h => by unfold R at h ⊢; exact h
  | .ref _, _, h => by unfold R at h ⊢; exact h
  | .ty _, _, h => by unfold R at h ⊢; exact h
  | .kl _ _, _, h => by unfold R at h ⊢; exact h
  | .tup ds, v, h => by
    unfold R at h ⊢
    obtain ⟨a, vs, e, s, r⟩ := h
    exact ⟨a, vs, e, t _ _ s, Rs.mono t r⟩
  | .bt ds, v, h => by
    unfold R at h ⊢
    obtain ⟨a, ob, vs, e, s, d, r⟩ := h
    exact ⟨a, ob, vs, e, t.fr _ _ _ s, d, Rs.mono t r⟩
theorem Rs.mono (t : Tx K H H') : ∀ {ds : List D} {vs : List V}, Rs K H ds vs → Rs K H' ds vs
  | [], _, h => h
  | d :: ds, vs, h => by
    unfold Rs at h ⊢
    obtain ⟨v, us, e, r, rs⟩ := h
    exact ⟨v, us, e, R.mono t r, Rs.mono t rs⟩
end
theorem R.tup {ds : List D} {a : Addr} {vs : List V} (h : H a = some (.tup vs)) (r : Rs K H ds vs) : R K H (.tup ds) (.ref a) := by
  unfold R
  exact ⟨a, vs, rfl, h, r⟩
theorem R.untup {ds : List D} {v : V} (h : R K H (.tup ds) v) : ∃ a vs, v = .ref a ∧ H a = some (.tup vs) ∧ Rs K H ds vs := by
  unfold R at h
  exact h
theorem R.unbt {ds : List D} {v : V} (h : R K H (.bt ds) v) : ∃ a ob vs, v = .ref a ∧ H a = some (.frz ob (.tup vs)) ∧ ob.dict = none ∧ Rs K H ds vs := by
  unfold R at h
  exact h
theorem R.unbt' {ds : List D} {v : V} (h : R K H (.bt ds) v) : ∃ a vs, v = .ref a ∧ SqT K H a vs ∧ Rs K H ds vs := by
  obtain ⟨a, ob, vs, e, s, _, r⟩ := h.unbt
  exact ⟨a, vs, e, .inl (.inr ⟨ob, s⟩), r⟩
theorem Rs.nil : Rs K H [] [] := by
  unfold Rs
  rfl
theorem Rs.cons {d : D} {v : V} {ds : List D} {vs : List V} (h : R K H d v) (t : Rs K H ds vs) : Rs K H (d :: ds) (v :: vs) := by
  unfold Rs
  exact ⟨v, vs, rfl, h, t⟩
theorem Rs.unil {vs : List V} (h : Rs K H [] vs) : vs = [] := by
  unfold Rs at h
  exact h
theorem Rs.ucons {d : D} {ds : List D} {vs : List V} (h : Rs K H (d :: ds) vs) : ∃ v us, vs = v :: us ∧ R K H d v ∧ Rs K H ds us := by
  unfold Rs at h
  exact h
theorem Rs.len : ∀ {ds : List D} {vs : List V}, Rs K H ds vs → vs.length = ds.length
  | [], _, h => by rw [h.unil]; rfl
  | d :: ds, vs, h => by
    obtain ⟨v, us, rfl, r, rs⟩ := h.ucons
    simp [Rs.len rs]
theorem Rs.get : ∀ {ds : List D} {vs : List V} {i : Nat} {d : D}, Rs K H ds vs → ds[i]? = some d → ∃ v, vs[i]? = some v ∧ R K H d v
  | [], _, _, _, _, e => by simp at e
  | d :: ds, vs, 0, x, h, e => by
    obtain ⟨v, us, rfl, r, rs⟩ := h.ucons
    simp at e; subst e
    exact ⟨v, rfl, r⟩
  | d :: ds, vs, i + 1, x, h, e => by
    obtain ⟨v, us, rfl, r, rs⟩ := h.ucons
    obtain ⟨w, e1, e2⟩ := Rs.get (i := i) rs (by simpa using e)
    exact ⟨w, by simpa using e1, e2⟩
theorem Rs.app : ∀ {ds es : List D} {vs us : List V}, Rs K H ds vs → Rs K H es us → Rs K H (ds ++ es) (vs ++ us)
  | [], _, _, _, h, k => by rw [h.unil]; exact k
  | d :: ds, es, vs, us, h, k => by
    obtain ⟨v, ws, rfl, r, rs⟩ := h.ucons
    exact .cons r (Rs.app rs k)
theorem Rs.one {d : D} {v : V} (h : R K H d v) : Rs K H [d] [v] := .cons h .nil
theorem Rs.set {d : D} {v : V} (r : R K H d v) : ∀ {ds : List D} {vs : List V} (i : Nat), Rs K H ds vs → Rs K H (ds.set i d) (vs.set i v)
  | [], _, i, h => by rw [h.unil]; exact .nil
  | e :: ds, vs, 0, h => by
    obtain ⟨w, us, rfl, _, rs⟩ := h.ucons
    exact .cons r rs
  | e :: ds, vs, i + 1, h => by
    obtain ⟨w, us, rfl, q, rs⟩ := h.ucons
    exact .cons q (Rs.set r i rs)
theorem Rs.take : ∀ {ds : List D} {vs : List V} (n : Nat), Rs K H ds vs → Rs K H (ds.take n) (vs.take n)
  | _, _, 0, _ => .nil
  | [], _, n + 1, h => by rw [h.unil]; exact .nil
  | d :: ds, vs, n + 1, h => by
    obtain ⟨v, us, rfl, r, rs⟩ := h.ucons
    exact .cons r (Rs.take n rs)
theorem Rs.drop : ∀ {ds : List D} {vs : List V} (n : Nat), Rs K H ds vs → Rs K H (ds.drop n) (vs.drop n)
  | _, _, 0, h => h
  | [], _, n + 1, h => by rw [h.unil]; exact .nil
  | d :: ds, vs, n + 1, h => by
    obtain ⟨v, us, rfl, r, rs⟩ := h.ucons
    exact Rs.drop n rs
theorem Rs.erase : ∀ {ds : List D} {vs : List V} (i : Nat), Rs K H ds vs → Rs K H (ds.eraseIdx i) (vs.eraseIdx i)
  | [], _, i, h => by rw [h.unil]; exact .nil
  | d :: ds, vs, 0, h => by
    obtain ⟨v, us, rfl, r, rs⟩ := h.ucons
    exact rs
  | d :: ds, vs, i + 1, h => by
    obtain ⟨v, us, rfl, r, rs⟩ := h.ucons
    exact .cons r (Rs.erase i rs)
theorem Rs.rev {ds : List D} {vs : List V} (h : Rs K H ds vs) : Rs K H ds.reverse vs.reverse := by
  induction ds generalizing vs with
  | nil => rw [h.unil]; exact .nil
  | cons d ds ih =>
    obtain ⟨v, us, rfl, r, rs⟩ := h.ucons
    rw [List.reverse_cons, List.reverse_cons]
    exact (ih rs).app (.one r)
theorem Rs.ints : ∀ {ns : List Int} {vs : List V}, Rs K H (ns.map D.int) vs → vs = ns.map V.int
  | [], _, h => h.unil
  | n :: ns, vs, h => by
    obtain ⟨v, us, rfl, r, rs⟩ := h.ucons
    unfold R at r
    rw [r, Rs.ints rs]
    rfl
theorem Rs.of_ints : ∀ ns : List Int, Rs K H (ns.map D.int) (ns.map V.int)
  | [] => .nil
  | n :: ns => .cons (by unfold R; rfl) (Rs.of_ints ns)
theorem Rs.bls : ∀ {ns : List Bool} {vs : List V}, Rs K H (ns.map D.bl) vs → vs = ns.map V.bl
  | [], _, h => h.unil
  | n :: ns, vs, h => by
    obtain ⟨v, us, rfl, r, rs⟩ := h.ucons
    unfold R at r
    rw [r, Rs.bls rs]
    rfl
theorem Rs.strs : ∀ {ns : List Str} {vs : List V}, Rs K H (ns.map D.str) vs → vs = ns.map V.str
  | [], _, h => h.unil
  | n :: ns, vs, h => by
    obtain ⟨v, us, rfl, r, rs⟩ := h.ucons
    unfold R at r
    rw [r, Rs.strs rs]
    rfl
theorem Rs.of_strs : ∀ ns : List Str, Rs K H (ns.map D.str) (ns.map V.str)
  | [] => .nil
  | n :: ns => .cons (by unfold R; rfl) (Rs.of_strs ns)
theorem R.int' {i : Int} : R K H (.int i) (.int i) := by unfold R; rfl
theorem R.bl' {b : Bool} : R K H (.bl b) (.bl b) := by unfold R; rfl
theorem R.str' {x : Str} : R K H (.str x) (.str x) := by unfold R; rfl
theorem R.non' : R K H .non .non := by unfold R; rfl
theorem R.ref' {a : Addr} : R K H (.ref a) (.ref a) := by unfold R; rfl
theorem R.ty' {n : String} : R K H (.ty n) (.ty n) := by unfold R; rfl
theorem R.int_ {i : Int} {v : V} (h : R K H (.int i) v) : v = .int i := by unfold R at h; exact h
theorem R.bl_ {i : Bool} {v : V} (h : R K H (.bl i) v) : v = .bl i := by unfold R at h; exact h
theorem R.str_ {i : Str} {v : V} (h : R K H (.str i) v) : v = .str i := by unfold R at h; exact h
theorem R.non_ {v : V} (h : R K H .non v) : v = .non := by unfold R at h; exact h
theorem R.ref_ {a : Addr} {v : V} (h : R K H (.ref a) v) : v = .ref a := by unfold R at h; exact h
theorem R.kl_ {a : Addr} {ns : List Int} {v : V} (h : R K H (.kl a ns) v) : v = .ref a ∧ ∀ H2, SqL K H2 a (ns.map V.int) := by unfold R at h; exact h
theorem R.kl' {a : Addr} {ns : List Int} (h : ∀ H2, SqL K H2 a (ns.map V.int)) : R K H (.kl a ns) (.ref a) := by unfold R; exact ⟨rfl, h⟩
theorem R.ty_ {n : String} {v : V} (h : R K H (.ty n) v) : v = .ty n := by unfold R at h; exact h
end
/-! ### the heap of what may change -/
inductive O where
  | lst (xs : List D) | fz (xs : List D)
  | dK (kvs : List (Key × D)) | dKz (kvs : List (Key × D)) (od : Obj) (ws : List (Key × V))
  | dT (kvs : List (List Key × D))
  | ext (I : Hp → Prop) (own : List Addr) | own (a : Addr)
abbrev Hd := Addr → Option O
def up (M : Hd) (a : Addr) (o : O) : Hd := fun b => if b = a then some o else M b
theorem up_same {M : Hd} {a : Addr} {o : O} : up M a o a = some o := by unfold up; rw [if_pos rfl]
theorem up_ne {M : Hd} {a b : Addr} {o : O} (h : b ≠ a) : up M a o b = M b := by unfold up; rw [if_neg h]
theorem up_up {M : Hd} {a : Addr} {o u : O} : up (up M a o) a u = up M a u := by funext b; unfold up; split <;> rfl
theorem up_self {M : Hd} {a : Addr} {o : O} (h : M a = some o) : up M a o = M := by
  funext b; unfold up; split
  · rename_i e; rw [e, h]
  · rfl
theorem neM {M : Hd} {a b : Addr} {o : O} (h : M a = some o) (h' : M b = none) : a ≠ b := by
  intro e; subst e; rw [h] at h'; cases h'
/-- not a tuple -/
def NotTup : HO → Prop
  | .tup _ => False
  | .frz _ (.tup _) => False
  | .xd _ => False
  | _ => True
abbrev RK {κ : Type} (K : PySem.W.Frag) (H : Hp) : List (κ × D) → List (κ × V) → Prop := Paired fun p q => p.1 = q.1 ∧ R K H p.2 q.2
theorem RK.mono {κ : Type} {K : PySem.W.Frag} {H H' : Hp} (t : Tx K H H') {kvs : List (κ × D)} {ws : List (κ × V)} (h : RK K H kvs ws) : RK K H' kvs ws :=
  Paired.mapP h fun _ _ q => ⟨q.1, q.2.mono t⟩
def OR (K : PySem.W.Frag) (H : Hp) (M : Hd) (a : Addr) : O → Prop
  | .lst xs => ∃ vs, H a = some (.lst vs) ∧ Rs K H xs vs
  | .fz xs => ∃ ob vs, H a = some (.frz ob (.lst vs)) ∧ Rs K H xs vs
  | .dK kvs => ∃ ws, H a = some (.dK ws) ∧ RK K H kvs ws
  | .dKz kvs od ws => H a = some (.frz od (.dK ws)) ∧ RK K H kvs ws
  | .dT kvs => ∃ ws, H a = some (.dT ws) ∧ RK K H kvs ws
  | .ext I own => I H ∧ (∃ u, H a = some u ∧ NotTup u) ∧ (∀ b ∈ own, M b = some (.own a)) ∧ ∀ H2, Tx K H H2 → (∀ b u, (b = a ∨ b ∈ own) → H b = some u → H2 b = some u) → I H2
  | .own _ => ∃ u, H a = some u ∧ NotTup u
def Rep (K : PySem.W.Frag) (H : Hp) (M : Hd) : Prop := ∀ a o, M a = some o → OR K H M a o
/-- what is not named stands, and stays unnamed -/
def Go (H : Hp) (M : Hd) (H' : Hp) (M' : Hd) : Prop := ∀ a u, H a = some u → M a = none → H' a = some u ∧ M' a = none
section
variable {K : PySem.W.Frag} {H H' H2 : Hp} {M M' M2 : Hd}
theorem OR.there {a : Addr} {o : O} (h : OR K H M a o) : ∃ u, H a = some u ∧ NotTup u := by
  cases o with
  | lst xs => obtain ⟨vs, e, _⟩ := h; exact ⟨_, e, trivial⟩
  | fz xs => obtain ⟨ob, vs, e, _⟩ := h; exact ⟨_, e, trivial⟩
  | dK xs => obtain ⟨vs, e, _⟩ := h; exact ⟨_, e, trivial⟩
  | dKz xs od ws => obtain ⟨e, _⟩ := h; exact ⟨_, e, trivial⟩
  | dT xs => obtain ⟨vs, e, _⟩ := h; exact ⟨_, e, trivial⟩
  | ext I own => exact h.2.1
  | own => exact h
theorem Rep.free (rep : Rep K H M) {p : Addr} (h : H p = none) : M p = none := by
  cases e : M p with
  | none => rfl
  | some o =>
    obtain ⟨u, q, _⟩ := (rep p o e).there
    rw [h] at q; cases q
theorem Rep.xd (rep : Rep K H M) {p : Addr} {fs : List (Str × V)} (h : H p = some (.xd fs)) : M p = none := by
  cases e : M p with
  | none => rfl
  | some o =>
    obtain ⟨u, q, t⟩ := (rep p o e).there
    rw [h] at q; cases q; exact t.elim
theorem Go.refl : Go H M H M := fun _ _ h n => ⟨h, n⟩
theorem Go.trans (a : Go H M H' M') (b : Go H' M' H2 M2) : Go H M H2 M2 := fun x u h n => let ⟨h1, n1⟩ := a x u h n; b x u h1 n1
theorem Rep.tx (rep : Rep K H M) (g : Go H M H' M') : Tx K H H' := by
  have all : ∀ a u, H a = some u → ¬ NotTup u → H' a = some u := fun a u h nt => by
    have n : M a = none := by
      cases e : M a with
      | none => rfl
      | some o =>
        obtain ⟨u, q, t⟩ := (rep a o e).there
        rw [h] at q; cases q; exact absurd t nt
    exact (g a _ h n).1
  exact ⟨fun a xs h => all a _ h fun z => z, fun a ob xs h => all a _ h fun z => z⟩
/-- an object's description leans on its own cell, and on tuples -/
theorem OR.stay {a : Addr} {o : O} (h : OR K H M a o) (t : Tx K H H') (k : ∀ b u, (b = a ∨ M b = some (.own a)) → H b = some u → H' b = some u) (m : ∀ b c, M b = some (.own c) → M' b = some (.own c)) : OR K H' M' a o := by
  cases o with
  | lst xs => obtain ⟨vs, e, r⟩ := h; exact ⟨vs, k _ _ (.inl rfl) e, r.mono t⟩
  | fz xs => obtain ⟨ob, vs, e, r⟩ := h; exact ⟨ob, vs, k _ _ (.inl rfl) e, r.mono t⟩
  | dK xs => obtain ⟨vs, e, r⟩ := h; exact ⟨vs, k _ _ (.inl rfl) e, r.mono t⟩
  | dKz xs od ws => obtain ⟨e, r⟩ := h; exact ⟨k _ _ (.inl rfl) e, r.mono t⟩
  | dT xs => obtain ⟨vs, e, r⟩ := h; exact ⟨vs, k _ _ (.inl rfl) e, r.mono t⟩
  | ext I own =>
    obtain ⟨i, ⟨u, e, nt⟩, o, st⟩ := h
    have kk : ∀ b u, (b = a ∨ b ∈ own) → H b = some u → H' b = some u := fun b u hb q => by
      rcases hb with hb | hb
      · exact k b u (.inl hb) q
      · exact k b u (.inr (o b hb)) q
    exact ⟨st _ t kk, ⟨u, k _ _ (.inl rfl) e, nt⟩, fun b hb => m b _ (o b hb), fun H2 t2 hk => st _ (t.trans t2) fun b u hb q => hk b u hb (kk b u hb q)⟩
  | own => obtain ⟨u, e, nt⟩ := h; exact ⟨u, k _ _ (.inl rfl) e, nt⟩
/-- a cell is written, or laid: p -/
theorem Rep.put (rep : Rep K H M) {p : Addr} {u : HO} {o : O} (t : Tx K H (upd H p u)) (ho : ∀ c, M p ≠ some (.own c)) (hn : H p = none ∨ M p ≠ none) (new : OR K (upd H p u) (up M p o) p o) : Rep K (upd H p u) (up M p o) := by
  intro a q e
  by_cases ha : a = p
  · subst ha; rw [up_same] at e; cases e; exact new
  · rw [up_ne ha] at e
    refine (rep a q e).stay t (fun b v hb hv => ?_) fun b c hb => ?_
    · have nb : b ≠ p := by
        rintro rfl
        rcases hb with hb | hb
        · exact ha hb.symm
        · exact ho _ hb
      rw [upd_ne nb]; exact hv
    · have nb : b ≠ p := by
        rintro rfl
        exact ho _ hb
      rw [up_ne nb]; exact hb
theorem tx_new {p : Addr} {u : HO} (h : H p = none) : Tx K H (upd H p u) := ⟨fun a xs q => by
  rw [upd_ne (ne_of_none q h)]; exact q, fun a ob xs q => by rw [upd_ne (ne_of_none q h)]; exact q⟩
theorem tx_put {p : Addr} {u v : HO} (h : H p = some v) (nt : NotTup v) : Tx K H (upd H p u) := ⟨fun a xs q => by
  have : a ≠ p := by rintro rfl; rw [h] at q; cases q; exact nt.elim
  rw [upd_ne this]; exact q, fun a ob xs q => by
  have : a ≠ p := by rintro rfl; rw [h] at q; cases q; exact nt.elim
  rw [upd_ne this]; exact q⟩
theorem go_new {p : Addr} {u : HO} {o : O} (h : H p = none) : Go H M (upd H p u) (up M p o) := fun a v e n => by
  have na : a ≠ p := ne_of_none e h
  rw [upd_ne na, up_ne na]
  exact ⟨e, n⟩
theorem go_put {p : Addr} {u : HO} {o : O} (h : M p ≠ none) : Go H M (upd H p u) (up M p o) := fun a v e n => by
  have na : a ≠ p := by rintro rfl; exact h n
  rw [upd_ne na, up_ne na]
  exact ⟨e, n⟩
/-- a tuple is laid -/
theorem Rep.tup (rep : Rep K H M) {p : Addr} {u : HO} (h : H p = none) : Rep K (upd H p u) M := by
  intro a q e
  refine (rep a q e).stay (tx_new h) (fun b v _ hv => ?_) fun _ _ hb => hb
  rw [upd_ne (ne_of_none hv h)]; exact hv
theorem go_tup {p : Addr} {u : HO} (h : H p = none) : Go H M (upd H p u) M := fun a v e n => ⟨by rw [upd_ne (ne_of_none e h)]; exact e, n⟩
/-- forgetting -/
theorem Rep.sub (rep : Rep K H M) (h : ∀ a o, M' a = some o → M a = some o) (ho : ∀ a c, M a = some (.own c) → M' a = some (.own c)) : Rep K H M' := fun a o e =>
  (rep a o (h a o e)).stay Tx.refl (fun _ _ _ q => q) ho
end
/-! ### slots -/
abbrev DS := List (Option D)
structure Sl (K : PySem.W.Frag) (H : Hp) (σ : L2.St) (δ : DS) : Prop where
  len : σ.length = δ.length
  at_ : ∀ (i : Nat) (d : D), δ[i]? = some (some d) → ∃ v : V, σ[i]? = some (some v) ∧ R K H d v
section
variable {K : PySem.W.Frag} {H H' : Hp} {σ : L2.St} {δ : DS}
theorem Sl.mono (s : Sl K H σ δ) (t : Tx K H H') : Sl K H' σ δ := ⟨s.len, fun i d e => let ⟨v, q, r⟩ := s.at_ i d e; ⟨v, q, r.mono t⟩⟩
theorem Sl.set (s : Sl K H σ δ) {v : V} {d : D} (i : Nat) (r : R K H d v) : Sl K H (σ.set i (some v)) (δ.set i (some d)) := by
  refine ⟨by rw [List.length_set, List.length_set]; exact s.len, fun j e q => ?_⟩
  by_cases h : i = j
  · subst h
    have hl : i < δ.length := by
      have := (List.getElem?_eq_some_iff.mp q).1
      rwa [List.length_set] at this
    rw [List.getElem?_set_self hl] at q
    cases q
    rw [List.getElem?_set_self (by rw [s.len]; exact hl)]
    exact ⟨v, rfl, r⟩
  · rw [List.getElem?_set_ne h] at q ⊢
    exact s.at_ j e q
theorem Sl.unset (s : Sl K H σ δ) (i : Nat) : Sl K H (σ.set i none) (δ.set i none) := by
  refine ⟨by rw [List.length_set, List.length_set]; exact s.len, fun j e q => ?_⟩
  by_cases h : i = j
  · subst h
    have hl : i < δ.length := by
      have := (List.getElem?_eq_some_iff.mp q).1
      rwa [List.length_set] at this
    rw [List.getElem?_set_self hl] at q
    cases q
  · rw [List.getElem?_set_ne h] at q ⊢
    exact s.at_ j e q
def wipeD (δ : DS) : List Nat → DS
  | [] => δ
  | v :: vs => (wipeD δ vs).set v none
theorem Sl.wipe (s : Sl K H σ δ) : ∀ vs : List Nat, Sl K H (L2.wipe σ vs) (wipeD δ vs)
  | [] => s
  | v :: vs => (Sl.wipe s vs).unset v
/-- the start -/
def startD (N : Nat) (ds : List D) : DS := ds.map some ++ List.replicate (N - ds.length) none
theorem Sl.start {N : List Str} {ds : List D} {vs : List V} (r : Rs K H ds vs) : Sl K H (L2.start N vs) (startD N.length ds) := by
  have hl := r.len
  refine ⟨by unfold L2.start startD; simp [hl], fun i d e => ?_⟩
  unfold startD at e
  unfold L2.start
  by_cases h : i < ds.length
  · rw [List.getElem?_append_left (by simpa using h)] at e
    rw [List.getElem?_append_left (by simpa [hl] using h)]
    rw [List.getElem?_map] at e ⊢
    cases q : ds[i]? with
    | none => rw [q] at e; cases e
    | some x =>
      rw [q] at e
      cases e
      obtain ⟨v, e1, e2⟩ := r.get q
      exact ⟨v, by rw [e1]; rfl, e2⟩
  · rw [List.getElem?_append_right (by simpa using h)] at e
    have := List.getElem?_eq_some_iff.mp e
    obtain ⟨h1, h2⟩ := this
    rw [List.getElem_replicate] at h2
    cases h2
end
end T3
namespace T3
open PySem PySem.Spec PyProof.Rows L2
/-! ### readings over data -/
abbrev DK := D → Hd → Prop
abbrev DE := DS → Hd → DK → Prop
abbrev DT := DS → Hd → (Bool → Hd → Prop) → Prop
abbrev DA := DS → Hd → (List D → Hd → Prop) → Prop
structure DEnds where
  nx : DS → Hd → Prop
  rt : DK
  bk : DS → Hd → Prop := fun _ _ => False
  ct : DS → Hd → Prop := fun _ _ => False
abbrev DSt := DEnds → DS → Hd → Prop
/-- what is known all along -/
structure Am where
  B : Hp → Hd → Prop
  pres : ∀ H M H' M', Go H M H' M' → B H M → B H' M'
def Am.no : Am := ⟨fun _ _ => True, fun _ _ _ _ _ h => h⟩
def Am.since (H0 : Hp) (M0 : Hd) : Am := ⟨fun H M => Go H0 M0 H M, fun _ _ _ _ g h => h.trans g⟩
def SndE (K : PySem.W.Frag) (B : Am) (t : TE) (d : DE) : Prop := ∀ (σ : L2.St) (H : Hp) (δ : DS) (M : Hd) (Q : VK) (Qd : DK), Sl K H σ δ → Rep K H M → B.B H M → d δ M Qd →
  (∀ v H' x M', Go H M H' M' → Rep K H' M' → R K H' x v → Qd x M' → Q v H') → t σ H Q
def SndT (K : PySem.W.Frag) (B : Am) (t : TT) (d : DT) : Prop := ∀ (σ : L2.St) (H : Hp) (δ : DS) (M : Hd) (Q : Bool → Hp → Prop) (Qd : Bool → Hd → Prop), Sl K H σ δ → Rep K H M → B.B H M → d δ M Qd →
  (∀ b H' M', Go H M H' M' → Rep K H' M' → Qd b M' → Q b H') → t σ H Q
def SndA (K : PySem.W.Frag) (B : Am) (n : Nat) (t : TA) (d : DA) : Prop := ∀ (σ : L2.St) (H : Hp) (δ : DS) (M : Hd) (Q : List V → Hp → Prop) (Qd : List D → Hd → Prop), Sl K H σ δ → Rep K H M → B.B H M → d δ M Qd →
  (∀ vs H' xs M', Go H M H' M' → Rep K H' M' → Rs K H' xs vs → xs.length = n → Qd xs M' → Q vs H') → t σ H Q
structure EndOk (K : PySem.W.Frag) (H : Hp) (M : Hd) (D : Ends) (Dd : DEnds) : Prop where
  nx : ∀ σ' H' δ' M', Go H M H' M' → Sl K H' σ' δ' → Rep K H' M' → Dd.nx δ' M' → D.nx σ' H'
  rt : ∀ v H' x M', Go H M H' M' → Rep K H' M' → R K H' x v → Dd.rt x M' → D.rt v H'
  bk : ∀ σ' H' δ' M', Go H M H' M' → Sl K H' σ' δ' → Rep K H' M' → Dd.bk δ' M' → D.bk σ' H'
  ct : ∀ σ' H' δ' M', Go H M H' M' → Sl K H' σ' δ' → Rep K H' M' → Dd.ct δ' M' → D.ct σ' H'
theorem EndOk.mono {K : PySem.W.Frag} {H H1 : Hp} {M M1 : Hd} {D : Ends} {Dd : DEnds} (g : Go H M H1 M1) (e : EndOk K H M D Dd) : EndOk K H1 M1 D Dd :=
  ⟨fun a b c d h => e.nx a b c d (g.trans h), fun a b c d h => e.rt a b c d (g.trans h), fun a b c d h => e.bk a b c d (g.trans h), fun a b c d h => e.ct a b c d (g.trans h)⟩
def SndS (K : PySem.W.Frag) (B : Am) (t : TS) (d : DSt) : Prop := ∀ (σ : L2.St) (H : Hp) (δ : DS) (M : Hd) (D : Ends) (Dd : DEnds), Sl K H σ δ → Rep K H M → B.B H M → d Dd δ M → EndOk K H M D Dd → t D σ H
structure PE3 (X : Cx) (B : Am) (e : Expr) (d : DE) : Prop where
  ex : ∃ t, PE X e t ∧ SndE X.K B t d
structure PT3 (X : Cx) (B : Am) (e : Expr) (d : DT) : Prop where
  ex : ∃ t, PT X e t ∧ SndT X.K B t d
structure PW3 (X : Cx) (B : Am) (e : Expr) (d : DT) : Prop where
  ex : ∃ t, PW X e t ∧ SndT X.K B t d
structure PA3 (X : Cx) (B : Am) (es : List Expr) (d : DA) : Prop where
  ex : ∃ t, PA X es t ∧ SndA X.K B es.length t d
structure PS3 (X : Cx) (B : Am) (s : Stmt) (d : DSt) : Prop where
  ex : ∃ t, PS X s t ∧ SndS X.K B t d
structure PB3 (X : Cx) (B : Am) (s : List Stmt) (d : DSt) : Prop where
  ex : ∃ t, PSs X s t ∧ SndS X.K B t d
/-! ### forgetting -/
def Fgt (K : PySem.W.Frag) (M M' : Hd) : Prop := (∀ H, Rep K H M → Rep K H M') ∧ ∀ a, M a = none → M' a = none
theorem Fgt.refl {K : PySem.W.Frag} {M : Hd} : Fgt K M M := ⟨fun _ h => h, fun _ h => h⟩
theorem Fgt.trans {K : PySem.W.Frag} {M M' M2 : Hd} (a : Fgt K M M') (b : Fgt K M' M2) : Fgt K M M2 := ⟨fun H h => b.1 H (a.1 H h), fun x h => b.2 x (a.2 x h)⟩
theorem Fgt.go {K : PySem.W.Frag} {H : Hp} {M M' : Hd} (a : Fgt K M M') : Go H M H M' := fun x u h n => ⟨h, a.2 x n⟩
/-- only new lists, dicts are forgotten -/
def Sub (M M' : Hd) : Prop := (∀ a o, M' a = some o → M a = some o) ∧ ∀ a c, M a = some (.own c) → M' a = some (.own c)
theorem Sub.refl {M : Hd} : Sub M M := ⟨fun _ _ h => h, fun _ _ h => h⟩
theorem Sub.trans {M M' M2 : Hd} (a : Sub M M') (b : Sub M' M2) : Sub M M2 := ⟨fun x o h => a.1 x o (b.1 x o h), fun x c h => b.2 x c (a.2 x c h)⟩
theorem Sub.fgt {K : PySem.W.Frag} {M M' : Hd} (a : Sub M M') : Fgt K M M' := ⟨fun H h => h.sub a.1 a.2, fun x h => by
  cases e : M' x with
  | none => rfl
  | some o => rw [a.1 x o e] at h; cases h⟩
theorem Sub.new {M : Hd} {p : Addr} {o : O} (h : M p = none) (ho : ∀ c, o ≠ .own c) : Sub (up M p o) M := ⟨fun a u e => by rw [up_ne (neM e h)]; exact e, fun a c e => by
  by_cases z : a = p
  · subst z; rw [up_same] at e; cases e; exact absurd rfl (ho _)
  · rw [up_ne z] at e; exact e⟩
theorem Sub.put {M M0 : Hd} {p : Addr} {o : O} (s : Sub M M0) (h : M0 p = none) (ho : ∀ c, o ≠ .own c) : Sub (up M p o) M0 := ⟨fun a u e => by rw [up_ne (neM e h)]; exact s.1 a u e, fun a c e => by
  by_cases z : a = p
  · subst z; rw [up_same] at e; cases e; exact absurd rfl (ho _)
  · rw [up_ne z] at e; exact s.2 a _ e⟩
theorem Sub.at {M M' : Hd} (s : Sub M M') {a : Addr} {o : O} (h : M' a = some o) : M a = some o := s.1 a o h
theorem Sub.free {M M' : Hd} (s : Sub M M') {a : Addr} (h : M a = none) : M' a = none := by
  cases e : M' a with
  | none => rfl
  | some o => rw [s.1 a o e] at h; cases h
/-! ### expressions -/
section
variable {X : Cx} {B : Am}
def dVar (i : Nat) : DE := fun δ M Q => ∃ x, δ[i]? = some (some x) ∧ Q x M
theorem e_var (i : Nat) {x : Str} {pos : Pos} (hN : X.N[i]? = some x := by rfl) (hv : Vis X.env.scope x := by first | exact Or.inl rfl | exact Or.inr (Or.inl rfl) | exact Or.inr (Or.inr rfl)) (hd : (x == ("__debug__" : Str)) = false := by decide)
    (hcd : (x == ("__classdict__" : Str)) = false := by decide) : PE3 X B (.Name x pos) (dVar i) := ⟨_, pv i hN hv hd hcd, fun σ H δ M Q Qd sl rep _ ⟨x, e, h⟩ q => by
  obtain ⟨v, e1, r⟩ := sl.at_ i x e
  exact ⟨v, e1, q v H x M Go.refl rep r h⟩⟩
def dC (d : D) : DE := fun _ M Q => Q d M
theorem sndC {K : PySem.W.Frag} {v : V} {d : D} (h : ∀ H, R K H d v) : SndE K B (tC v) (dC d) := fun σ H δ M Q Qd sl rep _ h' q => q v H d M Go.refl rep (h H) h'
theorem e_int {i j pos} : PE3 X B (.Constant (.int i) j pos) (dC (.int i)) := ⟨_, pe_int, sndC fun _ => R.int'⟩
theorem e_bl {b j pos} : PE3 X B (.Constant (.bool b) j pos) (dC (.bl b)) := ⟨_, pe_bl, sndC fun _ => R.bl'⟩
theorem e_non {j pos} : PE3 X B (.Constant .none j pos) (dC .non) := ⟨_, pe_non, sndC fun _ => R.non'⟩
theorem e_str {x j pos} : PE3 X B (.Constant (.str x) j pos) (dC (.str x)) := ⟨_, pe_str, sndC fun _ => R.str'⟩
/-- a module's int, text -/
theorem e_gint {x : Str} {i : Int} {u : Value} {pos : Pos} (hg : Gl X x) (hm : X.mg x = some u) (r : RelV (.int i) u) (hd : (x == ("__debug__" : Str)) = false := by decide) : PE3 X B (.Name x pos) (dC (.int i)) :=
  ⟨_, pe_glob hg hm r hd, sndC fun _ => R.int'⟩
theorem e_gstr {x : Str} {i : Str} {u : Value} {pos : Pos} (hg : Gl X x) (hm : X.mg x = some u) (r : RelV (.str i) u) (hd : (x == ("__debug__" : Str)) = false := by decide) : PE3 X B (.Name x pos) (dC (.str i)) :=
  ⟨_, pe_glob hg hm r hd, sndC fun _ => R.str'⟩
theorem e_gref {x : Str} {a : Addr} {pos : Pos} (hg : Gl X x) (hm : X.mg x = some (.ref a)) (hd : (x == ("__debug__" : Str)) = false := by decide) : PE3 X B (.Name x pos) (dC (.ref a)) :=
  ⟨_, pe_glob (v := .ref a) hg hm (show RelV (.ref a) (.ref a) from rfl) hd, sndC fun _ => R.ref'⟩
/-- a built-in class as a value -/
theorem e_ty {x : Str} {T : String} {pos : Pos} (hg : Gl X x) (hm : X.mg x = none) (hv : bootBuiltins x = some (.type T)) (hn : x ≠ "__name__" := by decide) (hd : (x == ("__debug__" : Str)) = false := by decide) : PE3 X B (.Name x pos) (dC (.ty T)) :=
  ⟨_, pe_bltn (v := .ty T) hg hm hv rfl hn hd, sndC fun _ => R.ty'⟩
abbrev DR2 := D → D → Hd → DK → Prop
def SndR2 (K : PySem.W.Frag) (r : R2) (rd : DR2) : Prop := ∀ (H : Hp) (M : Hd) (x y : D) (v u : V) (Q : VK) (Qd : DK), Rep K H M → R K H x v → R K H y u → rd x y M Qd →
  (∀ v' H' x' M', Go H M H' M' → Rep K H' M' → R K H' x' v' → Qd x' M' → Q v' H') → r v u H Q
structure OpD (X : Cx) (f : Value → Value → Sem Value) (rd : DR2) : Prop where
  ex : ∃ r, OpR X f r ∧ SndR2 X.K r rd
def dOp (rd : DR2) (da db : DE) : DE := fun δ M Q => da δ M fun x M1 => db δ M1 fun y M2 => rd x y M2 Q
theorem SndE.op {K : PySem.W.Frag} {ta tb : TE} {da db : DE} {r : R2} {rd : DR2} (ha : SndE K B ta da) (hb : SndE K B tb db) (hr : SndR2 K r rd) : SndE K B (tOp r ta tb) (dOp rd da db) := by
  intro σ H δ M Q Qd sl rep b h q
  refine ha σ H δ M _ _ sl rep b h fun x1 H1 d1 M1 g1 rep1 r1 h1 => ?_
  refine hb σ H1 δ M1 _ _ (sl.mono (rep.tx g1)) rep1 (B.pres _ _ _ _ g1 b) h1 fun x2 H2 d2 M2 g2 rep2 r2 h2 => ?_
  exact hr H2 M2 d1 d2 x1 x2 Q Qd rep2 (r1.mono (rep1.tx g2)) r2 h2 fun v' H' x' M' g rep' r' q' => q v' H' x' M' ((g1.trans g2).trans g) rep' r' q'
variable {a b c e : Expr} {da db dc de : DE} {pos : Pos}
theorem e_op {op : Operator} {rd : DR2} (ho : OpD X (binaryOp op) rd) (ha : PE3 X B a da) (hb : PE3 X B b db) : PE3 X B (.BinOp a op b pos) (dOp rd da db) := by
  obtain ⟨r, h1, h2⟩ := ho.ex
  obtain ⟨ta, a1, a2⟩ := ha.ex
  obtain ⟨tb, b1, b2⟩ := hb.ex
  exact ⟨_, pe_op h1 a1 b1, a2.op b2 h2⟩
theorem e_cmp {op : CmpOp} {rd : DR2} (ho : OpD X (compareOp op) rd) (ha : PE3 X B a da) (hb : PE3 X B b db) (hm : behindInMarks op b = false := by first | exact nomark _ | rfl) : PE3 X B (.Compare a [op] [b] pos) (dOp rd da db) := by
  obtain ⟨r, h1, h2⟩ := ho.ex
  obtain ⟨ta, a1, a2⟩ := ha.ex
  obtain ⟨tb, b1, b2⟩ := hb.ex
  exact ⟨_, pe_cmpR h1 a1 b1 hm, a2.op b2 h2⟩
/-- of a value, its truth (a flag) -/
def dFlag (x : D) (M : Hd) (Q : Bool → Hd → Prop) : Prop := ∃ k, x = .bl k ∧ Q k M
def dTest (d : DE) : DT := fun δ M Q => d δ M fun x M1 => dFlag x M1 Q
theorem SndE.test {K : PySem.W.Frag} {t : TE} {d : DE} (h : SndE K B t d) : SndT K B (tTest t) (dTest d) := fun σ H δ M Q Qd sl rep bb h' q =>
  h σ H δ M _ _ sl rep bb h' fun v H' x M' g rep' r ⟨k, e, h''⟩ => by
    subst e
    exact ⟨k, r.bl_, q k H' M' g rep' h''⟩
theorem t_cmp {op : CmpOp} {rd : DR2} (ho : OpD X (compareOp op) rd) (ha : PE3 X B a da) (hb : PE3 X B b db) (hm : behindInMarks op b = false := by first | exact nomark _ | rfl) : PT3 X B (.Compare a [op] [b] pos) (dTest (dOp rd da db)) := by
  obtain ⟨r, h1, h2⟩ := ho.ex
  obtain ⟨ta, a1, a2⟩ := ha.ex
  obtain ⟨tb, b1, b2⟩ := hb.ex
  exact ⟨_, pt_cmpR h1 a1 b1 hm, (a2.op b2 h2).test⟩
/-- a < b < c -/
def dChain (r r' : DR2) (da db dc : DE) : DE := fun δ M Q => da δ M fun x M1 => db δ M1 fun y M2 => r x y M2 fun z M3 => ∃ k, z = .bl k ∧ (k = true → dc δ M3 fun w M4 => r' y w M4 Q) ∧ (k = false → Q (.bl false) M3)
theorem SndE.chain {K : PySem.W.Frag} {ta tb tc : TE} {r r' : R2} {rd rd' : DR2} (ha : SndE K B ta da) (hb : SndE K B tb db) (hc : SndE K B tc dc) (hr : SndR2 K r rd) (hr' : SndR2 K r' rd') : SndE K B (tChain r r' ta tb tc) (dChain rd rd' da db dc) := by
  intro σ H δ M Q Qd sl rep bb h q
  refine ha σ H δ M _ _ sl rep bb h fun x1 H1 d1 M1 g1 rep1 r1 h1 => ?_
  have bb1 := B.pres _ _ _ _ g1 bb
  have sl1 := sl.mono (rep.tx g1)
  refine hb σ H1 δ M1 _ _ sl1 rep1 bb1 h1 fun x2 H2 d2 M2 g2 rep2 r2 h2 => ?_
  have bb2 := B.pres _ _ _ _ g2 bb1
  have sl2 := sl1.mono (rep1.tx g2)
  refine hr H2 M2 d1 d2 x1 x2 _ _ rep2 (r1.mono (rep1.tx g2)) r2 h2 fun v3 H3 x3 M3 g3 rep3 r3 ⟨k, ek, h3, h4⟩ => ?_
  subst ek
  refine ⟨k, r3.bl_, ?_⟩
  have bb3 := B.pres _ _ _ _ g3 bb2
  have sl3 := sl2.mono (rep2.tx g3)
  cases k with
  | true =>
    refine iteT (hc σ H3 δ M3 _ _ sl3 rep3 bb3 (h3 rfl) fun x4 H4 d4 M4 g4 rep4 r4 h5 => ?_)
    exact hr' H4 M4 d2 d4 x2 x4 Q Qd rep4 ((r2.mono (rep2.tx g3)).mono (rep3.tx g4)) r4 h5 fun v' H' x' M' g rep' r' q' => q v' H' x' M' ((((g1.trans g2).trans g3).trans g4).trans g) rep' r' q'
  | false => exact iteF (q _ H3 _ M3 ((g1.trans g2).trans g3) rep3 R.bl' (h4 rfl))
theorem e_chain {op op' : CmpOp} {rd rd' : DR2} (ho : OpD X (compareOp op) rd) (ho' : OpD X (compareOp op') rd') (ha : PE3 X B a da) (hb : PE3 X B b db) (hc : PE3 X B c dc) (hm : lastMarks [op, op'] [b, c] = false := by rfl) :
    PE3 X B (.Compare a [op, op'] [b, c] pos) (dChain rd rd' da db dc) := by
  obtain ⟨r, h1, h2⟩ := ho.ex
  obtain ⟨r', h1', h2'⟩ := ho'.ex
  obtain ⟨ta, a1, a2⟩ := ha.ex
  obtain ⟨tb, b1, b2⟩ := hb.ex
  obtain ⟨tc, c1, c2⟩ := hc.ex
  exact ⟨_, pe_chain h1 h1' a1 b1 c1 hm, a2.chain b2 c2 h2 h2'⟩
theorem t_chain {op op' : CmpOp} {rd rd' : DR2} (ho : OpD X (compareOp op) rd) (ho' : OpD X (compareOp op') rd') (ha : PE3 X B a da) (hb : PE3 X B b db) (hc : PE3 X B c dc) (hm : lastMarks [op, op'] [b, c] = false := by rfl) :
    PT3 X B (.Compare a [op, op'] [b, c] pos) (dTest (dChain rd rd' da db dc)) := by
  obtain ⟨r, h1, h2⟩ := ho.ex
  obtain ⟨r', h1', h2'⟩ := ho'.ex
  obtain ⟨ta, a1, a2⟩ := ha.ex
  obtain ⟨tb, b1, b2⟩ := hb.ex
  obtain ⟨tc, c1, c2⟩ := hc.ex
  exact ⟨_, pt_chain h1 h1' a1 b1 c1 hm, (a2.chain b2 c2 h2 h2').test⟩
/-! ### tests -/
theorem SndE.tb {K : PySem.W.Frag} {t : TE} {d : DE} (h : SndE K B t d) : SndT K B (tB t) (dTest d) := fun σ H δ M Q Qd sl rep bb h' q =>
  h σ H δ M _ _ sl rep bb h' fun v H' x M' g rep' r ⟨k, e, h''⟩ => by
    subst e
    exact ⟨k, r.bl_, q k H' M' g rep' h''⟩
theorem t_val (h : PE3 X B e de) (he : ∀ whole, isTrue e X.env whole = (do let v ← whole; standAt e.pos; holding [v] (truthy v)) := by intro _; rfl) : PT3 X B e (dTest de) := by
  obtain ⟨t, h1, h2⟩ := h.ex
  exact ⟨_, pt_val h1 he, h2.tb⟩
variable {tA tB' : DT} {rest : List Expr}
def dAnd (t u : DT) : DT := fun δ M Q => t δ M fun k M1 => (k = true → u δ M1 Q) ∧ (k = false → Q false M1)
def dOr (t u : DT) : DT := fun δ M Q => t δ M fun k M1 => (k = true → Q true M1) ∧ (k = false → u δ M1 Q)
def dNot (t : DT) : DT := fun δ M Q => t δ M fun k M1 => Q (!k) M1
theorem PW3.pt (h : PW3 X B e tA) : PT3 X B e tA := by
  obtain ⟨t, h1, h2⟩ := h.ex
  exact ⟨_, h1.pt, h2⟩
theorem w_and1 (h : PT3 X B a tA) : PW3 X B (.BoolOp .And [a] pos) tA := by
  obtain ⟨t, h1, h2⟩ := h.ex
  exact ⟨_, pw_and1 h1, h2⟩
theorem w_or1 (h : PT3 X B a tA) : PW3 X B (.BoolOp .Or [a] pos) tA := by
  obtain ⟨t, h1, h2⟩ := h.ex
  exact ⟨_, pw_or1 h1, h2⟩
theorem SndT.and {K : PySem.W.Frag} {t u : TT} (h : SndT K B t tA) (k : SndT K B u tB') : SndT K B (tAnd t u) (dAnd tA tB') := fun σ H δ M Q Qd sl rep bb h' q =>
  h σ H δ M _ _ sl rep bb h' fun b H1 M1 g rep1 ⟨q1, q2⟩ => by
    cases b with
    | true => exact iteT (k σ H1 δ M1 _ _ (sl.mono (rep.tx g)) rep1 (B.pres _ _ _ _ g bb) (q1 rfl) fun b' H' M' g' => q b' H' M' (g.trans g'))
    | false => exact iteF (q _ _ _ g rep1 (q2 rfl))
theorem SndT.or {K : PySem.W.Frag} {t u : TT} (h : SndT K B t tA) (k : SndT K B u tB') : SndT K B (tOr t u) (dOr tA tB') := fun σ H δ M Q Qd sl rep bb h' q =>
  h σ H δ M _ _ sl rep bb h' fun b H1 M1 g rep1 ⟨q1, q2⟩ => by
    cases b with
    | false => exact iteF (k σ H1 δ M1 _ _ (sl.mono (rep.tx g)) rep1 (B.pres _ _ _ _ g bb) (q2 rfl) fun b' H' M' g' => q b' H' M' (g.trans g'))
    | true => exact iteT (q _ _ _ g rep1 (q1 rfl))
theorem w_and (ha : PT3 X B a tA) (hb : PW3 X B (.BoolOp .And (b :: rest) pos) tB') : PW3 X B (.BoolOp .And (a :: b :: rest) pos) (dAnd tA tB') := by
  obtain ⟨t, h1, h2⟩ := ha.ex
  obtain ⟨u, k1, k2⟩ := hb.ex
  exact ⟨_, pw_and h1 k1, h2.and k2⟩
theorem w_or (ha : PT3 X B a tA) (hb : PW3 X B (.BoolOp .Or (b :: rest) pos) tB') : PW3 X B (.BoolOp .Or (a :: b :: rest) pos) (dOr tA tB') := by
  obtain ⟨t, h1, h2⟩ := ha.ex
  obtain ⟨u, k1, k2⟩ := hb.ex
  exact ⟨_, pw_or h1 k1, h2.or k2⟩
theorem t_not (h : PT3 X B a tA) : PT3 X B (.UnaryOp .Not a pos) (dNot tA) := by
  obtain ⟨t, h1, h2⟩ := h.ex
  exact ⟨_, pt_not h1, fun σ H δ M Q Qd sl rep bb h' q => h2 σ H δ M _ _ sl rep bb h' fun b H' M' g rep' q' => q _ _ _ g rep' q'⟩
/-- as values (flags) -/
def dAndV (da db : DE) : DE := fun δ M Q => da δ M fun x M1 => ∃ k, x = .bl k ∧ (k = true → db δ M1 Q) ∧ (k = false → Q (.bl false) M1)
def dOrV (da db : DE) : DE := fun δ M Q => da δ M fun x M1 => ∃ k, x = .bl k ∧ (k = true → Q (.bl true) M1) ∧ (k = false → db δ M1 Q)
def dNotV (da : DE) : DE := fun δ M Q => da δ M fun x M1 => ∃ k, x = .bl k ∧ Q (.bl (!k)) M1
theorem e_one {op} (h : PE3 X B a da) : PE3 X B (.BoolOp op [a] pos) da := by
  obtain ⟨t, h1, h2⟩ := h.ex
  exact ⟨_, pe_one h1, h2⟩
theorem e_and (ha : PE3 X B a da) (hb : PE3 X B (.BoolOp .And (b :: rest) pos) db) : PE3 X B (.BoolOp .And (a :: b :: rest) pos) (dAndV da db) := by
  obtain ⟨t, h1, h2⟩ := ha.ex
  obtain ⟨u, k1, k2⟩ := hb.ex
  refine ⟨_, pe_and h1 k1, fun σ H δ M Q Qd sl rep bb h' q => h2 σ H δ M _ _ sl rep bb h' fun v H1 x M1 g rep1 r ⟨k, ek, q1, q2⟩ => ?_⟩
  subst ek
  refine ⟨k, r.bl_, ?_⟩
  cases k with
  | true => exact iteT (k2 σ H1 δ M1 _ _ (sl.mono (rep.tx g)) rep1 (B.pres _ _ _ _ g bb) (q1 rfl) fun v' H' x' M' g' => q v' H' x' M' (g.trans g'))
  | false => exact iteF (q _ _ _ _ g rep1 R.bl' (q2 rfl))
theorem e_or (ha : PE3 X B a da) (hb : PE3 X B (.BoolOp .Or (b :: rest) pos) db) : PE3 X B (.BoolOp .Or (a :: b :: rest) pos) (dOrV da db) := by
  obtain ⟨t, h1, h2⟩ := ha.ex
  obtain ⟨u, k1, k2⟩ := hb.ex
  refine ⟨_, pe_or h1 k1, fun σ H δ M Q Qd sl rep bb h' q => h2 σ H δ M _ _ sl rep bb h' fun v H1 x M1 g rep1 r ⟨k, ek, q1, q2⟩ => ?_⟩
  subst ek
  refine ⟨k, r.bl_, ?_⟩
  cases k with
  | false => exact iteF (k2 σ H1 δ M1 _ _ (sl.mono (rep.tx g)) rep1 (B.pres _ _ _ _ g bb) (q2 rfl) fun v' H' x' M' g' => q v' H' x' M' (g.trans g'))
  | true => exact iteT (q _ _ _ _ g rep1 R.bl' (q1 rfl))
theorem e_not (ha : PE3 X B a da) : PE3 X B (.UnaryOp .Not a pos) (dNotV da) := by
  obtain ⟨t, h1, h2⟩ := ha.ex
  exact ⟨_, pe_not h1, fun σ H δ M Q Qd sl rep bb h' q => h2 σ H δ M _ _ sl rep bb h' fun v H1 x M1 g rep1 r ⟨k, ek, q1⟩ => by
    subst ek
    exact ⟨k, r.bl_, q _ _ _ _ g rep1 R.bl' q1⟩⟩
def dIf (t : DT) (da db : DE) : DE := fun δ M Q => t δ M fun k M1 => (k = true → da δ M1 Q) ∧ (k = false → db δ M1 Q)
theorem e_if (hc : PT3 X B c tA) (ha : PE3 X B a da) (hb : PE3 X B b db) : PE3 X B (.IfExp c a b pos) (dIf tA da db) := by
  obtain ⟨t, h1, h2⟩ := hc.ex
  obtain ⟨ta, a1, a2⟩ := ha.ex
  obtain ⟨tb, b1, b2⟩ := hb.ex
  refine ⟨_, pe_ifExp h1 a1 b1, fun σ H δ M Q Qd sl rep bb h' q => h2 σ H δ M _ _ sl rep bb h' fun k H1 M1 g rep1 ⟨q1, q2⟩ => ?_⟩
  cases k with
  | true => exact iteT (a2 σ H1 δ M1 _ _ (sl.mono (rep.tx g)) rep1 (B.pres _ _ _ _ g bb) (q1 rfl) fun v' H' x' M' g' => q v' H' x' M' (g.trans g'))
  | false => exact iteF (b2 σ H1 δ M1 _ _ (sl.mono (rep.tx g)) rep1 (B.pres _ _ _ _ g bb) (q2 rfl) fun v' H' x' M' g' => q v' H' x' M' (g.trans g'))
/-! ### lists of expressions, displays, calls -/
def dNil : DA := fun _ M Q => Q [] M
def dCons (da : DE) (dr : DA) : DA := fun δ M Q => da δ M fun x M1 => dr δ M1 fun xs M2 => Q (x :: xs) M2
variable {es : List Expr} {dr : DA}
theorem a_nil : PA3 X B [] dNil := ⟨_, pa_nil, fun σ H δ M Q Qd sl rep bb h q => q [] H [] M Go.refl rep .nil rfl h⟩
theorem a_cons (ha : PE3 X B e de) (hr : PA3 X B es dr) (hs : starEach (e :: es) X.env = (false, eval e X.env) :: starEach es X.env := by rfl) : PA3 X B (e :: es) (dCons de dr) := by
  obtain ⟨t, h1, h2⟩ := ha.ex
  obtain ⟨u, k1, k2⟩ := hr.ex
  refine ⟨_, pa_cons h1 k1 hs, fun σ H δ M Q Qd sl rep bb h q => h2 σ H δ M _ _ sl rep bb h fun v H1 x M1 g rep1 r h1 => ?_⟩
  exact k2 σ H1 δ M1 _ _ (sl.mono (rep.tx g)) rep1 (B.pres _ _ _ _ g bb) h1 fun vs H2 xs M2 g2 rep2 rs hl h2 => q _ _ _ _ (g.trans g2) rep2 (.cons (r.mono (rep1.tx g2)) rs) (by simp [hl]) h2
def dTup (dr : DA) : DE := fun δ M Q => dr δ M fun xs M1 => Q (.tup xs) M1
def dLst (dr : DA) : DE := fun δ M Q => dr δ M fun xs M1 => ∀ p, M1 p = none → Q (.ref p) (up M1 p (.lst xs))
theorem small_es {n : Nat} (h : n ≤ 1000) : n ≤ sizeLine := Nat.le_of_lt (small1000 h)
theorem e_tup {x1} (h : PA3 X B es dr) (hn : es.length ≤ 1000 := by decide) : PE3 X B (.Tuple es x1 pos) (dTup dr) := by
  obtain ⟨t, h1, h2⟩ := h.ex
  refine ⟨_, pe_tup h1, fun σ H δ M Q Qd sl rep bb h q => h2 σ H δ M _ _ sl rep bb h fun vs H1 xs M1 g rep1 rs hl h1 => ?_⟩
  refine ⟨by rw [rs.len, hl]; exact small_es hn, fun p hp => ?_⟩
  exact q _ _ _ M1 (g.trans (go_tup hp)) (rep1.tup hp) (.tup upd_same (rs.mono (tx_new hp))) h1
theorem e_lst (h : PA3 X B es dr) (hn : es.length ≤ 1000 := by decide) : PE3 X B (.List es pos) (dLst dr) := by
  obtain ⟨t, h1, h2⟩ := h.ex
  refine ⟨_, pe_lst h1, fun σ H δ M Q Qd sl rep bb h q => h2 σ H δ M _ _ sl rep bb h fun vs H1 xs M1 g rep1 rs hl h1 => ?_⟩
  refine ⟨by rw [rs.len, hl]; exact small_es hn, fun p hp => ?_⟩
  exact q _ _ _ (up M1 p (.lst xs)) (g.trans (go_new hp)) (rep1.put (tx_new hp) (by rw [rep1.free hp]; exact fun _ z => nomatch z) (.inl hp) ⟨vs, upd_same, rs.mono (tx_new hp)⟩) R.ref' (h1 p (rep1.free hp))
/-- a built-in of values -/
abbrev DRL := List D → Hd → DK → Prop
def SndC (K : PySem.W.Frag) (r : List V → Hp → VK → Prop) (rd : DRL) : Prop := ∀ (H : Hp) (M : Hd) (xs : List D) (vs : List V) (Q : VK) (Qd : DK), Rep K H M → Rs K H xs vs → rd xs M Qd →
  (∀ v' H' x' M', Go H M H' M' → Rep K H' M' → R K H' x' v' → Qd x' M' → Q v' H') → r vs H Q
structure CallD (X : Cx) (f : Value) (rd : DRL) : Prop where
  ex : ∃ r, CallR X f r ∧ SndC X.K r rd
def dCB (rd : DRL) (dr : DA) : DE := fun δ M Q => dr δ M fun xs M1 => rd xs M1 Q
theorem SndA.cb {K : PySem.W.Frag} {n : Nat} {t : TA} {r : List V → Hp → VK → Prop} {rd : DRL} (h : SndA K B n t dr) (k : SndC K r rd) : SndE K B (fun σ H Q => t σ H fun vs H1 => r vs H1 Q) (dCB rd dr) := fun σ H δ M Q Qd sl rep bb h' q =>
  h σ H δ M _ _ sl rep bb h' fun vs H1 xs M1 g rep1 rs _ h1 => k H1 M1 xs vs Q Qd rep1 rs h1 fun v' H' x' M' g' => q v' H' x' M' (g.trans g')
theorem e_callB {x : Str} {id : String} {rd : DRL} {p : Pos} (hc : CallD X (.builtin id) rd) (hg : Gl X x) (hm : X.mg x = none) (hv : bootBuiltins x = some (.builtin id)) (ha : PA3 X B (e :: es) dr) (hn : x ≠ "__name__" := by decide) (hdb : (x == ("__debug__" : Str)) = false := by decide)
    (he : starEach (e :: es) X.env = (false, eval e X.env) :: starEach es X.env := by rfl) (hpl : (backTo pos (starEach es X.env)).any (·.1) = false := by rfl) : PE3 X B (.Call (.Name x p) (e :: es) [] pos) (dCB rd dr) := by
  obtain ⟨r, c1, c2⟩ := hc.ex
  obtain ⟨t, a1, a2⟩ := ha.ex
  exact ⟨_, pe_callB c1 hg hm hv a1 hn hdb he hpl, a2.cb c2⟩
theorem e_callTy {x : Str} {T : String} {rd : DRL} {p : Pos} (hc : CallD X (.type T) rd) (hg : Gl X x) (hm : X.mg x = none) (hv : bootBuiltins x = some (.type T)) (ha : PA3 X B (e :: es) dr) (hn : x ≠ "__name__" := by decide) (hdb : (x == ("__debug__" : Str)) = false := by decide)
    (he : starEach (e :: es) X.env = (false, eval e X.env) :: starEach es X.env := by rfl) (hpl : (backTo pos (starEach es X.env)).any (·.1) = false := by rfl) : PE3 X B (.Call (.Name x p) (e :: es) [] pos) (dCB rd dr) := by
  obtain ⟨r, c1, c2⟩ := hc.ex
  obtain ⟨t, a1, a2⟩ := ha.ex
  exact ⟨_, pe_callTy c1 hg hm hv a1 hn hdb he hpl, a2.cb c2⟩
end
end T3
namespace T3
open PySem PySem.Spec PyProof.Rows L2
/-! ### reading a list -/
def LS (M : Hd) (p : Addr) (xs : List D) : Prop := M p = some (.lst xs) ∨ M p = some (.fz xs)
theorem LS.of {M : Hd} {p : Addr} {xs : List D} (h : M p = some (.lst xs)) : LS M p xs := .inl h
def Sq (M : Hd) (y : D) (xs : List D) : Prop := y = .tup xs ∨ ∃ p, y = .ref p ∧ LS M p xs
theorem Sq.t {M : Hd} {xs : List D} : Sq M (.tup xs) xs := .inl rfl
theorem Sq.l {M : Hd} {p : Addr} {xs : List D} (h : M p = some (.lst xs)) : Sq M (.ref p) xs := .inr ⟨p, rfl, .inl h⟩
section
variable {K : PySem.W.Frag} {H H' : Hp} {M M' : Hd}
theorem Rep.ls (rep : Rep K H M) {p : Addr} {xs : List D} (h : LS M p xs) : ∃ vs, SqL K H p vs ∧ Rs K H xs vs := by
  rcases h with h | h
  · obtain ⟨vs, e, r⟩ := rep p _ h
    exact ⟨vs, .inl (.inl e), r⟩
  · obtain ⟨ob, vs, e, r⟩ := rep p _ h
    exact ⟨vs, .inl (.inr ⟨ob, e⟩), r⟩
theorem Rep.sq (rep : Rep K H M) {y : D} {v : V} {xs : List D} (h : Sq M y xs) (r : R K H y v) : ∃ p vs, v = .ref p ∧ (SqL K H p vs ∨ SqT K H p vs) ∧ Rs K H xs vs := by
  rcases h with rfl | ⟨p, rfl, h⟩
  · obtain ⟨a, vs, e, s, rs⟩ := r.untup
    exact ⟨a, vs, e, .inr (SqT.of s), rs⟩
  · obtain ⟨vs, s, rs⟩ := rep.ls h
    exact ⟨p, vs, r.ref_, .inl s, rs⟩
theorem Rep.lst (rep : Rep K H M) {p : Addr} {xs : List D} (h : M p = some (.lst xs)) : ∃ vs, H p = some (.lst vs) ∧ Rs K H xs vs := rep p _ h
/-- a new list -/
theorem Rep.newL (rep : Rep K H M) {p : Addr} {vs : List V} {xs : List D} (hp : H p = none) (r : Rs K H xs vs) : Go H M (upd H p (.lst vs)) (up M p (.lst xs)) ∧ Rep K (upd H p (.lst vs)) (up M p (.lst xs)) :=
  ⟨go_new hp, rep.put (tx_new hp) (by rw [rep.free hp]; exact fun _ z => nomatch z) (.inl hp) ⟨vs, upd_same, r.mono (tx_new hp)⟩⟩
/-- a list is changed -/
theorem Rep.putL (rep : Rep K H M) {p : Addr} {vs : List V} {xs ys : List D} (h : M p = some (.lst ys)) (r : Rs K H xs vs) : Go H M (upd H p (.lst vs)) (up M p (.lst xs)) ∧ Rep K (upd H p (.lst vs)) (up M p (.lst xs)) := by
  obtain ⟨us, e, _⟩ := rep.lst h
  have t : Tx K H (upd H p (.lst vs)) := tx_put e trivial
  exact ⟨go_put (by rw [h]; exact fun z => nomatch z), rep.put t (by rw [h]; exact fun _ z => nomatch z) (.inr (by rw [h]; exact fun z => nomatch z)) ⟨vs, upd_same, r.mono t⟩⟩
theorem Rep.newT (rep : Rep K H M) {p : Addr} {vs : List V} {xs : List D} (hp : H p = none) (r : Rs K H xs vs) : Go H M (upd H p (.tup vs)) M ∧ Rep K (upd H p (.tup vs)) M ∧ R K (upd H p (.tup vs)) (.tup xs) (.ref p) :=
  ⟨go_tup hp, rep.tup hp, .tup upd_same (r.mono (tx_new hp))⟩
end
/-! ### operators -/
section
variable {X : Cx}
def dI0 (g : Int → Int → D) : DR2 := fun x y M Q => match x, y with
  | .int i, .int j => Q (g i j) M
  | _, _ => False
def dI (C : Int → Int → Prop) (g : Int → Int → D) : DR2 := fun x y M Q => match x, y with
  | .int i, .int j => C i j ∧ Q (g i j) M
  | _, _ => False
theorem dI0_inv {g : Int → Int → D} {x y : D} {M : Hd} {Q : DK} (h : dI0 g x y M Q) : ∃ i j, x = .int i ∧ y = .int j ∧ Q (g i j) M := by
  cases x with
  | int i =>
    cases y with
    | int j => exact ⟨i, j, rfl, rfl, h⟩
    | _ => exact h.elim
  | _ => exact h.elim
theorem dI_inv {C : Int → Int → Prop} {g : Int → Int → D} {x y : D} {M : Hd} {Q : DK} (h : dI C g x y M Q) : ∃ i j, x = .int i ∧ y = .int j ∧ C i j ∧ Q (g i j) M := by
  cases x with
  | int i =>
    cases y with
    | int j => exact ⟨i, j, rfl, rfl, h⟩
    | _ => exact h.elim
  | _ => exact h.elim
theorem snd_I0 {K : PySem.W.Frag} {g : Int → Int → V} {gd : Int → Int → D} (hg : ∀ H i j, R K H (gd i j) (g i j)) : SndR2 K (rI0 g) (dI0 gd) := fun H M x y v u Q Qd rep r1 r2 h q => by
  obtain ⟨i, j, rfl, rfl, h⟩ := dI0_inv h
  exact ⟨i, j, r1.int_, r2.int_, q _ _ _ M Go.refl rep (hg H i j) h⟩
theorem snd_I {K : PySem.W.Frag} {C : Int → Int → Prop} {g : Int → Int → V} {gd : Int → Int → D} (hg : ∀ H i j, R K H (gd i j) (g i j)) : SndR2 K (rI C g) (dI C gd) := fun H M x y v u Q Qd rep r1 r2 h q => by
  obtain ⟨i, j, rfl, rfl, c, h⟩ := dI_inv h
  exact ⟨i, j, r1.int_, r2.int_, c, q _ _ _ M Go.refl rep (hg H i j) h⟩
theorem OpD.or {f : Value → Value → Sem Value} {r r' : DR2} (h : OpD X f r) (h' : OpD X f r') : OpD X f (fun x y M Q => r x y M Q ∨ r' x y M Q) := by
  obtain ⟨a, a1, a2⟩ := h.ex
  obtain ⟨b, b1, b2⟩ := h'.ex
  refine ⟨_, a1.or b1, fun H M x y v u Q Qd rep r1 r2 h q => ?_⟩
  rcases h with h | h
  · exact .inl (a2 H M x y v u Q Qd rep r1 r2 h q)
  · exact .inr (b2 H M x y v u Q Qd rep r1 r2 h q)
theorem OpD.imp {f : Value → Value → Sem Value} {r r' : DR2} (h : OpD X f r) (k : ∀ x y M Q, r' x y M Q → r x y M Q) : OpD X f r' := by
  obtain ⟨a, a1, a2⟩ := h.ex
  exact ⟨a, a1, fun H M x y v u Q Qd rep r1 r2 h q => a2 H M x y v u Q Qd rep r1 r2 (k _ _ _ _ h) q⟩
theorem od_sub : OpD X (binaryOp .Sub) (dI0 fun i j => .int (i - j)) := ⟨_, op_sub, snd_I0 fun _ _ _ => R.int'⟩
theorem od_addI : OpD X (binaryOp .Add) (dI0 fun i j => .int (i + j)) := ⟨_, op_add, snd_I0 fun _ _ _ => R.int'⟩
theorem od_mul : OpD X (binaryOp .Mult) (dI CMul fun i j => .int (i * j)) := ⟨_, op_mul, snd_I fun _ _ _ => R.int'⟩
theorem od_fdiv : OpD X (binaryOp .FloorDiv) (dI CDiv fun i j => .int (i / j)) := ⟨_, op_fdiv, snd_I fun _ _ _ => R.int'⟩
theorem od_mod : OpD X (binaryOp .Mod) (dI (fun _ j => 0 < j) fun i j => .int (i % j)) := ⟨_, op_mod, snd_I fun _ _ _ => R.int'⟩
theorem od_pow : OpD X (binaryOp .Pow) (dI CPow fun i j => .int (i ^ j.toNat)) := ⟨_, op_pow, snd_I fun _ _ _ => R.int'⟩
theorem od_lt : OpD X (compareOp .Lt) (dI0 fun i j => .bl (decide (i < j))) := ⟨_, op_lt, snd_I0 fun _ _ _ => R.bl'⟩
theorem od_le : OpD X (compareOp .LtE) (dI0 fun i j => .bl (decide (i ≤ j))) := ⟨_, op_le, snd_I0 fun _ _ _ => R.bl'⟩
theorem od_gt : OpD X (compareOp .Gt) (dI0 fun i j => .bl (decide (j < i))) := ⟨_, op_gt, snd_I0 fun _ _ _ => R.bl'⟩
theorem od_ge : OpD X (compareOp .GtE) (dI0 fun i j => .bl (decide (j ≤ i))) := ⟨_, op_ge, snd_I0 fun _ _ _ => R.bl'⟩
/-- + of ints, texts, tuples, lists -/
def dAdd : DR2 := fun x y M Q => match x, y with
  | .int i, .int j => Q (.int (i + j)) M
  | .str a, .str b => a.length + b.length ≤ sizeLine ∧ Q (.str (a ++ b)) M
  | .tup xs, .tup ys => xs.length + ys.length ≤ sizeLine ∧ Q (.tup (xs ++ ys)) M
  | .ref p, .ref q => ∃ xs ys, M p = some (.lst xs) ∧ M q = some (.lst ys) ∧ xs.length + ys.length ≤ sizeLine ∧ ∀ l, M l = none → Q (.ref l) (up M l (.lst (xs ++ ys)))
  | _, _ => False
theorem od_add : OpD X (binaryOp .Add) dAdd := by
  refine ⟨_, ((op_add.or op_add_str).or op_catA).or op_cat, fun H M x y v u Q Qd rep r1 r2 h q => ?_⟩
  cases x with
  | int i =>
    cases y with
    | int j => exact .inl (.inl (.inl ⟨i, j, r1.int_, r2.int_, q _ _ _ M Go.refl rep R.int' h⟩))
    | _ => exact h.elim
  | str i =>
    cases y with
    | str j => exact .inl (.inl (.inr ⟨i, j, r1.str_, r2.str_, h.1, q _ _ _ M Go.refl rep R.str' h.2⟩))
    | _ => exact h.elim
  | tup xs =>
    cases y with
    | tup ys =>
      obtain ⟨hz, h⟩ := h
      obtain ⟨a, vs, rfl, s1, rs1⟩ := r1.untup
      obtain ⟨b, us, rfl, s2, rs2⟩ := r2.untup
      refine .inl (.inr ⟨a, b, vs, us, rfl, rfl, SqT.of s1, SqT.of s2, by rw [rs1.len, rs2.len]; exact hz, fun e => ?_, fun _ e => ?_, fun _ _ p hp => ?_⟩)
      · subst e
        have e2 : xs = [] := List.eq_nil_of_length_eq_zero (by rw [← rs1.len]; rfl)
        subst e2
        exact q _ _ _ M Go.refl rep r2 h
      · subst e
        have e2 : ys = [] := List.eq_nil_of_length_eq_zero (by rw [← rs2.len]; rfl)
        subst e2
        rw [List.append_nil] at h
        exact q _ _ _ M Go.refl rep r1 h
      · obtain ⟨g, rep', r'⟩ := rep.newT hp (rs1.app rs2)
        exact q _ _ _ M g rep' r' h
    | _ => exact h.elim
  | ref p =>
    cases y with
    | ref b =>
      obtain ⟨xs, ys, e1, e2, hz, h⟩ := h
      obtain ⟨vs, h1, rs1⟩ := rep.lst e1
      obtain ⟨us, h2, rs2⟩ := rep.lst e2
      refine .inr ⟨p, b, vs, us, r1.ref_, r2.ref_, h1, h2, by rw [rs1.len, rs2.len]; exact hz, fun l hl => ?_⟩
      obtain ⟨g, rep'⟩ := rep.newL hl (rs1.app rs2)
      exact q _ _ _ _ g rep' R.ref' (h l (rep.free hl))
    | _ => exact h.elim
  | _ => exact h.elim
/-- is None -/
def dIsN : DR2 := fun x y M Q => match y with
  | .non => (match x with
    | .non => Q (.bl true) M
    | _ => Q (.bl false) M)
  | _ => False
def dNotN : DR2 := fun x y M Q => match y with
  | .non => (match x with
    | .non => Q (.bl false) M
    | _ => Q (.bl true) M)
  | _ => False
def isNon : D → Bool
  | .non => true
  | _ => false
theorem R.nonB {K : PySem.W.Frag} {H : Hp} {x : D} {v : V} (r : R K H x v) : decide (v = V.non) = isNon x := by
  cases x with
  | non => rw [r.non_]; exact decide_eq_true rfl
  | bl b => rw [r.bl_]; exact decide_eq_false fun z => nomatch z
  | int b => rw [r.int_]; exact decide_eq_false fun z => nomatch z
  | str b => rw [r.str_]; exact decide_eq_false fun z => nomatch z
  | ref b => rw [r.ref_]; exact decide_eq_false fun z => nomatch z
  | ty b => rw [r.ty_]; exact decide_eq_false fun z => nomatch z
  | kl b ns => rw [r.kl_.1]; exact decide_eq_false fun z => nomatch z
  | bt b => obtain ⟨a, ob, vs, e, _⟩ := r.unbt; rw [e]; exact decide_eq_false fun z => nomatch z
  | tup b => obtain ⟨a, vs, e, _⟩ := r.untup; rw [e]; exact decide_eq_false fun z => nomatch z
theorem od_is : OpD X (compareOp .Is) dIsN := by
  refine ⟨_, op_isN, fun H M x y v u Q Qd rep r1 r2 h q => ?_⟩
  cases y with
  | non =>
    refine ⟨r2.non_, ?_⟩
    rw [r1.nonB]
    cases x <;> exact q _ _ _ M Go.refl rep R.bl' h
  | _ => exact h.elim
theorem od_isnot : OpD X (compareOp .IsNot) dNotN := by
  refine ⟨_, op_notN, fun H M x y v u Q Qd rep r1 r2 h q => ?_⟩
  cases y with
  | non =>
    refine ⟨r2.non_, ?_⟩
    rw [r1.nonB]
    cases x <;> exact q _ _ _ M Go.refl rep R.bl' h
  | _ => exact h.elim
/-! ### == -/
mutual
inductive Pd (M : Hd) : D → PyData → Prop
  | non : Pd M .non .none
  | bl (b : Bool) : Pd M (.bl b) (.bool b)
  | int (i : Int) : Pd M (.int i) (.int i)
  | str (x : Str) : Pd M (.str x) (.str x)
  | lst {a : Addr} {xs : List D} {ds : List PyData} : LS M a xs → PdAll M xs ds → Pd M (.ref a) (.list ds)
  | tup {xs : List D} {ds : List PyData} : PdAll M xs ds → Pd M (.tup xs) (.tuple ds)
inductive PdAll (M : Hd) : List D → List PyData → Prop
  | nil : PdAll M [] []
  | cons {x : D} {xs : List D} {d : PyData} {ds : List PyData} : Pd M x d → PdAll M xs ds → PdAll M (x :: xs) (d :: ds)
end
mutual
theorem Pd.dp {K : PySem.W.Frag} {H : Hp} {M : Hd} (rep : Rep K H M) : ∀ (d : PyData) (x : D) (v : V), Pd M x d → R K H x v → Dp K H v d
  | .none, _, _, h, r => by
    cases h
    rw [r.non_]
    exact .non
  | .bool b, _, _, h, r => by
    cases h
    rw [r.bl_]
    exact .bl _
  | .int b, _, _, h, r => by
    cases h
    rw [r.int_]
    exact .int _
  | .str b, _, _, h, r => by
    cases h
    rw [r.str_]
    exact .str _
  | .list ds, _, _, h, r => by
    cases h with
    | lst l ha =>
      rw [r.ref_]
      obtain ⟨vs, s, rs⟩ := rep.ls l
      exact .lst s (PdAll.dp rep ds _ _ ha rs)
  | .tuple ds, _, _, h, r => by
    cases h with
    | tup ha =>
      obtain ⟨a, vs, rfl, s, rs⟩ := r.untup
      exact .tup (SqT.of s) (PdAll.dp rep ds _ _ ha rs)
  | .dict _, _, _, h, _ => by cases h
theorem PdAll.dp {K : PySem.W.Frag} {H : Hp} {M : Hd} (rep : Rep K H M) : ∀ (ds : List PyData) (xs : List D) (vs : List V), PdAll M xs ds → Rs K H xs vs → DpAll K H vs ds
  | [], _, _, h, r => by
    cases h
    rw [r.unil]
    exact .nil
  | d :: ds, _, _, h, r => by
    cases h with
    | cons h1 h2 =>
      obtain ⟨v, us, rfl, r1, rs⟩ := r.ucons
      exact .cons (Pd.dp rep d _ _ h1 r1) (PdAll.dp rep ds _ _ h2 rs)
end
def dEqD (x y : D) (M : Hd) (Q : Bool → Prop) : Prop := ∃ a b, Pd M x a ∧ Pd M y b ∧ SeqAt.shaped a = true ∧ SeqAt.shaped b = true ∧ Q (PyData.eqv a b)
def dEq : DR2 := fun x y M Q => match x, y with
  | .int i, .int j => Q (.bl (decide (i = j))) M
  | .str i, .str j => Q (.bl (decide (i = j))) M
  | .bl i, .bl j => Q (.bl (decide (i = j))) M
  | x, y => dEqD x y M fun b => Q (.bl b) M
def dNe : DR2 := fun x y M Q => match x, y with
  | .int i, .int j => Q (.bl (!decide (i = j))) M
  | .str i, .str j => Q (.bl (!decide (i = j))) M
  | .bl i, .bl j => Q (.bl (!decide (i = j))) M
  | x, y => dEqD x y M fun b => Q (.bl (!b)) M
theorem decV {i j : Int} : decide (V.int i = V.int j) = decide (i = j) := decide_eq_decide.mpr ⟨V.int.inj, congrArg _⟩
theorem decVs {i j : Str} : decide (V.str i = V.str j) = decide (i = j) := decide_eq_decide.mpr ⟨V.str.inj, congrArg _⟩
theorem decVb {i j : Bool} : decide (V.bl i = V.bl j) = decide (i = j) := decide_eq_decide.mpr ⟨V.bl.inj, congrArg _⟩
theorem od_eq (hu : X.A.units + 64 < cLine) : OpD X (compareOp .Eq) dEq := by
  refine ⟨_, op_eq.or (op_eqD hu), fun H M x y v u Q Qd rep r1 r2 h q => ?_⟩
  have gen : (dEqD x y M fun b => Qd (.bl b) M) → (rEq v u H Q ∨ rEqD X.K v u H Q) := fun ⟨a, b, h1, h2, s1, s2, h⟩ => .inr ⟨a, b, h1.dp rep _ _ _ r1, h2.dp rep _ _ _ r2, s1, s2, q _ _ _ M Go.refl rep R.bl' h⟩
  cases x with
  | int i =>
    cases y with
    | int j => rw [r1.int_, r2.int_]; exact .inl ⟨rfl, by rw [decV]; exact q _ _ _ M Go.refl rep R.bl' h⟩
    | _ => exact gen h
  | str i =>
    cases y with
    | str j => rw [r1.str_, r2.str_]; exact .inl ⟨rfl, by rw [decVs]; exact q _ _ _ M Go.refl rep R.bl' h⟩
    | _ => exact gen h
  | bl i =>
    cases y with
    | bl j => rw [r1.bl_, r2.bl_]; exact .inl ⟨rfl, by rw [decVb]; exact q _ _ _ M Go.refl rep R.bl' h⟩
    | _ => exact gen h
  | _ => exact gen h
theorem od_ne (hu : X.A.units + 64 < cLine) : OpD X (compareOp .NotEq) dNe := by
  refine ⟨_, op_ne.or (op_neD hu), fun H M x y v u Q Qd rep r1 r2 h q => ?_⟩
  have gen : (dEqD x y M fun b => Qd (.bl (!b)) M) → (rNe v u H Q ∨ rNeD X.K v u H Q) := fun ⟨a, b, h1, h2, s1, s2, h⟩ => .inr ⟨a, b, h1.dp rep _ _ _ r1, h2.dp rep _ _ _ r2, s1, s2, q _ _ _ M Go.refl rep R.bl' h⟩
  cases x with
  | int i =>
    cases y with
    | int j => rw [r1.int_, r2.int_]; exact .inl ⟨rfl, by rw [decV]; exact q _ _ _ M Go.refl rep R.bl' h⟩
    | _ => exact gen h
  | str i =>
    cases y with
    | str j => rw [r1.str_, r2.str_]; exact .inl ⟨rfl, by rw [decVs]; exact q _ _ _ M Go.refl rep R.bl' h⟩
    | _ => exact gen h
  | bl i =>
    cases y with
    | bl j => rw [r1.bl_, r2.bl_]; exact .inl ⟨rfl, by rw [decVb]; exact q _ _ _ M Go.refl rep R.bl' h⟩
    | _ => exact gen h
  | _ => exact gen h
/-! ### in -/
abbrev valD {κ : Type} [DecidableEq κ] (kvs : List (κ × D)) (k : κ) : Option D := (kvs.find? fun kv => decide (kv.1 = k)).map (·.2)
def kD : Key → D
  | .inl i => .int i
  | .inr x => .str x
theorem R.kD {K : PySem.W.Frag} {H : Hp} {k : Key} {v : V} (h : R K H (kD k) v) : v = kV k := by
  cases k with
  | inl i => exact h.int_
  | inr x => exact h.str_
theorem R.of_kD {K : PySem.W.Frag} {H : Hp} (k : Key) : R K H (T3.kD k) (kV k) := by
  cases k with
  | inl i => exact R.int'
  | inr x => exact R.str'
theorem RK.val {κ : Type} [DecidableEq κ] {K : PySem.W.Frag} {H : Hp} (k : κ) : ∀ {kvs : List (κ × D)} {ws : List (κ × V)}, RK K H kvs ws → (∀ d, valD kvs k = some d → ∃ v, valV ws k = some v ∧ R K H d v) ∧ (valD kvs k = none → valV ws k = none)
  | _, _, .nil => ⟨fun _ e => (nomatch e), fun _ => rfl⟩
  | p :: kvs, q :: ws, .cons ⟨e, r⟩ t => by
    obtain ⟨h1, h2⟩ := RK.val k t
    by_cases hk : p.1 = k
    · have a1 : valD (p :: kvs) k = some p.2 := by simp [valD, List.find?_cons, hk]
      have a2 : valV (q :: ws) k = some q.2 := valV_pos (by rw [← e]; exact hk)
      rw [a1, a2]
      exact ⟨fun d ed => by cases ed; exact ⟨_, rfl, r⟩, fun z => nomatch z⟩
    · have a1 : valD (p :: kvs) k = valD kvs k := by simp [valD, List.find?_cons, hk]
      have a2 : valV (q :: ws) k = valV ws k := valV_neg (by rw [← e]; exact hk)
      rw [a1, a2]
      exact ⟨h1, h2⟩
/-- a dict that may be read -/
def DK_ (M : Hd) (p : Addr) (kvs : List (Key × D)) : Prop := M p = some (.dK kvs) ∨ ∃ od ws, M p = some (.dKz kvs od ws)
theorem Rep.dk {K : PySem.W.Frag} {H : Hp} {M : Hd} (rep : Rep K H M) {p : Addr} {kvs : List (Key × D)} (h : DK_ M p kvs) : ∃ ws, Rd H p (.dK ws) ∧ RK K H kvs ws := by
  rcases h with h | h
  · obtain ⟨ws, e, r⟩ := rep p _ h
    exact ⟨ws, .inl e, r⟩
  · obtain ⟨od, ws, h⟩ := h
    obtain ⟨e, r⟩ := rep p _ h
    exact ⟨ws, .inr ⟨od, e⟩, r⟩
theorem inV_int {i : Int} : ∀ ns : List Int, inV (.int i) (ns.map V.int) = decide (i ∈ ns)
  | [] => by simp [inV]
  | n :: ns => by
    have ih := inV_int (i := i) ns
    unfold inV at ih ⊢
    rw [List.map_cons, List.any_cons, ih]
    show ((n == i) || decide (i ∈ ns)) = decide (i ∈ n :: ns)
    by_cases e : n = i
    · subst e; simp
    · have e' : ¬ i = n := fun z => e z.symm
      simp [e, e']
theorem inV_str {i : Str} : ∀ ns : List Str, inV (.str i) (ns.map V.str) = decide (i ∈ ns)
  | [] => by simp [inV]
  | n :: ns => by
    have ih := inV_str (i := i) ns
    unfold inV at ih ⊢
    rw [List.map_cons, List.any_cons, ih]
    show ((n == i) || decide (i ∈ ns)) = decide (i ∈ n :: ns)
    by_cases e : n = i
    · subst e; simp
    · have e' : ¬ i = n := fun z => e z.symm
      simp [e, e']
theorem all_flat_int (ns : List Int) : (ns.map V.int).all flatV = true := by simp [flatV]
theorem all_flat_str (ns : List Str) : (ns.map V.str).all flatV = true := by simp [flatV]
/-- membership, told by the flag -/
def dInB (x y : D) (M : Hd) (Q : Bool → Prop) : Prop :=
  (∃ (i : Int) (ns : List Int), x = .int i ∧ Sq M y (ns.map D.int) ∧ Q (decide (i ∈ ns))) ∨
  (∃ (i : Str) (ns : List Str), x = .str i ∧ Sq M y (ns.map D.str) ∧ Q (decide (i ∈ ns))) ∨
  (∃ (p : Addr) (kvs : List (Key × D)) (k : Key), x = kD k ∧ y = .ref p ∧ DK_ M p kvs ∧ Q (valD kvs k).isSome) ∨
  (∃ (p : Addr) (kvs : List (List Key × D)) (ks : List Key), x = .tup (ks.map kD) ∧ y = .ref p ∧ M p = some (.dT kvs) ∧ Q (valD kvs ks).isSome)
theorem R.tupK {K : PySem.W.Frag} {H : Hp} {ks : List Key} {vs : List V} (h : Rs K H (ks.map T3.kD) vs) : vs = ks.map kV := by
  induction ks generalizing vs with
  | nil => exact h.unil
  | cons k ks ih =>
    obtain ⟨v, us, rfl, r, rs⟩ := h.ucons
    rw [r.kD, ih rs]
    rfl
theorem or_dict (hu : X.A.units + 1 < cLine) : OpR X (compareOp .In) (fun x y H Q => ∃ a o, y = .ref a ∧ DGet H a x o ∧ Q (.bl o.isSome) H) := by
  intro pins s σ H x y v u Q I rx ry h
  obtain ⟨a, o, rfl, g, q⟩ := h
  cases ry
  exact d_in hu I g rx fun s' I' => ⟨.bl _, H, I', rfl, q⟩
theorem or_ndict (hu : X.A.units + 1 < cLine) : OpR X (compareOp .NotIn) (fun x y H Q => ∃ a o, y = .ref a ∧ DGet H a x o ∧ Q (.bl (!o.isSome)) H) := by
  intro pins s σ H x y v u Q I rx ry h
  obtain ⟨a, o, rfl, g, q⟩ := h
  cases ry
  exact d_notIn hu I g rx fun s' I' => ⟨.bl _, H, I', rfl, q⟩
theorem isSome_of {κ : Type} [DecidableEq κ] {K : PySem.W.Frag} {H : Hp} {k : κ} {kvs : List (κ × D)} {ws : List (κ × V)} (r : RK K H kvs ws) : (valV ws k).isSome = (valD kvs k).isSome := by
  obtain ⟨h1, h2⟩ := RK.val k r
  cases e : valD kvs k with
  | none => rw [h2 e]; rfl
  | some d => obtain ⟨v, ev, _⟩ := h1 d e; rw [ev]; rfl
theorem od_in (hu : X.A.units + 1 < cLine) : OpD X (compareOp .In) (fun x y M Q => dInB x y M fun b => Q (.bl b) M) := by
  refine ⟨_, op_in_seq.or (or_dict hu), fun H M x y v u Q Qd rep r1 r2 h q => ?_⟩
  rcases h with ⟨i, ns, rfl, sq, h⟩ | ⟨i, ns, rfl, sq, h⟩ | ⟨p, kvs, k, rfl, rfl, d, h⟩ | ⟨p, kvs, ks, rfl, rfl, d, h⟩
  · obtain ⟨p, vs, rfl, s, rs⟩ := rep.sq sq r2
    have ev := rs.ints
    subst ev
    rw [r1.int_]
    exact .inl ⟨p, _, rfl, s, rfl, all_flat_int ns, q _ _ _ M Go.refl rep R.bl' (by rw [if_neg Bool.false_ne_true, inV_int]; exact h)⟩
  · obtain ⟨p, vs, rfl, s, rs⟩ := rep.sq sq r2
    have ev := rs.strs
    subst ev
    rw [r1.str_]
    exact .inl ⟨p, _, rfl, s, rfl, all_flat_str ns, q _ _ _ M Go.refl rep R.bl' (by rw [if_neg Bool.false_ne_true, inV_str]; exact h)⟩
  · obtain ⟨ws, e, r⟩ := rep.dk d
    rw [r1.kD, r2.ref_]
    exact .inr ⟨p, _, rfl, .inl ⟨ws, k, e, rfl, rfl⟩, q _ _ _ M Go.refl rep R.bl' (by rw [isSome_of r]; exact h)⟩
  · obtain ⟨ws, e, r⟩ := rep p _ d
    obtain ⟨a, vs, rfl, s, rs⟩ := r1.untup
    have ev := R.tupK rs
    subst ev
    rw [r2.ref_]
    exact .inr ⟨p, _, rfl, .inr ⟨ws, ks, a, .inl e, rfl, s, rfl⟩, q _ _ _ M Go.refl rep R.bl' (by rw [isSome_of r]; exact h)⟩
theorem od_notin (hu : X.A.units + 1 < cLine) : OpD X (compareOp .NotIn) (fun x y M Q => dInB x y M fun b => Q (.bl (!b)) M) := by
  refine ⟨_, op_notIn_seq.or (or_ndict hu), fun H M x y v u Q Qd rep r1 r2 h q => ?_⟩
  rcases h with ⟨i, ns, rfl, sq, h⟩ | ⟨i, ns, rfl, sq, h⟩ | ⟨p, kvs, k, rfl, rfl, d, h⟩ | ⟨p, kvs, ks, rfl, rfl, d, h⟩
  · obtain ⟨p, vs, rfl, s, rs⟩ := rep.sq sq r2
    have ev := rs.ints
    subst ev
    rw [r1.int_]
    exact .inl ⟨p, _, rfl, s, rfl, all_flat_int ns, q _ _ _ M Go.refl rep R.bl' (by rw [if_pos rfl, inV_int]; exact h)⟩
  · obtain ⟨p, vs, rfl, s, rs⟩ := rep.sq sq r2
    have ev := rs.strs
    subst ev
    rw [r1.str_]
    exact .inl ⟨p, _, rfl, s, rfl, all_flat_str ns, q _ _ _ M Go.refl rep R.bl' (by rw [if_pos rfl, inV_str]; exact h)⟩
  · obtain ⟨ws, e, r⟩ := rep.dk d
    rw [r1.kD, r2.ref_]
    exact .inr ⟨p, _, rfl, .inl ⟨ws, k, e, rfl, rfl⟩, q _ _ _ M Go.refl rep R.bl' (by rw [isSome_of r]; exact h)⟩
  · obtain ⟨ws, e, r⟩ := rep p _ d
    obtain ⟨a, vs, rfl, s, rs⟩ := r1.untup
    have ev := R.tupK rs
    subst ev
    rw [r2.ref_]
    exact .inr ⟨p, _, rfl, .inr ⟨ws, ks, a, .inl e, rfl, s, rfl⟩, q _ _ _ M Go.refl rep R.bl' (by rw [isSome_of r]; exact h)⟩
end
end T3
namespace T3
open PySem PySem.Spec PyProof.Rows L2
/-! ### subscripts -/
section
variable {X : Cx} {B : Am}
structure IxD (X : Cx) (rd : DR2) : Prop where
  ex : ∃ r, IxR X r ∧ SndR2 X.K r rd
variable {a b e o : Expr} {da db de dd : DE} {pos : Pos}
theorem e_ix {rd : DR2} (hr : IxD X rd) (ha : PE3 X B a da) (hb : PE3 X B b db) (hs : PlainIx b := by intro _ _; rfl) : PE3 X B (.Subscript a b pos) (dOp rd da db) := by
  obtain ⟨r, h1, h2⟩ := hr.ex
  obtain ⟨ta, a1, a2⟩ := ha.ex
  obtain ⟨tb, b1, b2⟩ := hb.ex
  exact ⟨_, pe_ix h1 a1 b1 hs, a2.op b2 h2⟩
/-- of a list's, a tuple's, a text's place; of a dict's key -/
def dIxR (p : Addr) (y : D) (M : Hd) (Q : D → Prop) : Prop :=
  (∃ (xs : List D) (i : Int) (v : D), y = .int i ∧ LS M p xs ∧ atI xs i = some v ∧ Q v) ∨
  (∃ (kvs : List (Key × D)) (k : Key) (v : D), y = kD k ∧ DK_ M p kvs ∧ valD kvs k = some v ∧ Q v) ∨
  (∃ (kvs : List (List Key × D)) (ks : List Key) (v : D), y = .tup (ks.map kD) ∧ M p = some (.dT kvs) ∧ valD kvs ks = some v ∧ Q v)
def dIx : DR2 := fun x y M Q => match x, y with
  | .tup xs, .int i => ∃ v, atI xs i = some v ∧ Q v M
  | .str z, .int i => ∃ c, z.length ≤ sizeLine ∧ atI z.cps.toList i = some c ∧ Q (.str ⟨#[c]⟩) M
  | .ref p, y => dIxR p y M fun v => Q v M
  | .kl _ ns, .int i => ∃ v, atI (ns.map D.int) i = some v ∧ Q v M
  | .bt xs, .int i => ∃ v, atI xs i = some v ∧ Q v M
  | _, _ => False
theorem Rs.atI {K : PySem.W.Frag} {H : Hp} {ds : List D} {vs : List V} (h : Rs K H ds vs) {i : Int} {d : D} (e : L2.atI ds i = some d) : ∃ v, L2.atI vs i = some v ∧ R K H d v := by
  unfold L2.atI at e ⊢
  rw [h.len]
  cases q : ixN ds.length i with
  | none => rw [q] at e; cases e
  | some j =>
    rw [q] at e
    exact h.get e
theorem ix_dictR (hu : X.A.units + 1 < cLine) : IxR X (fun x y H Q => ∃ a v, x = .ref a ∧ DGet H a y (some v) ∧ Q v H) := by
  intro value slice pins s σ H x y v u Q I rx ry h hs
  obtain ⟨a, z, rfl, g, q⟩ := h
  cases rx
  exact tail_any (dict_typeIs I g) PySem.F.slot_dict_getitem.lookup (d_getItem hu I g ry fun w' s' I' r' => ⟨z, H, I', r', q⟩) hs
theorem ixd (hu : X.A.units + 1 < cLine) : IxD X dIx := by
  refine ⟨_, ((ix_list.or ix_tup).or ix_str).or (ix_dictR hu), fun H M x y v u Q Qd rep r1 r2 h q => ?_⟩
  cases x with
  | tup xs =>
    cases y with
    | int i =>
      obtain ⟨z, e, h⟩ := h
      obtain ⟨a, vs, rfl, s, rs⟩ := r1.untup
      obtain ⟨w, ew, rw'⟩ := rs.atI e
      exact .inl (.inl (.inr ⟨a, vs, i, w, rfl, r2.int_, SqT.of s, ew, q _ _ _ M Go.refl rep rw' h⟩))
    | _ => exact h.elim
  | bt xs =>
    cases y with
    | int i =>
      obtain ⟨z, e, h⟩ := h
      obtain ⟨a, vs, rfl, s, rs⟩ := r1.unbt'
      obtain ⟨w, ew, rw'⟩ := rs.atI e
      exact .inl (.inl (.inr ⟨a, vs, i, w, rfl, r2.int_, s, ew, q _ _ _ M Go.refl rep rw' h⟩))
    | _ => exact h.elim
  | kl p ns =>
    cases y with
    | int i =>
      obtain ⟨z, e, h⟩ := h
      obtain ⟨rfl, s⟩ := r1.kl_
      obtain ⟨w, ew, rw'⟩ := (Rs.of_ints (K := X.K) (H := H) ns).atI e
      exact .inl (.inl (.inl ⟨p, _, i, w, rfl, r2.int_, s H, ew, q _ _ _ M Go.refl rep rw' h⟩))
    | _ => exact h.elim
  | str z =>
    cases y with
    | int i =>
      obtain ⟨c, hz, e, h⟩ := h
      exact .inl (.inr ⟨z, i, c, r1.str_, r2.int_, hz, e, q _ _ _ M Go.refl rep R.str' h⟩)
    | _ => exact h.elim
  | ref p =>
    have h : dIxR p y M fun v => Qd v M := h
    rcases h with ⟨xs, i, z, rfl, l, e, h⟩ | ⟨kvs, k, z, rfl, d, e, h⟩ | ⟨kvs, ks, z, rfl, d, e, h⟩
    · obtain ⟨vs, s, rs⟩ := rep.ls l
      obtain ⟨w, ew, rw'⟩ := rs.atI e
      exact .inl (.inl (.inl ⟨p, vs, i, w, r1.ref_, r2.int_, s, ew, q _ _ _ M Go.refl rep rw' h⟩))
    · obtain ⟨ws, hd, rk⟩ := rep.dk d
      obtain ⟨w, ew, rw'⟩ := (RK.val k rk).1 _ e
      exact .inr ⟨p, w, r1.ref_, .inl ⟨ws, k, hd, r2.kD, ew.symm⟩, q _ _ _ M Go.refl rep rw' h⟩
    · obtain ⟨ws, hd, rk⟩ := rep p _ d
      obtain ⟨a, vs, rfl, s, rs⟩ := r2.untup
      have ev := R.tupK rs
      subst ev
      obtain ⟨w, ew, rw'⟩ := (RK.val ks rk).1 _ e
      exact .inr ⟨p, w, r1.ref_, .inr ⟨ws, ks, a, .inl hd, rfl, s, ew.symm⟩, q _ _ _ M Go.refl rep rw' h⟩
  | _ => exact h.elim
/-! ### slices -/
abbrev DO := DS → Hd → (Option Int → Hd → Prop) → Prop
def SndO (K : PySem.W.Frag) (B : Am) (t : TO) (d : DO) : Prop := ∀ (σ : L2.St) (H : Hp) (δ : DS) (M : Hd) (Q : Option Int → Hp → Prop) (Qd : Option Int → Hd → Prop), Sl K H σ δ → Rep K H M → B.B H M → d δ M Qd →
  (∀ o H' M', Go H M H' M' → Rep K H' M' → Qd o M' → Q o H') → t σ H Q
structure PO3 (X : Cx) (B : Am) (e : Option Expr) (d : DO) : Prop where
  ex : ∃ t, PO X e t ∧ SndO X.K B t d
def dNoPart : DO := fun _ M Q => Q none M
def dPart (de : DE) : DO := fun δ M Q => de δ M fun x M1 => match x with
  | .int i => Q (some i) M1
  | _ => False
theorem o_none : PO3 X B none dNoPart := ⟨_, po_none, fun σ H δ M Q Qd sl rep bb h q => q _ _ _ Go.refl rep h⟩
theorem o_some (h : PE3 X B e de) : PO3 X B (some e) (dPart de) := by
  obtain ⟨t, h1, h2⟩ := h.ex
  refine ⟨_, po_some h1, fun σ H δ M Q Qd sl rep bb h q => h2 σ H δ M _ _ sl rep bb h fun v H1 x M1 g rep1 r h1 => ?_⟩
  cases x with
  | int i => exact ⟨i, r.int_, q _ _ _ g rep1 h1⟩
  | _ => exact h1.elim
def cutD (xs : List D) (lo hi : Option Int) : List D := (xs.drop (HT.sIx xs.length 0 lo)).take (HT.sIx xs.length xs.length hi - HT.sIx xs.length 0 lo)
theorem Rs.cut {K : PySem.W.Frag} {H : Hp} {ds : List D} {vs : List V} (h : Rs K H ds vs) (lo hi : Option Int) : Rs K H (cutD ds lo hi) (cutV vs lo hi) := by
  unfold cutD cutV
  rw [h.len]
  exact (h.drop _).take _
theorem cutD_nat (xs : List D) (a b : Nat) : cutD xs (some a) (some b) = (xs.drop (min a xs.length)).take (min b xs.length - min a xs.length) := by
  unfold cutD; rw [HT.sIx_nat, HT.sIx_nat]
theorem cutD_to (xs : List D) (b : Nat) : cutD xs none (some b) = xs.take b := by
  unfold cutD
  rw [HT.sIx_nat, HT.sIx_none, List.drop_zero, Nat.sub_zero]
  by_cases h : b ≤ xs.length
  · rw [Nat.min_eq_left h]
  · rw [Nat.min_eq_right (by omega), List.take_length, List.take_of_length_le (by omega)]
theorem cutD_from (xs : List D) (a : Nat) : cutD xs (some a) none = xs.drop a := by
  unfold cutD
  rw [HT.sIx_nat, HT.sIx_none]
  by_cases h : a ≤ xs.length
  · rw [Nat.min_eq_left h, List.take_of_length_le (by rw [List.length_drop]; exact Nat.le_refl _)]
  · rw [Nat.min_eq_right (by omega), List.drop_length, List.drop_of_length_le (by omega)]
    simp
theorem cutD_all (xs : List D) : cutD xs none none = xs := by
  unfold cutD
  rw [HT.sIx_none, HT.sIx_none, List.drop_zero, Nat.sub_zero, List.take_length]
abbrev DSl := D → Option Int → Option Int → Hd → DK → Prop
structure SlD (X : Cx) (rd : DSl) : Prop where
  ex : ∃ r, SlR X r ∧ ∀ (H : Hp) (M : Hd) (x : D) (v : V) (lo hi : Option Int) (Q : VK) (Qd : DK), Rep X.K H M → R X.K H x v → rd x lo hi M Qd →
    (∀ v' H' x' M', Go H M H' M' → Rep X.K H' M' → R X.K H' x' v' → Qd x' M' → Q v' H') → r v lo hi H Q
def dSl (rd : DSl) (de : DE) (dl dh : DO) : DE := fun δ M Q => de δ M fun x M1 => dl δ M1 fun l M2 => dh δ M2 fun u M3 => rd x l u M3 Q
def dCut : DSl := fun x lo hi M Q => match x with
  | .tup xs => Q (.tup (cutD xs lo hi)) M
  | .str z => z.length ≤ sizeLine ∧ Q (.str (cutS z lo hi)) M
  | .ref p => ∃ xs, LS M p xs ∧ ∀ q, M q = none → Q (.ref q) (up M q (.lst (cutD xs lo hi)))
  | .kl _ ns => ∀ q, M q = none → Q (.ref q) (up M q (.lst (cutD (ns.map D.int) lo hi)))
  | .bt xs => Q (.tup (cutD xs lo hi)) M ∧ (cutD xs lo hi = xs → Q (.bt xs) M)
  | _ => False
theorem slD : SlD X dCut := by
  refine ⟨_, (sl_list.or sl_tupA).or sl_str, fun H M x v lo hi Q Qd rep r1 h q => ?_⟩
  cases x with
  | tup xs =>
    obtain ⟨a, vs, rfl, s, rs⟩ := r1.untup
    refine .inl (.inr ⟨a, vs, rfl, SqT.of s, fun e => ?_, fun _ p hp => ?_⟩)
    · have hc : cutD xs lo hi = xs := by
        unfold cutD
        rw [rs.len] at e
        rw [e.1, e.2, List.drop_zero, Nat.sub_zero, List.take_length]
      have h : Qd (.tup (cutD xs lo hi)) M := h
      rw [hc] at h
      exact q _ _ _ M Go.refl rep r1 h
    · obtain ⟨g, rep', r'⟩ := rep.newT hp (rs.cut lo hi)
      exact q _ _ _ M g rep' r' h
  | bt xs =>
    obtain ⟨a, vs, rfl, s, rs⟩ := r1.unbt'
    refine .inl (.inr ⟨a, vs, rfl, s, fun e => ?_, fun _ p hp => ?_⟩)
    · have hc : cutD xs lo hi = xs := by
        unfold cutD
        rw [rs.len] at e
        rw [e.1, e.2, List.drop_zero, Nat.sub_zero, List.take_length]
      exact q _ _ _ M Go.refl rep r1 (h.2 hc)
    · obtain ⟨g, rep', r'⟩ := rep.newT hp (rs.cut lo hi)
      exact q _ _ _ M g rep' r' h.1
  | str z => exact .inr ⟨z, r1.str_, h.1, q _ _ _ M Go.refl rep R.str' h.2⟩
  | kl p ns =>
    obtain ⟨rfl, s⟩ := r1.kl_
    refine .inl (.inl ⟨p, _, rfl, s H, fun q' hq => ?_⟩)
    obtain ⟨g, rep'⟩ := rep.newL hq ((Rs.of_ints (K := X.K) (H := H) ns).cut lo hi)
    exact q _ _ _ _ g rep' R.ref' (h q' (rep.free hq))
  | ref p =>
    obtain ⟨xs, l, h⟩ := h
    obtain ⟨vs, s, rs⟩ := rep.ls l
    refine .inl (.inl ⟨p, vs, r1.ref_, s, fun p' hp => ?_⟩)
    obtain ⟨g, rep'⟩ := rep.newL hp (rs.cut lo hi)
    exact q _ _ _ _ g rep' R.ref' (h p' (rep.free hp))
  | _ => exact h.elim
theorem e_slice {lo hi : Option Expr} {dl dh : DO} {p2 : Pos} {rd : DSl} (hr : SlD X rd) (he : PE3 X B e de) (hl : PO3 X B lo dl) (hh : PO3 X B hi dh) : PE3 X B (.Subscript e (.Slice lo hi none p2) pos) (dSl rd de dl dh) := by
  obtain ⟨r, a1, a2⟩ := hr.ex
  obtain ⟨t, h1, h2⟩ := he.ex
  obtain ⟨tl, l1, l2⟩ := hl.ex
  obtain ⟨th, u1, u2⟩ := hh.ex
  refine ⟨_, pe_slice a1 h1 l1 u1, fun σ H δ M Q Qd sl rep bb h q => h2 σ H δ M _ _ sl rep bb h fun v H1 x M1 g1 rep1 r1 h => ?_⟩
  have sl1 := sl.mono (rep.tx g1)
  have bb1 := B.pres _ _ _ _ g1 bb
  refine l2 σ H1 δ M1 _ _ sl1 rep1 bb1 h fun o H2 M2 g2 rep2 h => ?_
  refine u2 σ H2 δ M2 _ _ (sl1.mono (rep1.tx g2)) rep2 (B.pres _ _ _ _ g2 bb1) h fun o' H3 M3 g3 rep3 h => ?_
  exact a2 H3 M3 x v o o' Q Qd rep3 ((r1.mono (rep1.tx g2)).mono (rep2.tx g3)) h fun v' H' x' M' g' => q v' H' x' M' (((g1.trans g2).trans g3).trans g')
/-! ### built-in calls -/
theorem uneg : ∀ {i : Int}, True := trivial
def dNeg (da : DE) : DE := fun δ M Q => da δ M fun x M1 => match x with
  | .int i => Q (.int (-i)) M1
  | _ => False
theorem e_neg (ha : PE3 X B a da) : PE3 X B (.UnaryOp .USub a pos) (dNeg da) := by
  obtain ⟨t, h1, h2⟩ := ha.ex
  refine ⟨_, pe_un un_neg h1, fun σ H δ M Q Qd sl rep bb h q => h2 σ H δ M _ _ sl rep bb h fun v H1 x M1 g rep1 r h1 => ?_⟩
  cases x with
  | int i => exact ⟨i, r.int_, q _ _ _ _ g rep1 R.int' h1⟩
  | _ => exact h1.elim
theorem CallD.or {f : Value} {r r' : DRL} (h : CallD X f r) (h' : CallD X f r') : CallD X f (fun xs M Q => r xs M Q ∨ r' xs M Q) := by
  obtain ⟨a, a1, a2⟩ := h.ex
  obtain ⟨b, b1, b2⟩ := h'.ex
  refine ⟨_, a1.or b1, fun H M xs vs Q Qd rep rs h q => ?_⟩
  rcases h with h | h
  · exact .inl (a2 H M xs vs Q Qd rep rs h q)
  · exact .inr (b2 H M xs vs Q Qd rep rs h q)
/-- one argument -/
def d1 (f : D → Hd → DK → Prop) : DRL := fun xs M Q => match xs with
  | [x] => f x M Q
  | _ => False
theorem d1_inv {f : D → Hd → DK → Prop} {xs : List D} {M : Hd} {Q : DK} (h : d1 f xs M Q) : ∃ x, xs = [x] ∧ f x M Q := by
  match xs, h with
  | [x], h => exact ⟨x, rfl, h⟩
theorem Rs.one_ {K : PySem.W.Frag} {H : Hp} {d : D} {vs : List V} (h : Rs K H [d] vs) : ∃ v, vs = [v] ∧ R K H d v := by
  obtain ⟨v, us, rfl, r, rs⟩ := h.ucons
  rw [rs.unil]
  exact ⟨v, rfl, r⟩
theorem Rs.two_ {K : PySem.W.Frag} {H : Hp} {d e : D} {vs : List V} (h : Rs K H [d, e] vs) : ∃ v u, vs = [v, u] ∧ R K H d v ∧ R K H e u := by
  obtain ⟨v, us, rfl, r, rs⟩ := h.ucons
  obtain ⟨u, rfl, r2⟩ := rs.one_
  exact ⟨v, u, rfl, r, r2⟩
def dLen : D → Hd → DK → Prop := fun x M Q => match x with
  | .tup xs => Q (.int xs.length) M
  | .str z => z.length ≤ sizeLine ∧ Q (.int z.length) M
  | .kl _ ns => Q (.int ns.length) M
  | .bt xs => Q (.int xs.length) M
  | .ref p => (∃ xs, LS M p xs ∧ Q (.int xs.length) M) ∨ (∃ kvs, DK_ M p kvs ∧ Q (.int kvs.length) M)
  | _ => False
theorem RK.len {κ : Type} {K : PySem.W.Frag} {H : Hp} : ∀ {kvs : List (κ × D)} {ws : List (κ × V)}, RK K H kvs ws → ws.length = kvs.length
  | _, _, .nil => rfl
  | _, _, .cons _ t => by simp [RK.len t]
theorem cd_len : CallD X (.builtin "len") (d1 dLen) := by
  have cd : CallR X (.builtin "len") (fun xs H Q => ∃ a kvs, xs = [.ref a] ∧ Rd H a (.dK kvs) ∧ Q (.int kvs.length) H) := by
    intro pins s σ H xs us Q I r h
    obtain ⟨a, kvs, rfl, e, q⟩ := h
    rw [Vals.ref1 r]
    exact d_len I e fun t s' I' => ⟨.int kvs.length, H, I', ⟨t, rfl⟩, q⟩
  refine ⟨_, (call_len_seq.or call_len_str).or cd, fun H M xs vs Q Qd rep rs h q => ?_⟩
  obtain ⟨x, rfl, h⟩ := d1_inv h
  obtain ⟨v, rfl, r⟩ := rs.one_
  cases x with
  | tup xs =>
    obtain ⟨a, us, rfl, s, rs'⟩ := r.untup
    exact .inl (.inl ⟨a, us, rfl, .inr (SqT.of s), by rw [rs'.len]; exact q _ _ _ M Go.refl rep R.int' h⟩)
  | bt xs =>
    obtain ⟨a, us, rfl, s, rs'⟩ := r.unbt'
    exact .inl (.inl ⟨a, us, rfl, .inr s, by rw [rs'.len]; exact q _ _ _ M Go.refl rep R.int' h⟩)
  | kl p ns =>
    obtain ⟨rfl, s⟩ := r.kl_
    exact .inl (.inl ⟨p, _, rfl, .inl (s H), by rw [List.length_map]; exact q _ _ _ M Go.refl rep R.int' h⟩)
  | str z => exact .inl (.inr ⟨z, by rw [r.str_], h.1, q _ _ _ M Go.refl rep R.int' h.2⟩)
  | ref p =>
    rw [r.ref_]
    rcases h with ⟨xs, l, h⟩ | ⟨kvs, d, h⟩
    · obtain ⟨us, s, rs'⟩ := rep.ls l
      exact .inl (.inl ⟨p, us, rfl, .inl s, by rw [rs'.len]; exact q _ _ _ M Go.refl rep R.int' h⟩)
    · obtain ⟨ws, e, rk⟩ := rep.dk d
      exact .inr ⟨p, ws, rfl, e, by rw [rk.len]; exact q _ _ _ M Go.refl rep R.int' h⟩
  | _ => exact h.elim
def dTupOf : D → Hd → DK → Prop := fun x M Q => match x with
  | .tup xs => Q (.tup xs) M
  | .ref p => ∃ xs, LS M p xs ∧ Q (.tup xs) M
  | _ => False
theorem cd_tuple : CallD X (.type "tuple") (d1 dTupOf) := by
  refine ⟨_, call_tuple_of, fun H M xs vs Q Qd rep rs h q => ?_⟩
  obtain ⟨x, rfl, h⟩ := d1_inv h
  obtain ⟨v, rfl, r⟩ := rs.one_
  cases x with
  | tup xs =>
    obtain ⟨a, us, e, s, rs'⟩ := id r.untup
    subst e
    exact ⟨a, us, rfl, .inr ⟨SqT.of s, q _ _ _ M Go.refl rep r h⟩⟩
  | ref p =>
    rw [r.ref_]
    obtain ⟨xs, l, h⟩ := h
    obtain ⟨us, s, rs'⟩ := rep.ls l
    refine ⟨p, us, rfl, .inl ⟨s, fun l hl => ?_⟩⟩
    obtain ⟨g, rep', r'⟩ := rep.newT hl rs'
    exact q _ _ _ M g rep' r' h
  | _ => exact h.elim
def dListOf : D → Hd → DK → Prop := fun x M Q => match x with
  | .tup xs => ∀ q, M q = none → Q (.ref q) (up M q (.lst xs))
  | .kl _ ns => ∀ q, M q = none → Q (.ref q) (up M q (.lst (ns.map D.int)))
  | .bt xs => ∀ q, M q = none → Q (.ref q) (up M q (.lst xs))
  | .ref p => (∃ xs, LS M p xs ∧ ∀ q, M q = none → Q (.ref q) (up M q (.lst xs))) ∨ (∃ kvs, DK_ M p kvs ∧ ∀ q, M q = none → Q (.ref q) (up M q (.lst (kvs.map fun kv => kD kv.1))))
  | _ => False
theorem RK.keys {K : PySem.W.Frag} {H : Hp} : ∀ {kvs : List (Key × D)} {ws : List (Key × V)}, RK K H kvs ws → Rs K H (kvs.map fun kv => T3.kD kv.1) (ws.map fun kv => kV kv.1)
  | _, _, .nil => Rs.nil
  | _, _, .cons r t => .cons (by have e := r.1; show R K H (T3.kD _) (kV _); rw [e]; exact R.of_kD _) (RK.keys t)
theorem cd_list (hc : X.calm = true) : CallD X (.type "list") (d1 dListOf) := by
  refine ⟨_, call_list_of.or (call_listD hc), fun H M xs vs Q Qd rep rs h q => ?_⟩
  obtain ⟨x, rfl, h⟩ := d1_inv h
  obtain ⟨v, rfl, r⟩ := rs.one_
  cases x with
  | tup xs =>
    obtain ⟨a, us, rfl, s, rs'⟩ := r.untup
    refine .inl ⟨a, us, rfl, .inr (SqT.of s), fun l hl => ?_⟩
    obtain ⟨g, rep'⟩ := rep.newL hl rs'
    exact q _ _ _ _ g rep' R.ref' (h l (rep.free hl))
  | bt xs =>
    obtain ⟨a, us, rfl, s, rs'⟩ := r.unbt'
    refine .inl ⟨a, us, rfl, .inr s, fun l hl => ?_⟩
    obtain ⟨g, rep'⟩ := rep.newL hl rs'
    exact q _ _ _ _ g rep' R.ref' (h l (rep.free hl))
  | kl p ns =>
    obtain ⟨rfl, s⟩ := r.kl_
    refine .inl ⟨p, _, rfl, .inl (s H), fun l hl => ?_⟩
    obtain ⟨g, rep'⟩ := rep.newL hl (Rs.of_ints ns)
    exact q _ _ _ _ g rep' R.ref' (h l (rep.free hl))
  | ref p =>
    rw [r.ref_]
    rcases h with ⟨xs, l, h⟩ | ⟨kvs, d, h⟩
    · obtain ⟨us, s, rs'⟩ := rep.ls l
      refine .inl ⟨p, us, rfl, .inl s, fun l hl => ?_⟩
      obtain ⟨g, rep'⟩ := rep.newL hl rs'
      exact q _ _ _ _ g rep' R.ref' (h l (rep.free hl))
    · obtain ⟨ws, e, rk⟩ := rep.dk d
      refine .inr ⟨p, ws, rfl, e, fun l hl => ?_⟩
      obtain ⟨g, rep'⟩ := rep.newL hl rk.keys
      exact q _ _ _ _ g rep' R.ref' (h l (rep.free hl))
  | _ => exact h.elim
/-- sorted, of ints -/
def srt (ns : List Int) : List Int := ns.mergeSort fun a b => decide (a ≤ b)
theorem srt_perm (ns : List Int) : (srt ns).Perm ns := List.mergeSort_perm _ _
theorem srt_sorted (ns : List Int) : (srt ns).Pairwise (· ≤ ·) := by
  have h := List.pairwise_mergeSort (le := fun a b : Int => decide (a ≤ b)) (fun a b c h1 h2 => by simp at *; omega) (fun a b => by simp; omega) ns
  exact h.imp fun h => of_decide_eq_true h
theorem srt_unique {ns ms : List Int} (p : ms.Perm ns) (s : ms.Pairwise (· ≤ ·)) : ms = srt ns :=
  List.Perm.eq_of_pairwise (fun a b _ _ h1 h2 => Int.le_antisymm h1 h2) s (srt_sorted ns) (p.trans (srt_perm ns).symm)
def dSorted : D → Hd → DK → Prop := fun x M Q => match x with
  | .ref p => ∃ ns : List Int, LS M p (ns.map D.int) ∧ ∀ q, M q = none → Q (.ref q) (up M q (.lst ((srt ns).map D.int)))
  | _ => False
theorem cd_sorted : CallD X (.builtin "sorted") (d1 dSorted) := by
  refine ⟨_, cr_sortedI, fun H M xs vs Q Qd rep rs h q => ?_⟩
  obtain ⟨x, rfl, h⟩ := d1_inv h
  obtain ⟨v, rfl, r⟩ := rs.one_
  cases x with
  | ref p =>
    rw [r.ref_]
    obtain ⟨ns, l, h⟩ := h
    obtain ⟨us, s, rs'⟩ := rep.ls l
    have e := rs'.ints
    subst e
    refine ⟨p, ns, rfl, s, fun ns' p' h1 h2 hp => ?_⟩
    have e := srt_unique h1 h2
    subst e
    obtain ⟨g, rep'⟩ := rep.newL hp (Rs.of_ints (srt ns))
    exact q _ _ _ _ g rep' R.ref' (h p' (rep.free hp))
  | _ => exact h.elim
/-- sum of a tuple of ints -/
def rSumT (K : PySem.W.Frag) : List V → Hp → VK → Prop := fun vs H Q => ∃ (a : Addr) (ns : List Int), vs = [V.ref a] ∧ SqT K H a (ns.map V.int) ∧ Q (.int ns.sum) H
theorem cr_sumT (hc : X.calm = true) : CallR X (.builtin "sum") (rSumT X.K) := by
  intro pins s σ H vs us Q I r h
  obtain ⟨a, ns, rfl, hs, q⟩ := h
  obtain ⟨its, rv, hl, _⟩ := I.tuple hs
  rw [Vals.ref1 r]
  have hi := rv.ints
  obtain ⟨xs, hx⟩ := hi.allInts.items
  have hn : numsOf its.toArray.toList = ns := by rw [show its.toArray.toList = its from rfl, hi.numsOf]
  have hl2 : s.heap.IsTuple a its.toArray := hl
  rw [hx] at hl2 hn
  rw [nums_intItems] at hn
  refine PySem.W.ktm_sumG (I.ok.hd hc) hl2 fun h' tk t' hk => ?_
  rw [preSum_eq, List.take_of_length_le (by simp), hn]
  exact ⟨.int _, H, I.kept hk, ⟨_, rfl⟩, q⟩
def dSum : D → Hd → DK → Prop := fun x M Q => match x with
  | .ref p => ∃ ns : List Int, LS M p (ns.map D.int) ∧ Q (.int ns.sum) M
  | .tup xs => ∃ ns : List Int, xs = ns.map D.int ∧ Q (.int ns.sum) M
  | _ => False
theorem cd_sum (hc : X.calm = true) : CallD X (.builtin "sum") (d1 dSum) := by
  refine ⟨_, (cr_sum hc).or (cr_sumT hc), fun H M xs vs Q Qd rep rs h q => ?_⟩
  obtain ⟨x, rfl, h⟩ := d1_inv h
  obtain ⟨v, rfl, r⟩ := rs.one_
  cases x with
  | ref p =>
    rw [r.ref_]
    obtain ⟨ns, l, h⟩ := h
    obtain ⟨us, s, rs'⟩ := rep.ls l
    have e := rs'.ints
    subst e
    exact .inl ⟨p, ns, rfl, s, q _ _ _ M Go.refl rep R.int' h⟩
  | tup xs =>
    obtain ⟨ns, e0, hq⟩ := h
    obtain ⟨a, us, rfl, s, rs'⟩ := r.untup
    rw [e0] at rs'
    have e := rs'.ints
    subst e
    exact .inr ⟨a, ns, rfl, SqT.of s, q _ _ _ M Go.refl rep R.int' hq⟩
  | _ => exact h.elim
def dAll : D → Hd → DK → Prop := fun x M Q => match x with
  | .ref p => ∃ bs : List Bool, LS M p (bs.map D.bl) ∧ Q (.bl (bs.all id)) M
  | _ => False
theorem cd_all (hc : X.calm = true) : CallD X (.builtin "all") (d1 dAll) := by
  refine ⟨_, cr_all hc, fun H M xs vs Q Qd rep rs h q => ?_⟩
  obtain ⟨x, rfl, h⟩ := d1_inv h
  obtain ⟨v, rfl, r⟩ := rs.one_
  cases x with
  | ref p =>
    rw [r.ref_]
    obtain ⟨ns, l, h⟩ := h
    obtain ⟨us, s, rs'⟩ := rep.ls l
    have e := rs'.bls
    subst e
    exact ⟨p, ns, rfl, s, q _ _ _ M Go.refl rep R.bl' h⟩
  | _ => exact h.elim
def dAny : D → Hd → DK → Prop := fun x M Q => match x with
  | .ref p => ∃ bs : List Bool, LS M p (bs.map D.bl) ∧ Q (.bl (bs.any id)) M
  | _ => False
theorem cd_any (hc : X.calm = true) : CallD X (.builtin "any") (d1 dAny) := by
  refine ⟨_, cr_any hc, fun H M xs vs Q Qd rep rs h q => ?_⟩
  obtain ⟨x, rfl, h⟩ := d1_inv h
  obtain ⟨v, rfl, r⟩ := rs.one_
  cases x with
  | ref p =>
    rw [r.ref_]
    obtain ⟨ns, l, h⟩ := h
    obtain ⟨us, s, rs'⟩ := rep.ls l
    have e := rs'.bls
    subst e
    exact ⟨p, ns, rfl, s, q _ _ _ M Go.refl rep R.bl' h⟩
  | _ => exact h.elim
def dInt : D → Hd → DK → Prop := fun x M Q => match x with
  | .int i => Q (.int i) M
  | .bl k => Q (.int (if k then 1 else 0)) M
  | _ => False
theorem cd_int : CallD X (.type "int") (d1 dInt) := by
  refine ⟨_, call_int1, fun H M xs vs Q Qd rep rs h q => ?_⟩
  obtain ⟨x, rfl, h⟩ := d1_inv h
  obtain ⟨v, rfl, r⟩ := rs.one_
  cases x with
  | int i => exact .inl ⟨i, by rw [r.int_], q _ _ _ M Go.refl rep R.int' h⟩
  | bl k => exact .inr ⟨k, by rw [r.bl_], q _ _ _ M Go.refl rep R.int' h⟩
  | _ => exact h.elim
def dAbs : D → Hd → DK → Prop := fun x M Q => match x with
  | .int i => Q (.int (if i < 0 then -i else i)) M
  | _ => False
theorem cd_abs : CallD X (.builtin "abs") (d1 dAbs) := by
  refine ⟨_, call_abs, fun H M xs vs Q Qd rep rs h q => ?_⟩
  obtain ⟨x, rfl, h⟩ := d1_inv h
  obtain ⟨v, rfl, r⟩ := rs.one_
  cases x with
  | int i => exact ⟨i, by rw [r.int_], q _ _ _ M Go.refl rep R.int' h⟩
  | _ => exact h.elim
/-- max, min: of two ints, of a list of ints -/
def dMax : DRL := fun xs M Q => match xs with
  | [.int i, .int j] => Q (.int (max i j)) M
  | [.ref p] => ∃ ns : List Int, LS M p (ns.map D.int) ∧ 0 < ns.length ∧ ∀ m, m ∈ ns → (∀ y, y ∈ ns → y ≤ m) → Q (.int m) M
  | _ => False
def dMin : DRL := fun xs M Q => match xs with
  | [.int i, .int j] => Q (.int (min i j)) M
  | [.ref p] => ∃ ns : List Int, LS M p (ns.map D.int) ∧ 0 < ns.length ∧ ∀ m, m ∈ ns → (∀ y, y ∈ ns → m ≤ y) → Q (.int m) M
  | _ => False
theorem cd_max (hc : X.calm = true) : CallD X (.builtin "max") dMax := by
  refine ⟨_, (call_max2 hc).or (cr_max hc), fun H M xs vs Q Qd rep rs h q => ?_⟩
  unfold dMax at h
  split at h
  · rename_i i j
    obtain ⟨v, u, rfl, r1, r2⟩ := rs.two_
    have e : (if j > i then j else i) = max i j := by split <;> omega
    exact .inl ⟨i, j, by rw [r1.int_, r2.int_], by rw [e]; exact q _ _ _ M Go.refl rep R.int' h⟩
  · obtain ⟨v, rfl, r⟩ := rs.one_
    obtain ⟨ns, l, h0, h⟩ := h
    obtain ⟨us, s, rs'⟩ := rep.ls l
    have e := rs'.ints
    subst e
    exact .inr ⟨_, ns, by rw [r.ref_], s, h0, fun m h1 h2 => q _ _ _ M Go.refl rep R.int' (h m h1 h2)⟩
  · exact h.elim
theorem cd_min (hc : X.calm = true) : CallD X (.builtin "min") dMin := by
  refine ⟨_, (call_min2 hc).or (cr_min hc), fun H M xs vs Q Qd rep rs h q => ?_⟩
  unfold dMin at h
  split at h
  · rename_i i j
    obtain ⟨v, u, rfl, r1, r2⟩ := rs.two_
    have e : (if j < i then j else i) = min i j := by split <;> omega
    exact .inl ⟨i, j, by rw [r1.int_, r2.int_], by rw [e]; exact q _ _ _ M Go.refl rep R.int' h⟩
  · obtain ⟨v, rfl, r⟩ := rs.one_
    obtain ⟨ns, l, h0, h⟩ := h
    obtain ⟨us, s, rs'⟩ := rep.ls l
    have e := rs'.ints
    subst e
    exact .inr ⟨_, ns, by rw [r.ref_], s, h0, fun m h1 h2 => q _ _ _ M Go.refl rep R.int' (h m h1 h2)⟩
  · exact h.elim
/-! ### isinstance -/
def subT (t n : String) : Bool := t == n || (t == "bool" && n == "int")
theorem kit_sub : ∀ t ∈ ["int", "bool", "str", "tuple", "list", "dict", "NoneType"], ∀ n ∈ ["int", "bool", "str", "tuple", "list", "dict"], kitB t n = some (subT t n) := by decide +kernel
def tyD : D → Option String
  | .non => some "NoneType"
  | .bl _ => some "bool"
  | .int _ => some "int"
  | .str _ => some "str"
  | .tup _ => some "tuple"
  | _ => none
def isT (n : String) : D → Hd → DK → Prop := fun x M Q => match x with
  | .non => Q (.bl false) M
  | .bl _ => Q (.bl (subT "bool" n)) M
  | .int _ => Q (.bl (subT "int" n)) M
  | .str _ => Q (.bl (subT "str" n)) M
  | .tup _ => Q (.bl (subT "tuple" n)) M
  | .bt _ => Q (.bl (subT "tuple" n)) M
  | .ref p => (∃ xs, M p = some (.lst xs) ∧ Q (.bl (subT "list" n)) M) ∨ (∃ kvs, M p = some (.dK kvs) ∧ Q (.bl (subT "dict" n)) M)
  | _ => False
def dIsi : DRL := fun xs M Q => match xs with
  | [x, .ty n] => n ∈ ["int", "bool", "str", "tuple", "list", "dict"] ∧ isT n x M Q
  | _ => False
theorem cd_isi : CallD X (.builtin "isinstance") dIsi := by
  refine ⟨_, call_isi, fun H M xs vs Q Qd rep rs h q => ?_⟩
  unfold dIsi at h
  split at h
  · rename_i x n
    obtain ⟨v, u, rfl, r1, r2⟩ := rs.two_
    obtain ⟨hn, h⟩ := h
    have e2 := r2.ty_
    subst e2
    have fin : ∀ t b, t ∈ ["int", "bool", "str", "tuple", "list", "dict", "NoneType"] → b = subT t n → TyX X.K H v (.type t) → Qd (.bl b) M → rIsi X.K [v, .ty n] H Q := fun t b ht hb ty hq =>
      ⟨v, .ty n, .type t, .type n, b, rfl, .ty n, ty, kit_ty (by rw [hb]; exact kit_sub t ht n hn), q _ _ _ M Go.refl rep R.bl' hq⟩
    cases x with
    | non =>
      have : subT "NoneType" n = false := by
        have : ∀ n ∈ ["int", "bool", "str", "tuple", "list", "dict"], subT "NoneType" n = false := by decide
        exact this n hn
      exact fin "NoneType" false (by decide) this.symm (by rw [r1.non_]; exact .base .non) h
    | bl b => exact fin "bool" _ (by decide) rfl (by rw [r1.bl_]; exact .base (.bl b)) h
    | int b => exact fin "int" _ (by decide) rfl (by rw [r1.int_]; exact .base (.int b)) h
    | str b => exact fin "str" _ (by decide) rfl (by rw [r1.str_]; exact .base (.str b)) h
    | tup xs =>
      obtain ⟨a, us, e, s, rs'⟩ := r1.untup
      exact fin "tuple" _ (by decide) rfl (by rw [e]; exact .base (.tup s)) h
    | bt xs =>
      obtain ⟨a, ob, us, e, s, _, rs'⟩ := r1.unbt
      exact fin "tuple" _ (by decide) rfl (by rw [e]; exact .fTuple s) h
    | ref p =>
      have e := r1.ref_
      rcases h with ⟨xs, l, h⟩ | ⟨kvs, d, h⟩
      · obtain ⟨us, s, rs'⟩ := rep.lst l
        exact fin "list" _ (by decide) rfl (by rw [e]; exact .base (.lst s)) h
      · obtain ⟨ws, s, rk⟩ := rep p _ d
        exact fin "dict" _ (by decide) rfl (by rw [e]; exact .base (.dK s)) h
    | ty n => exact h.elim
    | kl _ _ => exact h.elim
  · exact h.elim
end
end T3
namespace T3
open PySem PySem.Spec PyProof.Rows L2
/-! ### blocks -/
section
variable {X : Cx} {B : Am} {st : Stmt} {rest : List Stmt} {t u : DSt} {e : Expr} {de : DE} {pos : Pos}
def dNext : DSt := fun D δ M => D.nx δ M
def dSeq (t u : DSt) : DSt := fun D δ M => t { D with nx := u D } δ M
theorem sndSeq {K : PySem.W.Frag} {a b : TS} (h : SndS K B a t) (k : SndS K B b u) : SndS K B (tSeq a b) (dSeq t u) := fun σ H δ M D Dd sl rep bb q eo =>
  h σ H δ M { D with nx := b D } { Dd with nx := u Dd } sl rep bb q ⟨fun σ' H' δ' M' g sl' rep' q' => k σ' H' δ' M' D Dd sl' rep' (B.pres _ _ _ _ g bb) q' (eo.mono g), eo.rt, eo.bk, eo.ct⟩
theorem b_nil : PB3 X B [] dNext := ⟨_, pss_nil, fun σ H δ M D Dd sl rep bb q eo => eo.nx _ _ _ _ Go.refl sl rep q⟩
theorem b_cons (h : PS3 X B st t) (k : PB3 X B rest u) : PB3 X B (st :: rest) (dSeq t u) := by
  obtain ⟨a, h1, h2⟩ := h.ex
  obtain ⟨b, k1, k2⟩ := k.ex
  exact ⟨_, pss_cons h1 k1, sndSeq h2 k2⟩
theorem b_one (h : PS3 X B st t) : PB3 X B [st] t := by
  obtain ⟨a, h1, h2⟩ := h.ex
  exact ⟨_, pss_one h1, h2⟩
/-- the ways behind the first joined by a word -/
def dCutS (t u : DSt) : DSt := fun D δ M => ∃ W : DS → Hd → Prop, t { D with nx := W } δ M ∧ ∀ δ' M', W δ' M' → u D δ' M'
theorem b_cut (h : PS3 X B st t) (k : PB3 X B rest u) : PB3 X B (st :: rest) (dCutS t u) := by
  obtain ⟨a, h1, h2⟩ := h.ex
  obtain ⟨b, k1, k2⟩ := k.ex
  refine ⟨_, pss_cons h1 k1, fun σ H δ M D Dd sl rep bb ⟨W, q1, q2⟩ eo => ?_⟩
  exact h2 σ H δ M { D with nx := b D } { Dd with nx := W } sl rep bb q1 ⟨fun σ' H' δ' M' g sl' rep' q' => k2 σ' H' δ' M' D Dd sl' rep' (B.pres _ _ _ _ g bb) (q2 _ _ q') (eo.mono g), eo.rt, eo.bk, eo.ct⟩
def dBrk : DSt := fun D δ M => D.bk δ M
def dCont : DSt := fun D δ M => D.ct δ M
theorem s_pass : PS3 X B (.Pass pos) dNext := ⟨_, ps_pass, fun σ H δ M D Dd sl rep bb q eo => eo.nx _ _ _ _ Go.refl sl rep q⟩
theorem s_brk : PS3 X B (.Break pos) dBrk := ⟨_, ps_break, fun σ H δ M D Dd sl rep bb q eo => eo.bk _ _ _ _ Go.refl sl rep q⟩
theorem s_cont : PS3 X B (.Continue pos) dCont := ⟨_, ps_continue, fun σ H δ M D Dd sl rep bb q eo => eo.ct _ _ _ _ Go.refl sl rep q⟩
def dNever : DSt := fun _ _ _ => False
theorem s_never : PS3 X B st dNever := ⟨_, ps_never, fun σ H δ M D Dd sl rep bb q eo => q.elim⟩
theorem b_never {sts : List Stmt} : PB3 X B sts dNever := ⟨_, pss_never, fun σ H δ M D Dd sl rep bb q eo => q.elim⟩
def dExpr (de : DE) : DSt := fun D δ M => de δ M fun _ M1 => D.nx δ M1
theorem s_expr (h : PE3 X B e de) (hs : swapsWith e none pos.line X.env = pure false := by rfl) : PS3 X B (.Expr e pos) (dExpr de) := by
  obtain ⟨t, h1, h2⟩ := h.ex
  exact ⟨_, ps_expr h1 hs, fun σ H δ M D Dd sl rep bb q eo => h2 σ H δ M _ _ sl rep bb q fun v H' x M' g rep' r q' => eo.nx _ _ _ _ g (sl.mono (rep.tx g)) rep' q'⟩
def dRet (de : DE) : DSt := fun D δ M => de δ M D.rt
theorem s_ret (h : PE3 X B e de) : PS3 X B (.Return (some e) pos) (dRet de) := by
  obtain ⟨t, h1, h2⟩ := h.ex
  exact ⟨_, ps_ret h1, fun σ H δ M D Dd sl rep bb q eo => h2 σ H δ M _ _ sl rep bb q fun v H' x M' g rep' r q' => eo.rt _ _ _ _ g rep' r q'⟩
def dRetN : DSt := fun D _ M => D.rt .non M
theorem s_retN : PS3 X B (.Return none pos) dRetN := ⟨_, ps_retN, fun σ H δ M D Dd sl rep bb q eo => eo.rt _ _ _ _ Go.refl rep R.non' q⟩
def dIfS (c : DT) (t u : DSt) : DSt := fun D δ M => c δ M fun k M1 => (k = true → t D δ M1) ∧ (k = false → u D δ M1)
theorem s_if {c : Expr} {a b : List Stmt} {dc : DT} (hc : PT3 X B c dc) (ha : PB3 X B a t) (hb : PB3 X B b u) : PS3 X B (.If c a b pos) (dIfS dc t u) := by
  obtain ⟨tc, c1, c2⟩ := hc.ex
  obtain ⟨ta, a1, a2⟩ := ha.ex
  obtain ⟨tb, b1, b2⟩ := hb.ex
  refine ⟨_, ps_if c1 a1 b1, fun σ H δ M D Dd sl rep bb q eo => c2 σ H δ M _ _ sl rep bb q fun k H' M' g rep' ⟨q1, q2⟩ => ?_⟩
  have sl' := sl.mono (rep.tx g)
  have bb' := B.pres _ _ _ _ g bb
  cases k with
  | true => exact iteT (a2 σ H' δ M' D Dd sl' rep' bb' (q1 rfl) (eo.mono g))
  | false => exact iteF (b2 σ H' δ M' D Dd sl' rep' bb' (q2 rfl) (eo.mono g))
/-! ### targets -/
inductive Tg where
  | nm (i : Nat) | t2 (i j : Nat) | t3 (i j k : Nat)
def Tg.L (K : PySem.W.Frag) : Tg → TG
  | .nm i => gName i
  | .t2 i j => gTup K 2 (gCons (gName i) (gCons (gName j) gNil))
  | .t3 i j k => gTup K 3 (gCons (gName i) (gCons (gName j) (gCons (gName k) gNil)))
def Tg.ix : Tg → List Nat
  | .nm i => [i]
  | .t2 i j => [i, j]
  | .t3 i j k => [i, j, k]
def dTg (g : Tg) (x : D) (δ : DS) (Q : DS → Prop) : Prop := match g, x with
  | .nm i, x => Q (δ.set i (some x))
  | .t2 i j, .tup [a, b] => Q ((δ.set i (some a)).set j (some b))
  | .t3 i j k, .tup [a, b, c] => Q (((δ.set i (some a)).set j (some b)).set k (some c))
  | _, _ => False
theorem wipe_set {σ : L2.St} {v : Option V} {i : Nat} : ∀ {vs : List Nat}, i ∈ vs → L2.wipe (σ.set i v) vs = L2.wipe σ vs
  | j :: vs, h => by
    show (L2.wipe (σ.set i v) vs).set j none = (L2.wipe σ vs).set j none
    by_cases e : i ∈ vs
    · rw [wipe_set e]
    · have hj : i = j := by
        rcases List.mem_cons.mp h with h | h
        · exact h
        · exact absurd h e
      subst hj
      have : ∀ (vs : List Nat) (σ : L2.St), i ∉ vs → (L2.wipe (σ.set i v) vs) = (L2.wipe σ vs).set i v := by
        intro vs
        induction vs with
        | nil => intro σ _; rfl
        | cons k vs ih =>
          intro σ hk
          show (L2.wipe (σ.set i v) vs).set k none = ((L2.wipe σ vs).set k none).set i v
          have h1 : i ≠ k := fun z => hk (by rw [z]; exact List.mem_cons_self)
          rw [ih σ fun z => hk (List.mem_cons_of_mem _ z), List.set_comm _ _ h1]
      rw [this vs σ e, List.set_set]
  | [], h => by cases h
theorem tg_run {K : PySem.W.Frag} (g : Tg) {x : D} {v : V} {σ : L2.St} {δ : DS} {H : Hp} {M : Hd} {Q : L2.St → Hp → Prop} {Qd : DS → Prop} (sl : Sl K H σ δ) (r : R K H x v) (h : dTg g x δ Qd)
    (q : ∀ σ2 δ2, Sl K H σ2 δ2 → Qd δ2 → (∀ vs, (∀ i ∈ g.ix, i ∈ vs) → L2.wipe σ2 vs = L2.wipe σ vs) → Q σ2 H) : g.L K v σ H Q := by
  unfold dTg at h
  split at h
  · exact q _ _ (sl.set _ r) h fun vs hv => wipe_set (hv _ List.mem_cons_self)
  · rename_i i j a b
    obtain ⟨p, us, rfl, s, rs⟩ := r.untup
    obtain ⟨v1, v2, rfl, r1, r2⟩ := rs.two_
    refine ⟨p, _, rfl, SqT.of s, rfl, v1, [v2], rfl, v2, [], rfl, rfl, ?_⟩
    refine q _ _ ((sl.set i r1).set j r2) h fun vs hv => ?_
    rw [wipe_set (hv j (by simp [Tg.ix])), wipe_set (hv i (by simp [Tg.ix]))]
  · rename_i i j k a b c
    obtain ⟨p, us, rfl, s, rs⟩ := r.untup
    obtain ⟨v1, us', rfl, r1, rs⟩ := rs.ucons
    obtain ⟨v2, v3, rfl, r2, r3⟩ := rs.two_
    refine ⟨p, _, rfl, SqT.of s, rfl, v1, _, rfl, v2, _, rfl, v3, [], rfl, rfl, ?_⟩
    refine q _ _ (((sl.set i r1).set j r2).set k r3) h fun vs hv => ?_
    rw [wipe_set (hv k (by simp [Tg.ix])), wipe_set (hv j (by simp [Tg.ix])), wipe_set (hv i (by simp [Tg.ix]))]
  · exact h.elim
structure PG3 (X : Cx) (target : Expr) (g : Tg) : Prop where
  ex : PG X target (g.L X.K)
theorem g_nm (i : Nat) {x : Str} (hN : X.N.Nodup) (hi : X.N[i]? = some x := by rfl) (hx : Loc X.env.scope x := by first | exact Or.inl rfl | exact Or.inr rfl) (hf : X.fn x = true ∨ X.env.scope.names.lookup x = some .local := by first | exact .inl rfl | exact .inr rfl | assumption) : PG3 X (.Name x pos) (.nm i) := ⟨pg_name hN hi hx hf⟩
theorem g_t2 {a b : Expr} {i j k : Nat} (hc : X.calm = true) (h1 : PG3 X a (.nm i)) (h2 : PG3 X b (.nm j)) (hs1 : (assignEach [a, b] X.env).map (·.2) = assign a X.env :: (assignEach [b] X.env).map (·.2) := by rfl) (hs2 : (assignEach [b] X.env).map (·.2) = assign b X.env :: (assignEach [] X.env).map (·.2) := by rfl)
    (hn : (assignEach [a, b] X.env).length = 2 := by rfl) (hst : (assignEach [a, b] X.env).findIdx? (·.1) = none := by rfl) : PG3 X (.Tuple [a, b] k pos) (.t2 i j) :=
  ⟨pg_tup hc (pgs_cons h1.ex (pgs_cons h2.ex pgs_nil hs2) hs1) hn hst⟩
theorem g_t3 {a b c : Expr} {i j l k : Nat} (hc : X.calm = true) (h1 : PG3 X a (.nm i)) (h2 : PG3 X b (.nm j)) (h3 : PG3 X c (.nm l)) (hs1 : (assignEach [a, b, c] X.env).map (·.2) = assign a X.env :: (assignEach [b, c] X.env).map (·.2) := by rfl) (hs2 : (assignEach [b, c] X.env).map (·.2) = assign b X.env :: (assignEach [c] X.env).map (·.2) := by rfl)
    (hs3 : (assignEach [c] X.env).map (·.2) = assign c X.env :: (assignEach [] X.env).map (·.2) := by rfl) (hn : (assignEach [a, b, c] X.env).length = 3 := by rfl) (hst : (assignEach [a, b, c] X.env).findIdx? (·.1) = none := by rfl) : PG3 X (.Tuple [a, b, c] k pos) (.t3 i j l) :=
  ⟨pg_tup hc (pgs_cons h1.ex (pgs_cons h2.ex (pgs_cons h3.ex pgs_nil hs3) hs2) hs1) hn hst⟩
/-! ### assignments -/
def dSet (i : Nat) (de : DE) : DSt := fun D δ M => de δ M fun x M1 => D.nx (δ.set i (some x)) M1
theorem s_set (i : Nat) {x : Str} {pos' : Pos} (hN : X.N.Nodup) (he : PE3 X B e de) (hi : X.N[i]? = some x := by rfl) (hx : Loc X.env.scope x := by first | exact Or.inl rfl | exact Or.inr rfl) (hs : swapsWith e (some (.Name x pos')) pos.line X.env = pure false := by rfl)
    (hf : X.fn x = true ∨ X.env.scope.names.lookup x = some .local := by first | exact .inl rfl | exact .inr rfl | assumption) : PS3 X B (.Assign [.Name x pos'] e pos) (dSet i de) := by
  obtain ⟨t, h1, h2⟩ := he.ex
  exact ⟨_, ps_set hN hi hx h1 hs hf, fun σ H δ M D Dd sl rep bb q eo => h2 σ H δ M _ _ sl rep bb q fun v H' x M' g rep' r q' => eo.nx _ _ _ _ g ((sl.mono (rep.tx g)).set i r) rep' q'⟩
def dAsg (g : Tg) (de : DE) : DSt := fun D δ M => de δ M fun x M1 => dTg g x δ fun δ2 => D.nx δ2 M1
theorem s_asg {tg : Expr} {g : Tg} (he : PE3 X B e de) (hg : PG3 X tg g) (hs : swapsWithSole [tg] e pos.line X.env = pure false := by rfl) (hw : swappedStores [tg] e X.env = pure none := by rfl)
    (h1 : (assignEach [tg] X.env).map (·.2) = [assign tg X.env] := by rfl) : PS3 X B (.Assign [tg] e pos) (dAsg g de) := by
  obtain ⟨t, a1, a2⟩ := he.ex
  refine ⟨_, ps_asg a1 hg.ex hs hw h1, fun σ H δ M D Dd sl rep bb q eo => a2 σ H δ M _ _ sl rep bb q fun v H' x M' gg rep' r q' => ?_⟩
  exact tg_run g (M := M') (sl.mono (rep.tx gg)) r q' fun σ2 δ2 sl2 q2 _ => eo.nx _ _ _ _ gg sl2 rep' q2
/-- name op= e -/
structure PIp3 (X : Cx) (op : Operator) (rd : DR2) : Prop where
  ex : ∃ r, PIp X op r ∧ SndR2 X.K r rd
def dAug (i : Nat) (de : DE) (rd : DR2) : DSt := fun D δ M => ∃ x, δ[i]? = some (some x) ∧ de δ M fun y M1 => rd x y M1 fun z M2 => D.nx (δ.set i (some z)) M2
theorem s_aug (i : Nat) {x : Str} {op : Operator} {rd : DR2} {pos' : Pos} (hN : X.N.Nodup) (ho : PIp3 X op rd) (he : PE3 X B e de) (hi : X.N[i]? = some x := by rfl) (hx : Loc X.env.scope x := by first | exact Or.inl rfl | exact Or.inr rfl)
    (hf : X.fn x = true ∨ X.env.scope.names.lookup x = some .local := by first | exact .inl rfl | exact .inr rfl | assumption) : PS3 X B (.AugAssign (.Name x pos') op e pos) (dAug i de rd) := by
  obtain ⟨t, h1, h2⟩ := he.ex
  obtain ⟨r, o1, o2⟩ := ho.ex
  refine ⟨_, ps_aug hN hi hx h1 o1 hf, fun σ H δ M D Dd sl rep bb ⟨x, ex, q⟩ eo => ?_⟩
  obtain ⟨v, ev, rv⟩ := sl.at_ i x ex
  refine ⟨v, ev, h2 σ H δ M _ _ sl rep bb q fun u H1 y M1 g1 rep1 ry q1 => ?_⟩
  have t1 := rep.tx g1
  refine o2 H1 M1 x y v u _ _ rep1 (rv.mono t1) ry q1 fun w H2 z M2 g2 rep2 rz q2 => ?_
  exact eo.nx _ _ _ _ (g1.trans g2) (((sl.mono t1).mono (rep1.tx g2)).set i rz) rep2 q2
theorem ip_add3 : PIp3 X .Add (dI0 fun i j => .int (i + j)) := ⟨_, ip_add, fun H M x y v u Q Qd rep r1 r2 h q => by
  obtain ⟨i, j, rfl, rfl, h⟩ := dI0_inv h
  exact ⟨i, j, r1.int_, r2.int_, q _ _ _ M Go.refl rep R.int' h⟩⟩
theorem ip_sub3 : PIp3 X .Sub (dI0 fun i j => .int (i - j)) := ⟨_, ip_sub, fun H M x y v u Q Qd rep r1 r2 h q => by
  obtain ⟨i, j, rfl, rfl, h⟩ := dI0_inv h
  exact ⟨i, j, r1.int_, r2.int_, q _ _ _ M Go.refl rep R.int' h⟩⟩
theorem ip_mul3 : PIp3 X .Mult (dI CMul fun i j => .int (i * j)) := ⟨_, (fun pins s σ H x y v u Q I rx ry h => iop_mul pins s σ H x y v u Q I rx ry h), snd_I fun _ _ _ => R.int'⟩
/-- o[i] = v -/
abbrev DSetR := D → D → D → Hd → (Hd → Prop) → Prop
structure PSet3 (X : Cx) (rd : DSetR) : Prop where
  ex : ∃ r, PSet X r ∧ ∀ (H : Hp) (M : Hd) (o i v : D) (ov iv vv : V) (Q : Hp → Prop) (Qd : Hd → Prop), Rep X.K H M → R X.K H o ov → R X.K H i iv → R X.K H v vv → rd o i v M Qd → (∀ H' M', Go H M H' M' → Rep X.K H' M' → Qd M' → Q H') → r ov iv vv H Q
variable {o i : Expr} {do_ di : DE}
def dPutI (do_ di de : DE) (rd : DSetR) : DSt := fun D δ M => de δ M fun x M1 => do_ δ M1 fun y M2 => di δ M2 fun z M3 => rd y z x M3 fun M4 => D.nx δ M4
theorem s_put {rd : DSetR} {pos' : Pos} (hr : PSet3 X rd) (ho : PE3 X B o do_) (hi : PE3 X B i di) (he : PE3 X B e de) (ha : ∀ v, assign (.Subscript o i pos') X.env v = (do
      let ov ← holding [v] (eval o X.env)
      let iv ← holding [v, ov] (eval i X.env)
      standAt pos'
      holding [v, ov, iv] (setItem ov iv v)
      release [v, ov, iv] []) := by intro _; rfl) (hs : swapsWithSole [.Subscript o i pos'] e pos.line X.env = pure false := by rfl) (hw : swappedStores [.Subscript o i pos'] e X.env = pure none := by rfl)
    (h1 : (assignEach [.Subscript o i pos'] X.env).map (·.2) = [assign (.Subscript o i pos') X.env] := by rfl) : PS3 X B (.Assign [.Subscript o i pos'] e pos) (dPutI do_ di de rd) := by
  obtain ⟨r, r1, r2⟩ := hr.ex
  obtain ⟨to, o1, o2⟩ := ho.ex
  obtain ⟨ti, i1, i2⟩ := hi.ex
  obtain ⟨te, e1, e2⟩ := he.ex
  refine ⟨_, ps_asg e1 (pg_sub o1 i1 r1 ha) hs hw h1, fun σ H δ M D Dd sl rep bb q eo => e2 σ H δ M _ _ sl rep bb q fun v H1 x M1 g1 rep1 rx q1 => ?_⟩
  have sl1 := sl.mono (rep.tx g1)
  have bb1 := B.pres _ _ _ _ g1 bb
  refine o2 σ H1 δ M1 _ _ sl1 rep1 bb1 q1 fun ov H2 y M2 g2 rep2 ry q2 => ?_
  have sl2 := sl1.mono (rep1.tx g2)
  have bb2 := B.pres _ _ _ _ g2 bb1
  refine i2 σ H2 δ M2 _ _ sl2 rep2 bb2 q2 fun iv H3 z M3 g3 rep3 rz q3 => ?_
  have t3 := rep2.tx g3
  refine r2 H3 M3 y z x ov iv v _ _ rep3 (ry.mono t3) rz ((rx.mono (rep1.tx g2)).mono t3) q3 fun H4 M4 g4 rep4 q4 => ?_
  exact eo.nx _ _ _ _ (((g1.trans g2).trans g3).trans g4) ((sl2.mono t3).mono (rep3.tx g4)) rep4 q4
def putKD {κ : Type} [DecidableEq κ] (kvs : List (κ × D)) (k : κ) (v : D) : List (κ × D) := if (kvs.any fun kv => decide (kv.1 = k)) = true then kvs.map (fun kv => if kv.1 = k then (kv.1, v) else kv) else kvs ++ [(k, v)]
theorem RK.anyk {κ : Type} [DecidableEq κ] {K : PySem.W.Frag} {H : Hp} (k : κ) : ∀ {kvs : List (κ × D)} {ws : List (κ × V)}, RK K H kvs ws → (ws.any fun kv => decide (kv.1 = k)) = kvs.any fun kv => decide (kv.1 = k)
  | _, _, .nil => rfl
  | _, _, .cons r t => by rw [List.any_cons, List.any_cons, RK.anyk k t, r.1]
theorem RK.app {κ : Type} {K : PySem.W.Frag} {H : Hp} : ∀ {a c : List (κ × D)} {b d : List (κ × V)}, RK K H a b → RK K H c d → RK K H (a ++ c) (b ++ d)
  | _, _, _, _, .nil, s => s
  | _, _, _, _, .cons r t, s => .cons r (RK.app t s)
theorem RK.put {κ : Type} [DecidableEq κ] {K : PySem.W.Frag} {H : Hp} {kvs : List (κ × D)} {ws : List (κ × V)} (h : RK K H kvs ws) (k : κ) {d : D} {v : V} (r : R K H d v) : RK K H (putKD kvs k d) (putK ws k v) := by
  have hm : ∀ {kvs : List (κ × D)} {ws : List (κ × V)}, RK K H kvs ws → RK K H (kvs.map fun kv => if kv.1 = k then (kv.1, d) else kv) (ws.map fun kv => if kv.1 = k then (kv.1, v) else kv) := by
    intro kvs ws h
    induction h with
    | nil => exact .nil
    | @cons a b l1 l2 r' t ih =>
      refine .cons ?_ ih
      show (if a.1 = k then (a.1, d) else a).1 = (if b.1 = k then (b.1, v) else b).1 ∧ R K H (if a.1 = k then (a.1, d) else a).2 (if b.1 = k then (b.1, v) else b).2
      by_cases e : a.1 = k
      · have e' : b.1 = k := by rw [← r'.1]; exact e
        rw [if_pos e, if_pos e']
        exact ⟨r'.1, r⟩
      · have e' : ¬ b.1 = k := by rw [← r'.1]; exact e
        rw [if_neg e, if_neg e']
        exact r'
  unfold putKD putK
  rw [RK.anyk k h]
  by_cases e : (kvs.any fun kv => decide (kv.1 = k)) = true
  · rw [if_pos e, if_pos e]
    exact hm h
  · rw [if_neg e, if_neg e]
    exact h.app (.cons ⟨rfl, r⟩ .nil)
theorem len_putKD {κ : Type} [DecidableEq κ] (kvs : List (κ × D)) (k : κ) (v : D) : (putKD kvs k v).length ≤ kvs.length + 1 := by
  unfold putKD
  split
  · rw [List.length_map]; exact Nat.le_succ _
  · simp
def dPut : DSetR := fun o i v M Q => ∃ p, o = .ref p ∧
  ((∃ (xs : List D) (k : Int) (j : Nat), i = .int k ∧ M p = some (.lst xs) ∧ ixN xs.length k = some j ∧ Q (up M p (.lst (xs.set j v)))) ∨
   (∃ (kvs : List (Key × D)) (k : Key), i = kD k ∧ M p = some (.dK kvs) ∧ kvs.length < sizeLine ∧ Q (up M p (.dK (putKD kvs k v)))) ∨
   (∃ (kvs : List (List Key × D)) (ks : List Key), i = .tup (ks.map kD) ∧ M p = some (.dT kvs) ∧ kvs.length < sizeLine ∧ Q (up M p (.dT (putKD kvs ks v)))))
theorem set_dictR (hu : X.A.units + 1 < cLine) : PSet X (fun o i v H Q => ∃ a H', o = .ref a ∧ DPut H a i v H' ∧ Q H') := by
  intro pins s σ H o i v ov iv u Q I ro ri rv h
  obtain ⟨a, H', rfl, g, q⟩ := h
  cases ro
  exact d_setItem hu I g ri rv fun s' I' => ⟨H', I', q⟩
theorem PSet.or {r r' : TSet} (h : PSet X r) (h' : PSet X r') : PSet X (fun o i v H Q => r o i v H Q ∨ r' o i v H Q) := by
  intro pins s σ H o i v ov iv u Q I ro ri rv q
  rcases q with q | q
  · exact h pins s σ H o i v ov iv u Q I ro ri rv q
  · exact h' pins s σ H o i v ov iv u Q I ro ri rv q
theorem put3 (hu : X.A.units + 1 < cLine) : PSet3 X dPut := by
  refine ⟨_, PSet.or set_list (set_dictR hu), fun H M o i v ov iv vv Q Qd rep ro ri rv h q => ?_⟩
  obtain ⟨p, rfl, h⟩ := h
  rw [ro.ref_]
  rcases h with ⟨xs, k, j, rfl, l, e, h⟩ | ⟨kvs, k, rfl, d, hz, h⟩ | ⟨kvs, ks, rfl, d, hz, h⟩
  · obtain ⟨vs, s, rs⟩ := rep.lst l
    obtain ⟨g, rep'⟩ := rep.putL l (rs.set rv j)
    exact .inl ⟨p, vs, k, j, rfl, ri.int_, s, by rw [rs.len]; exact e, q _ _ g rep' h⟩
  · obtain ⟨ws, s, rk⟩ := rep p _ d
    have t : Tx X.K H (upd H p (.dK (putK ws k vv))) := tx_put s trivial
    refine .inr ⟨p, _, rfl, .inl ⟨ws, k, s, ri.kD, by rw [rk.len]; exact hz, rfl⟩, q _ _ (go_put (by rw [d]; exact fun z => nomatch z)) ?_ h⟩
    exact rep.put t (by rw [d]; exact fun _ z => nomatch z) (.inr (by rw [d]; exact fun z => nomatch z)) ⟨_, upd_same, (rk.put k rv).mono t⟩
  · obtain ⟨ws, s, rk⟩ := rep p _ d
    obtain ⟨a, us, rfl, st, rs⟩ := ri.untup
    have ev := R.tupK rs
    subst ev
    have t : Tx X.K H (upd H p (.dT (putK ws ks vv))) := tx_put s trivial
    refine .inr ⟨p, _, rfl, .inr ⟨ws, ks, a, s, rfl, st, by rw [rk.len]; exact hz, rfl⟩, q _ _ (go_put (by rw [d]; exact fun z => nomatch z)) ?_ h⟩
    exact rep.put t (by rw [d]; exact fun _ z => nomatch z) (.inr (by rw [d]; exact fun z => nomatch z)) ⟨_, upd_same, (rk.put ks rv).mono t⟩
end
end T3
/-! enumerate over a tuple: the rule of the layer, made for it -/
namespace PySem
theorem t3_enum_new {v : Value} {o : Obj} {Hh : Heap → Prop} (Bg : Begins v o Hh) :
    Meets (Builtin.«enumerate.__new__» ⟨[.type "enumerate", v], []⟩) (fun _ Rr z => Hh z.heap ∧
      Rr (.ok (.ret (.ref (z.heap.push o).objs.size))) { z with heap := (z.heap.push o).push { cls := .type "enumerate", data := .fields #[.none, .bool false, .ref z.heap.objs.size, rawInt 0, .none, .none] } }) :=
  .of_wp fun pr wo Ar Rr z hz => by
    obtain ⟨hp, g, d, tk, os⟩ := z
    obtain ⟨b0, hz⟩ := hz
    have isSub := sub_enumerate
    have itr : ∀ {A' : Around} {E' : Value → Shared → Prop} {Q' : Value → Shared → Prop}, Q' (.ref hp.objs.size) ⟨hp.push o, g, d, tk, os⟩ → wpAny (model pr wo) A' (pyIter v) Q' E' ⟨hp, g, d, tk, os⟩ :=
      fun k => Bg.iter pr wo _ _ ⟨hp, g, d, tk, os⟩ _ b0 k
    wp_walk using itr
    refine wpAny_stack_any fun _ => wpAny_pure ?_
    split
    · rename_i cl _ _ _ _ _
      cases (cl == Value.type "enumerate") <;> (wp_walk using itr; exact ⟨_, rfl, hz⟩)
    · wp_walk using itr
      exact ⟨_, rfl, hz⟩
theorem t3_enum_begins {prog : Program} {w : World} {A : Around} {E : Value → Shared → Prop} {z : Shared} {v : Value} {o : Obj} {Hh : Heap → Prop} {Q : Value → Shared → Prop} (Bg : Begins v o Hh) (b0 : Hh z.heap)
    (k : ∀ h', IsEnum h' (z.heap.objs.size + 1) z.heap.objs.size 0 .none → h'.get? z.heap.objs.size = some o → (∀ b u, z.heap.get? b = some u → h'.get? b = some u) → Q (.ref (z.heap.objs.size + 1)) { z with heap := h' }) :
    wpAny (model prog w) A (call (.type "enumerate") [v]) Q E z := by
  refine callType_new F.called_enumerate (by decide) (F.typeCall_enumerate_1 _) (F.newCall_enumerate_1 _) (fun ob => F.args_object_init_2 ob _) F.entry_enumerate_new (t3_enum_new Bg) ⟨b0, ?_⟩
  have sz : (z.heap.push o).objs.size = z.heap.objs.size + 1 := Heap.size_push ..
  have top := Heap.get?_push_size (z.heap.push o) (o := { cls := .type "enumerate", data := .fields #[.none, .bool false, .ref z.heap.objs.size, rawInt 0, .none, .none] }) rfl
  rw [sz] at top
  show _ ∧ _
  rw [sz]
  exact ⟨⟨_, top, rfl⟩, k _ top (Heap.get?_push_of_some _ (Heap.get?_push_size _ Bg.free)) fun b u x => Heap.get?_push_of_some _ (Heap.get?_push_of_some _ x)⟩
end PySem
namespace T3
open PySem PySem.Spec PyProof.Rows L2
/-- enumerate(t): pairs of the place and the item -/
def IteT (K : PySem.W.Frag) (a : Addr) : It where
  go := fun i H => ∃ (xs : List V) (x : V), SqT K H a xs ∧ xs[i]? = some x
  yld := fun i H v H' => ∃ T x, v = .ref T ∧ H T = none ∧ H' = upd H T (.tup [.int (i : Nat), x]) ∧ ∀ xs, SqT K H a xs → xs[i]? = some x
  stop := fun i H => ∃ xs : List V, SqT K H a xs ∧ i = xs.length
theorem turn_enumT {P : Program} {w : World} {K : PySem.W.Frag} {elts : List Expr} {kk : Nat} {tpos : Pos} (a e it : Addr) (hea : e ≠ a) (hia : a ≠ it) :
    Turn P w K (.Tuple elts kk tpos) (IteT K a) [e, it] e (fun i h => (∃ old, IsEnum h e it ((i : Nat) : Int) old) ∧ h.IsTupleIter it a i ∧ e ≠ it) where
  mem := List.mem_cons_self
  obj := by
    rintro i h ⟨⟨old, he⟩, ⟨o, ho, hc, hd⟩, _⟩ b hb
    rcases List.mem_cons.mp hb with z | z
    · subst z
      exact ⟨_, he, fun _ q => nomatch q⟩
    · rw [List.mem_singleton.mp z]
      exact ⟨o, ho, fun _ q => by rw [hd] at q; cases q⟩
  keep := by
    rintro i h h' ⟨⟨old, he⟩, hi, hne⟩ k
    exact ⟨⟨old, k e List.mem_cons_self _ he⟩, hi.at fun o q => k it (List.mem_cons_of_mem _ List.mem_cons_self) o q, hne⟩
  item := by
    rintro X rfl rfl rfl hc i pins s σ H E I hf ⟨⟨old, he⟩, hit, hne⟩ ⟨xs, x, hq, hx⟩
    obtain ⟨its, rv, tp, _⟩ := I.tuple hq
    obtain ⟨u, hu, ru⟩ := rv.get hx
    have ht : s.heap.IsTuple a its.toArray := tp
    have inE : e < s.heap.objs.size := Heap.lt_size he
    have inI : it < s.heap.objs.size := by obtain ⟨_, q, _⟩ := hit; exact Heap.lt_size q
    have hlt : i < its.toArray.size := by
      rw [List.size_toArray]
      exact (List.getElem?_eq_some_iff.mp hu).1
    have nin : e ∉ [it, a] := fun m => by
      rcases List.mem_cons.mp m with m | m
      · exact hne m
      · exact hea (List.mem_singleton.mp m)
    refine wpAny_pyNext_enum_itemD (Draws.tuple (A := X.A.in1) (I.ok.hd hc) it a hia its.toArray) he ⟨hit, ht⟩ hlt hne nin fun y h' tk hy out ⟨hit', _⟩ hT hz hk => ?_
    have ey : y = u := by
      have q : its[i]? = some y := by simpa using hy
      rw [hu] at q
      exact (Option.some.inj q).symm
    subst ey
    refine ⟨_, rfl, wpAny_letOwnedTupleGo_enum (s := { s with heap := h', toks := tk + 1 }) out fun h2 back sb => ?_⟩
    have there : h2.get? s.heap.objs.size = some { cls := .type "tuple", data := .seq #[.int i tk, y] } := by
      rw [sb.2 _ (Nat.ne_of_gt inE)]
      exact hT
    have okT : ObjOk X.prog X.w (upd H s.heap.objs.size (.tup [.int (i : Nat), x])) h2 s.heap.objs.size (.tup [.int (i : Nat), x]) :=
      ⟨by show 2 ≤ sizeLine; decide, [.int i tk, y], .cons ⟨_, rfl⟩ (.cons ru .nil), ⟨_, there, rfl, _, rfl⟩⟩
    have J : Inv X pins σ (upd H s.heap.objs.size (.tup [.int (i : Nat), x])) { s with heap := h2, toks := tk + 1 } := by
      refine I.turnedNew (ch := [e, it]) (fun b ob nb q => ?_) hf (Nat.le_refl _) okT
      have nbe : b ≠ e := fun z => nb (by rw [z]; exact List.mem_cons_self)
      have nbi : b ≠ it := fun z => nb (by rw [z]; exact List.mem_cons_of_mem _ List.mem_cons_self)
      rw [sb.2 b nbe]
      exact hk b ob nbe nbi q
    refine ⟨.ref s.heap.objs.size, _, J, rfl, ⟨_, x, rfl, I.hok.fresh (Nat.le_refl _), rfl, fun ys hys => ?_⟩, ⟨⟨y, ?_⟩, hit'.at fun o q => ?_, hne⟩, fun b hb => ?_⟩
    · rw [I.tuple_inj hys hq]
      exact hx
    · rw [show ((i + 1 : Nat) : Int) = (i : Int) + 1 by omega]
      exact back
    · rw [sb.2 it (Ne.symm hne)]
      exact q
    · have lb : b < s.heap.objs.size := by
        rcases List.mem_cons.mp hb with z | z
        · rw [z]; exact inE
        · rw [List.mem_singleton.mp z]; exact inI
      rw [upd_ne (Nat.ne_of_lt lb)]
      exact (hf b hb).1
  done := by
    rintro X rfl rfl rfl hc i pins s σ H E I hf ⟨⟨old, he⟩, hit, hne⟩ ⟨xs, hq, hx⟩
    obtain ⟨its, rv, tp, _⟩ := I.tuple hq
    have ht : s.heap.IsTuple a its.toArray := tp
    have hn : i = its.toArray.size := by rw [List.size_toArray, hx, rv.length]
    subst hn
    obtain ⟨f0, f1, f2, f3, f4, f5⟩ := hf it (List.mem_cons_of_mem _ List.mem_cons_self)
    exact wpAny_pyNext_enum_endD (Draws.tuple (A := X.A.in1) (I.ok.hd hc) it a hia its.toArray) he ⟨hit, ht⟩ fun h' eb => ⟨rfl, I.turned (t' := s.toks) (fun b o nb q => eb b o nb q) f0 f1 f3 f4 f5⟩
  self := fun A i s Q E st h => by
    obtain ⟨⟨_, he⟩, _⟩ := st
    exact wpAny_pyIter_enum he h
/-! ### what is walked: items, and what must stand meanwhile -/
structure DW where
  xs : List D
  G : Hd → Prop
abbrev DI := DS → Hd → (DW → Hd → Prop) → Prop
/-- J walks the items of W -/
def ItOk (K : PySem.W.Frag) (H0 : Hp) (J : It) (W : DW) : Prop := ∀ (i : Nat) H M, Tx K H0 H → Rep K H M → W.G M →
  (∀ x, W.xs[i]? = some x → J.go i H ∧ ∀ v H', J.yld i H v H' → Go H M H' M ∧ Rep K H' M ∧ R K H' x v) ∧ (i = W.xs.length → J.stop i H)
def SndI (K : PySem.W.Frag) (B : Am) (t : TI) (d : DI) : Prop := ∀ (σ : L2.St) (H : Hp) (δ : DS) (M : Hd) (Q : It → Hp → Prop) (Qd : DW → Hd → Prop), Sl K H σ δ → Rep K H M → B.B H M → d δ M Qd →
  (∀ J H' W M', Go H M H' M' → Rep K H' M' → ItOk K H' J W → Qd W M' → Q J H') → t σ H Q
structure PI3 (X : Cx) (B : Am) (tg e : Expr) (d : DI) : Prop where
  ex : ∃ t, PI X tg e t ∧ SndI X.K B t d
section
variable {X : Cx} {B : Am} {tg e e2 e3 : Expr} {de : DE} {dr : DA} {pos p : Pos}
/-- a list, a tuple, a text -/
def iSeq (K : PySem.W.Frag) (tl : TE) : TI := fun σ H R => tl σ H fun x H1 => (∃ a, x = .ref a ∧ ((∃ xs, SqL K H1 a xs) ∧ R (Itl K a) H1 ∨ (∃ xs, SqT K H1 a xs) ∧ R (Itt K a) H1)) ∨ ∃ z, x = .str z ∧ R (Its z) H1
theorem pi_seq {l : Expr} {tl : TE} (hl : PE X l tl) : PI X tg l (iSeq X.K tl) := by
  refine ⟨fun pins s σ H Rr I h => thn (hl.run pins s σ H _ I h) fun v s1 ⟨x, H1, I1, r1, q1⟩ => ?_⟩
  rcases q1 with ⟨a, ex, ⟨⟨xs, hq⟩, q⟩ | ⟨⟨xs, hq⟩, q⟩⟩ | ⟨z, ex, q⟩ <;> subst ex
  · cases r1
    obtain ⟨its, _, pl, _⟩ := I1.list hq
    exact wpAny_pyIter_list pl.isList (pi_one (tk := s1.toks) I1 _ (turn_list a _) ⟨_, Heap.get?_push_size _ rfl, rfl, rfl⟩ q)
  · cases r1
    obtain ⟨its, _, pl, _⟩ := I1.tuple hq
    exact wpAny_pyIter_tuple (show s1.heap.IsTuple a its.toArray from pl) (pi_one (tk := s1.toks) I1 _ (turn_tuple a _) ⟨_, Heap.get?_push_size _ rfl, rfl, rfl⟩ q)
  · obtain ⟨t, rfl⟩ := r1
    by_cases ha : z.cps.all (· < 128) = true
    · exact wpAny_pyIter_ascii ha (pi_one (tk := s1.toks) I1 _ (turn_str _ z t "str_ascii_iterator" (.inl rfl)) ⟨_, Heap.get?_push_size _ rfl, rfl, rfl⟩ q)
    · exact wpAny_pyIter_wide (by simpa using ha) (pi_one (tk := s1.toks) I1 _ (turn_str _ z t "str_iterator" (.inr rfl)) ⟨_, Heap.get?_push_size _ rfl, rfl, rfl⟩ q)
def dSeqI (de : DE) : DI := fun δ M Q => de δ M fun x M1 => match x with
  | .tup xs => Q ⟨xs, fun _ => True⟩ M1
  | .bt xs => Q ⟨xs, fun _ => True⟩ M1
  | .ref p => ∃ xs, LS M1 p xs ∧ Q ⟨xs, fun M => LS M p xs⟩ M1
  | .str z => Q ⟨z.cps.toList.map fun c => .str ⟨#[c]⟩, fun _ => True⟩ M1
  | _ => False
theorem itok_tup {K : PySem.W.Frag} {H0 : Hp} {a : Addr} {vs : List V} {xs : List D} (s : H0 a = some (.tup vs)) (rs : Rs K H0 xs vs) : ItOk K H0 (Itt K a) ⟨xs, fun _ => True⟩ := by
  intro i H M t rep _
  have s' := t _ _ s
  have rs' := rs.mono t
  refine ⟨fun x ex => ?_, fun e => ⟨vs, SqT.of s', by rw [rs.len]; exact Nat.le_of_eq e.symm⟩⟩
  obtain ⟨v, ev, rv⟩ := rs'.get ex
  refine ⟨⟨vs, v, SqT.of s', ev⟩, fun v' H' ⟨eH, hy⟩ => ?_⟩
  subst eH
  have e2 := hy vs (SqT.of s')
  rw [ev] at e2
  cases e2
  exact ⟨Go.refl, rep, rv⟩
theorem itok_bt {K : PySem.W.Frag} {H0 : Hp} {a : Addr} {ob : Obj} {vs : List V} {xs : List D} (s : H0 a = some (.frz ob (.tup vs))) (rs : Rs K H0 xs vs) : ItOk K H0 (Itt K a) ⟨xs, fun _ => True⟩ := by
  intro i H M t rep _
  have s' : SqT K H a vs := .inl (.inr ⟨ob, t.fr _ _ _ s⟩)
  have rs' := rs.mono t
  refine ⟨fun x ex => ?_, fun e => ⟨vs, s', by rw [rs.len]; exact Nat.le_of_eq e.symm⟩⟩
  obtain ⟨v, ev, rv⟩ := rs'.get ex
  refine ⟨⟨vs, v, s', ev⟩, fun v' H' ⟨eH, hy⟩ => ?_⟩
  subst eH
  have e2 := hy vs s'
  rw [ev] at e2
  cases e2
  exact ⟨Go.refl, rep, rv⟩
theorem itok_list {K : PySem.W.Frag} {H0 : Hp} {p : Addr} {xs : List D} : ItOk K H0 (Itl K p) ⟨xs, fun M => LS M p xs⟩ := by
  intro i H M t rep g
  obtain ⟨vs, s, rs⟩ := rep.ls g
  refine ⟨fun x ex => ?_, fun e => ⟨vs, s, by rw [rs.len]; exact Nat.le_of_eq e.symm⟩⟩
  obtain ⟨v, ev, rv⟩ := rs.get ex
  refine ⟨⟨vs, v, s, ev⟩, fun v' H' ⟨eH, hy⟩ => ?_⟩
  subst eH
  have e2 := hy vs s
  rw [ev] at e2
  cases e2
  exact ⟨Go.refl, rep, rv⟩
theorem itok_str {K : PySem.W.Frag} {H0 : Hp} {z : Str} : ItOk K H0 (Its z) ⟨z.cps.toList.map fun c => .str ⟨#[c]⟩, fun _ => True⟩ := by
  intro i H M t rep _
  refine ⟨fun x ex => ?_, fun e => ?_⟩
  · rw [List.getElem?_map] at ex
    obtain ⟨c, hc, rfl⟩ := Option.map_eq_some_iff.mp ex
    have hc' : z.cps[i]? = some c := by simpa using hc
    refine ⟨(Array.getElem?_eq_some_iff.mp hc').1, fun v' H' ⟨eH, c', e1, e2⟩ => ?_⟩
    subst eH e2
    rw [hc'] at e1
    cases e1
    exact ⟨Go.refl, rep, R.str'⟩
  · show z.cps.size ≤ i
    have e : i = (z.cps.toList.map fun c => D.str ⟨#[c]⟩).length := e
    rw [List.length_map, Array.length_toList] at e
    exact Nat.le_of_eq e.symm
theorem i_seq (h : PE3 X B e de) : PI3 X B tg e (dSeqI de) := by
  obtain ⟨t, h1, h2⟩ := h.ex
  refine ⟨_, pi_seq h1, fun σ H δ M Q Qd sl rep bb h q => h2 σ H δ M _ _ sl rep bb h fun v H1 x M1 g rep1 r h1 => ?_⟩
  cases x with
  | tup xs =>
    obtain ⟨a, vs, rfl, s, rs⟩ := r.untup
    exact .inl ⟨a, rfl, .inr ⟨⟨vs, SqT.of s⟩, q _ _ _ _ g rep1 (itok_tup s rs) h1⟩⟩
  | bt xs =>
    obtain ⟨a, ob, vs, rfl, s, _, rs⟩ := r.unbt
    exact .inl ⟨a, rfl, .inr ⟨⟨vs, .inl (.inr ⟨ob, s⟩)⟩, q _ _ _ _ g rep1 (itok_bt s rs) h1⟩⟩
  | ref p =>
    obtain ⟨xs, l, h1⟩ := h1
    obtain ⟨vs, s, rs⟩ := rep1.ls l
    exact .inl ⟨p, r.ref_, .inl ⟨⟨vs, s⟩, q _ _ _ _ g rep1 itok_list h1⟩⟩
  | str z => exact .inr ⟨z, r.str_, q _ _ _ _ g rep1 itok_str h1⟩
  | _ => exact h1.elim
/-- range -/
def rngD (a b : Int) : List D := (List.range (b - a).toNat).map fun (i : Nat) => .int (a + i)
theorem rngD_get {a b : Int} {i : Nat} {x : D} (h : (rngD a b)[i]? = some x) : i < (b - a).toNat ∧ x = .int (a + i) := by
  unfold rngD at h
  rw [List.getElem?_map] at h
  obtain ⟨j, hj, rfl⟩ := Option.map_eq_some_iff.mp h
  obtain ⟨h1, h2⟩ := List.getElem?_eq_some_iff.mp hj
  rw [List.length_range] at h1
  rw [List.getElem_range] at h2
  subst h2
  exact ⟨h1, rfl⟩
theorem rngD_len (a b : Int) : (rngD a b).length = (b - a).toNat := by unfold rngD; rw [List.length_map, List.length_range]
theorem itok_rng {K : PySem.W.Frag} {H0 : Hp} {a b : Int} : ItOk K H0 (Itr a (b - a).toNat) ⟨rngD a b, fun _ => True⟩ := by
  intro i H M t rep _
  refine ⟨fun x ex => ?_, fun e => ?_⟩
  · obtain ⟨h1, rfl⟩ := rngD_get ex
    refine ⟨h1, fun v' H' ⟨eH, ev⟩ => ?_⟩
    subst eH ev
    exact ⟨Go.refl, rep, R.int'⟩
  · have e : i = (rngD a b).length := e
    rw [rngD_len] at e
    exact Nat.le_of_eq e.symm
def dRng1 (dr : DA) : DI := fun δ M Q => dr δ M fun xs M1 => match xs with
  | [.int j] => (-(2 ^ 62) ≤ j ∧ j < 2 ^ 62) ∧ Q ⟨rngD 0 j, fun _ => True⟩ M1
  | _ => False
def dRng2 (dr : DA) : DI := fun δ M Q => dr δ M fun xs M1 => match xs with
  | [.int i, .int j] => (-(2 ^ 62) ≤ i ∧ i < 2 ^ 62 ∧ -(2 ^ 62) ≤ j ∧ j < 2 ^ 62) ∧ Q ⟨rngD i j, fun _ => True⟩ M1
  | _ => False
theorem i_rng1 (hg : Gl X "range") (hm : X.mg "range" = none) (ha : PA3 X B [e] dr) (hs : starEach [e] X.env = [(false, eval e X.env)] := by rfl) : PI3 X B tg (.Call (.Name "range" p) [e] [] pos) (dRng1 dr) := by
  obtain ⟨t, h1, h2⟩ := ha.ex
  refine ⟨_, pi_range1 hg hm h1 hs, fun σ H δ M Q Qd sl rep bb h q => h2 σ H δ M _ _ sl rep bb h fun vs H1 xs M1 g rep1 rs hl h1 => ?_⟩
  clear hl
  split at h1
  · rename_i j
    obtain ⟨v, rfl, r⟩ := rs.one_
    refine ⟨j, by rw [r.int_], h1.1.1, h1.1.2, ?_⟩
    have := q (Itr 0 (j - 0).toNat) H1 _ M1 g rep1 itok_rng h1.2
    rwa [Int.sub_zero] at this
  · exact h1.elim
theorem i_rng2 (hg : Gl X "range") (hm : X.mg "range" = none) (ha : PA3 X B [e, e2] dr) (hs : starEach [e, e2] X.env = [(false, eval e X.env), (false, eval e2 X.env)] := by rfl) (hs2 : starEach [e2] X.env = [(false, eval e2 X.env)] := by rfl) : PI3 X B tg (.Call (.Name "range" p) [e, e2] [] pos) (dRng2 dr) := by
  obtain ⟨t, h1, h2⟩ := ha.ex
  refine ⟨_, pi_range2 hg hm h1 hs hs2, fun σ H δ M Q Qd sl rep bb h q => h2 σ H δ M _ _ sl rep bb h fun vs H1 xs M1 g rep1 rs hl h1 => ?_⟩
  clear hl
  split at h1
  · rename_i i j
    obtain ⟨v, u, rfl, r1, r2⟩ := rs.two_
    exact ⟨i, j, by rw [r1.int_, r2.int_], h1.1, q _ H1 _ M1 g rep1 itok_rng h1.2⟩
  · exact h1.elim
/-- range downwards by one -/
def downD (a b : Int) : List D := (List.range (a - b).toNat).map fun (i : Nat) => .int (a - i)
def dRngDn (dr : DA) : DI := fun δ M Q => dr δ M fun xs M1 => match xs with
  | [.int i, .int j, .int k] => (-(2 ^ 62) ≤ i ∧ i < 2 ^ 62 ∧ -(2 ^ 62) ≤ j ∧ j < 2 ^ 62 ∧ k = -1) ∧ Q ⟨downD i j, fun _ => True⟩ M1
  | _ => False
theorem itok_dn {K : PySem.W.Frag} {H0 : Hp} {a b : Int} : ItOk K H0 (Itc a (-1) (a - b).toNat) ⟨downD a b, fun _ => True⟩ := by
  intro i H M t rep _
  refine ⟨fun x ex => ?_, fun e => ?_⟩
  · have ex : (downD a b)[i]? = some x := ex
    unfold downD at ex
    rw [List.getElem?_map] at ex
    obtain ⟨j, hj, rfl⟩ := Option.map_eq_some_iff.mp ex
    obtain ⟨h1, h2⟩ := List.getElem?_eq_some_iff.mp hj
    rw [List.length_range] at h1
    rw [List.getElem_range] at h2
    subst h2
    refine ⟨h1, fun v' H' ⟨eH, ev⟩ => ?_⟩
    subst eH ev
    refine ⟨Go.refl, rep, ?_⟩
    rw [show a + ((i : Nat) : Int) * -1 = a - (i : Nat) by omega]
    exact R.int'
  · have e : i = (downD a b).length := e
    unfold downD at e
    rw [List.length_map, List.length_range] at e
    exact Nat.le_of_eq e.symm
theorem i_rngDn (hg : Gl X "range") (hm : X.mg "range" = none) (ha : PA3 X B [e, e2, e3] dr) (hs : starEach [e, e2, e3] X.env = (false, eval e X.env) :: starEach [e2, e3] X.env := by rfl) (hpl : (backTo pos (starEach [e2, e3] X.env)).any (·.1) = false := by rfl) :
    PI3 X B tg (.Call (.Name "range" p) [e, e2, e3] [] pos) (dRngDn dr) := by
  obtain ⟨t, h1, h2⟩ := ha.ex
  refine ⟨_, pi_range3 hg hm h1 hs hpl, fun σ H δ M Q Qd sl rep bb h q => h2 σ H δ M _ _ sl rep bb h fun vs H1 xs M1 g rep1 rs hl h1 => ?_⟩
  clear hl
  split at h1
  · rename_i i j k
    obtain ⟨v, us, rfl, r1, rs⟩ := rs.ucons
    obtain ⟨u, w, rfl, r2, r3⟩ := rs.two_
    obtain ⟨⟨a1, a2, a3, a4, rfl⟩, h1⟩ := h1
    exact ⟨i, j, -1, (i - j).toNat, by rw [r1.int_, r2.int_, r3.int_], RgC.neg a1 a2 a3 a4, q _ H1 _ M1 g rep1 itok_dn h1⟩
  · exact h1.elim
/-- enumerate -/
def enumD (xs : List D) : List D := xs.zipIdx.map fun p => .tup [.int (p.2 : Nat), p.1]
theorem enumD_get {xs : List D} {i : Nat} {y : D} (h : (enumD xs)[i]? = some y) : ∃ x, xs[i]? = some x ∧ y = .tup [.int (i : Nat), x] := by
  unfold enumD at h
  rw [List.getElem?_map, List.getElem?_zipIdx] at h
  obtain ⟨q, hq, rfl⟩ := Option.map_eq_some_iff.mp h
  obtain ⟨x, hx, rfl⟩ := Option.map_eq_some_iff.mp hq
  exact ⟨x, hx, by simp⟩
theorem enumD_len (xs : List D) : (enumD xs).length = xs.length := by unfold enumD; rw [List.length_map, List.length_zipIdx]
def iEnumA (K : PySem.W.Frag) (ta : TA) : TI := fun σ H R => ta σ H fun vs H1 => ∃ a xs, vs = [.ref a] ∧ ((SqL K H1 a xs ∧ R (Ite K a) H1) ∨ (Rd H1 a (.tup xs) ∧ R (IteT K a) H1))
theorem pi_enumA {tpos : Pos} {elts : List Expr} {kk : Nat} {ta : TA} (hg : Gl X "enumerate") (hm : X.mg "enumerate" = none) (ha : PA X [e] ta) (hs : starEach [e] X.env = [(false, eval e X.env)] := by rfl) :
    PI X (.Tuple elts kk tpos) (.Call (.Name "enumerate" p) [e] [] pos) (iEnumA X.K ta) := by
  refine ⟨fun pins s σ H Rr I h => ?_⟩
  refine Call_ (ld_blt I hg hm boot_enumerate (PyProof.Rows.callWith_type1 (thn (ha.run pos pins s σ H _ I h) fun us s1 ⟨vs, H1, I1, r1, a, xs, ev, q⟩ => ?_) hs rfl))
  subst ev
  obtain ⟨u, rfl, ru⟩ := vals1 r1
  cases ru
  have two : ∀ b, b ∈ [s1.heap.objs.size + 1, s1.heap.objs.size] → FpOk X pins H1 b := fun b hb => by
    have le : s1.heap.objs.size ≤ b := by
      rcases List.mem_cons.mp hb with z | z
      · rw [z]; exact Nat.le_succ _
      · rw [List.mem_singleton.mp z]; exact Nat.le_refl _
    exact I1.fpOk le (I1.hok.fresh le)
  rcases q with ⟨hq, q⟩ | ⟨hq, q⟩
  · obtain ⟨its, _, pl, _⟩ := I1.list hq
    refine t3_enum_begins (begins_list a its.toArray) pl.isList fun h' he ho hk => wpAny_pyIter_enum he ?_
    exact ⟨_, [s1.heap.objs.size + 1, s1.heap.objs.size], _, _, H1, rfl, I1.kept (t' := s1.toks) hk, turn_enum a _ s1.heap.objs.size, ⟨⟨.none, he⟩, ⟨_, ho, rfl, rfl⟩, Nat.succ_ne_self _⟩, two, q⟩
  · obtain ⟨its, _, tp, _⟩ := I1.tuple (.inl hq)
    have lt : a < s1.heap.objs.size := by
      rcases hq with hq | ⟨_, hq⟩
      · exact I1.hok.lt hq
      · exact I1.hok.lt hq
    refine t3_enum_begins (begins_tuple a its.toArray) tp fun h' he ho hk => wpAny_pyIter_enum he ?_
    exact ⟨_, [s1.heap.objs.size + 1, s1.heap.objs.size], _, _, H1, rfl, I1.kept (t' := s1.toks) hk, turn_enumT a _ s1.heap.objs.size (Ne.symm (Nat.ne_of_lt (Nat.lt_succ_of_lt lt))) (Nat.ne_of_lt lt), ⟨⟨.none, he⟩, ⟨_, ho, rfl, rfl⟩, Nat.succ_ne_self _⟩, two, q⟩
def dEnumI (dr : DA) : DI := fun δ M Q => dr δ M fun xs M1 => match xs with
  | [.tup ys] => Q ⟨enumD ys, fun _ => True⟩ M1
  | [.bt ys] => Q ⟨enumD ys, fun _ => True⟩ M1
  | [.ref p] => ∃ ys, LS M1 p ys ∧ Q ⟨enumD ys, fun M => LS M p ys⟩ M1
  | _ => False
theorem pair_ok {K : PySem.W.Frag} {H : Hp} {M : Hd} {T : Addr} {a b : V} {x y : D} (rep : Rep K H M) (hT : H T = none) (ra : R K H x a) (rb : R K H y b) : Go H M (upd H T (.tup [a, b])) M ∧ Rep K (upd H T (.tup [a, b])) M ∧ R K (upd H T (.tup [a, b])) (.tup [x, y]) (.ref T) :=
  rep.newT hT (.cons ra (.cons rb .nil))
theorem i_enum {tpos : Pos} {elts : List Expr} {kk : Nat} (hg : Gl X "enumerate") (hm : X.mg "enumerate" = none) (ha : PA3 X B [e] dr) (hs : starEach [e] X.env = [(false, eval e X.env)] := by rfl) :
    PI3 X B (.Tuple elts kk tpos) (.Call (.Name "enumerate" p) [e] [] pos) (dEnumI dr) := by
  obtain ⟨t, h1, h2⟩ := ha.ex
  refine ⟨_, pi_enumA hg hm h1 hs, fun σ H δ M Q Qd sl rep bb h q => h2 σ H δ M _ _ sl rep bb h fun vs H1 xs M1 g rep1 rs hl h1 => ?_⟩
  clear hl
  split at h1
  · rename_i ys
    obtain ⟨v, rfl, r⟩ := rs.one_
    obtain ⟨a, us, rfl, s, rs'⟩ := r.untup
    refine ⟨a, us, rfl, .inr ⟨.inl s, q _ _ _ _ g rep1 (fun i H M t rep _ => ?_) h1⟩⟩
    have s' := t _ _ s
    have rs2 := rs'.mono t
    refine ⟨fun x ex => ?_, fun e => ⟨us, SqT.of s', by rw [rs2.len, ← enumD_len]; exact e⟩⟩
    obtain ⟨d, ed, rfl⟩ := enumD_get ex
    obtain ⟨v, ev, rv⟩ := rs2.get ed
    refine ⟨⟨us, v, SqT.of s', ev⟩, fun v' H' ⟨T, v2, e1, hT, e2, hy⟩ => ?_⟩
    subst e1 e2
    have e3 := hy us (SqT.of s')
    rw [ev] at e3
    cases e3
    exact pair_ok rep hT R.int' rv
  · rename_i ys
    obtain ⟨v, rfl, r⟩ := rs.one_
    obtain ⟨a, ob, us, rfl, s, _, rs'⟩ := r.unbt
    refine ⟨a, us, rfl, .inr ⟨.inr ⟨ob, s⟩, q _ _ _ _ g rep1 (fun i H M t rep _ => ?_) h1⟩⟩
    have s' : SqT X.K H a us := .inl (.inr ⟨ob, t.fr _ _ _ s⟩)
    have rs2 := rs'.mono t
    refine ⟨fun x ex => ?_, fun e => ⟨us, s', by rw [rs2.len, ← enumD_len]; exact e⟩⟩
    obtain ⟨d, ed, rfl⟩ := enumD_get ex
    obtain ⟨v, ev, rv⟩ := rs2.get ed
    refine ⟨⟨us, v, s', ev⟩, fun v' H' ⟨T, v2, e1, hT, e2, hy⟩ => ?_⟩
    subst e1 e2
    have e3 := hy us s'
    rw [ev] at e3
    cases e3
    exact pair_ok rep hT R.int' rv
  · rename_i pp
    obtain ⟨v, rfl, r⟩ := rs.one_
    obtain ⟨ys, l, h1⟩ := h1
    obtain ⟨us, s, _⟩ := rep1.ls l
    refine ⟨pp, us, by rw [r.ref_], .inl ⟨s, q _ _ _ _ g rep1 (fun i H M t rep gg => ?_) h1⟩⟩
    obtain ⟨us, s', rs2⟩ := rep.ls gg
    refine ⟨fun x ex => ?_, fun e => ⟨us, s', by rw [rs2.len, ← enumD_len]; exact Nat.le_of_eq e.symm⟩⟩
    obtain ⟨d, ed, rfl⟩ := enumD_get ex
    obtain ⟨v, ev, rv⟩ := rs2.get ed
    refine ⟨⟨us, v, s', ev⟩, fun v' H' ⟨T, v2, e1, hT, e2, hy⟩ => ?_⟩
    subst e1 e2
    have e3 := hy us s'
    rw [ev] at e3
    cases e3
    exact pair_ok rep hT R.int' rv
  · exact h1.elim
/-- zip of two of a kind -/
def zipD (xs ys : List D) : List D := (xs.zip ys).map fun p => .tup [p.1, p.2]
theorem zipD_get {xs ys : List D} {i : Nat} {z : D} (h : (zipD xs ys)[i]? = some z) : ∃ x y, xs[i]? = some x ∧ ys[i]? = some y ∧ z = .tup [x, y] := by
  unfold zipD at h
  rw [List.getElem?_map] at h
  obtain ⟨q, hq, rfl⟩ := Option.map_eq_some_iff.mp h
  obtain ⟨h1, h2⟩ := List.getElem?_zip_eq_some.mp hq
  exact ⟨_, _, h1, h2, rfl⟩
theorem zipD_len (xs ys : List D) : (zipD xs ys).length = min xs.length ys.length := by unfold zipD; rw [List.length_map, List.length_zip]
def dZipI (dr : DA) : DI := fun δ M Q => dr δ M fun xs M1 => match xs with
  | [.tup xs, .tup ys] => Q ⟨zipD xs ys, fun _ => True⟩ M1
  | [.ref p, .ref q] => ∃ xs ys, LS M1 p xs ∧ LS M1 q ys ∧ Q ⟨zipD xs ys, fun M => LS M p xs ∧ LS M q ys⟩ M1
  | _ => False
theorem i_zip {tpos : Pos} {elts : List Expr} {kk : Nat} (hg : Gl X "zip") (hm : X.mg "zip" = none) (ha : PA3 X B [e, e2] dr) (hs : starEach [e, e2] X.env = (false, eval e X.env) :: starEach [e2] X.env := by rfl) (hpl : (backTo pos (starEach [e2] X.env)).any (·.1) = false := by rfl) :
    PI3 X B (.Tuple elts kk tpos) (.Call (.Name "zip" p) [e, e2] [] pos) (dZipI dr) := by
  obtain ⟨t, h1, h2⟩ := ha.ex
  refine ⟨_, RZ.pi_zipA hg hm h1 hs hpl, fun σ H δ M Q Qd sl rep bb h q => h2 σ H δ M _ _ sl rep bb h fun vs H1 xs M1 g rep1 rs hl h1 => ?_⟩
  clear hl
  split at h1
  · rename_i xs ys
    obtain ⟨v, u, rfl, r1, r2⟩ := rs.two_
    obtain ⟨a, us, rfl, s, rs1⟩ := r1.untup
    obtain ⟨b, ws, rfl, s2, rs2⟩ := r2.untup
    refine ⟨a, b, us, ws, rfl, .inr ⟨SqT.of s, SqT.of s2, q _ _ _ _ g rep1 (fun i H M t rep _ => ?_) h1⟩⟩
    have s' := t _ _ s
    have s2' := t _ _ s2
    have k1 := rs1.mono t
    have k2 := rs2.mono t
    refine ⟨fun x ex => ?_, fun e => ⟨us, ws, SqT.of s', SqT.of s2', ?_⟩⟩
    · obtain ⟨d, d', ed, ed', rfl⟩ := zipD_get ex
      obtain ⟨v, ev, rv⟩ := k1.get ed
      obtain ⟨v', ev', rv'⟩ := k2.get ed'
      refine ⟨⟨us, ws, v, v', SqT.of s', SqT.of s2', ev, ev'⟩, fun z H' ⟨T, y1, y2, e1, hT, e2, hy, hy'⟩ => ?_⟩
      subst e1 e2
      have e3 := hy us (SqT.of s')
      have e4 := hy' ws (SqT.of s2')
      rw [ev] at e3
      rw [ev'] at e4
      cases e3
      cases e4
      exact pair_ok rep hT rv rv'
    · have e : i = (zipD xs ys).length := e
      rw [zipD_len] at e
      rw [k1.len, k2.len]
      omega
  · rename_i p1 p2
    obtain ⟨v, u, rfl, r1, r2⟩ := rs.two_
    obtain ⟨xs, ys, l1, l2, h1⟩ := h1
    obtain ⟨us, s, _⟩ := rep1.ls l1
    obtain ⟨ws, s2, _⟩ := rep1.ls l2
    refine ⟨p1, p2, us, ws, by rw [r1.ref_, r2.ref_], .inl ⟨s, s2, q _ _ _ _ g rep1 (fun i H M t rep gg => ?_) h1⟩⟩
    obtain ⟨us, s', k1⟩ := rep.ls gg.1
    obtain ⟨ws, s2', k2⟩ := rep.ls gg.2
    refine ⟨fun x ex => ?_, fun e => ⟨us, ws, s', s2', ?_⟩⟩
    · obtain ⟨d, d', ed, ed', rfl⟩ := zipD_get ex
      obtain ⟨v, ev, rv⟩ := k1.get ed
      obtain ⟨v', ev', rv'⟩ := k2.get ed'
      refine ⟨⟨us, ws, v, v', s', s2', ev, ev'⟩, fun z H' ⟨T, y1, y2, e1, hT, e2, hy, hy'⟩ => ?_⟩
      subst e1 e2
      have e3 := hy us s'
      have e4 := hy' ws s2'
      rw [ev] at e3
      rw [ev'] at e4
      cases e3
      cases e4
      exact pair_ok rep hT rv rv'
    · have e : i = (zipD xs ys).length := e
      rw [zipD_len] at e
      rw [k1.len, k2.len]
      omega
  · exact h1.elim
end
end T3
namespace T3
open PySem PySem.Spec PyProof.Rows L2
/-! ### the reading that a reading over data stands for -/
def tOf (K : PySem.W.Frag) (B : Am) (d : DE) : TE := fun σ H Q => ∃ (δ : DS) (M : Hd) (Qd : DK), Sl K H σ δ ∧ Rep K H M ∧ B.B H M ∧ d δ M Qd ∧ ∀ v H' x M', Go H M H' M' → Rep K H' M' → R K H' x v → Qd x M' → Q v H'
def tOfT (K : PySem.W.Frag) (B : Am) (d : DT) : TT := fun σ H Q => ∃ (δ : DS) (M : Hd) (Qd : Bool → Hd → Prop), Sl K H σ δ ∧ Rep K H M ∧ B.B H M ∧ d δ M Qd ∧ ∀ b H' M', Go H M H' M' → Rep K H' M' → Qd b M' → Q b H'
section
variable {X : Cx} {B : Am}
theorem PE3.can {e : Expr} {d : DE} (h : PE3 X B e d) : PE X e (tOf X.K B d) := by
  obtain ⟨t, h1, h2⟩ := h.ex
  exact ⟨fun pins s σ H Q I ⟨δ, M, Qd, sl, rep, bb, hd, q⟩ => h1.run pins s σ H Q I (h2 σ H δ M Q Qd sl rep bb hd q)⟩
theorem snd_tOf {K : PySem.W.Frag} {d : DE} : SndE K B (tOf K B d) d := fun σ H δ M Q Qd sl rep bb h q => ⟨δ, M, Qd, sl, rep, bb, h, q⟩
theorem snd_tOfT {K : PySem.W.Frag} {d : DT} : SndT K B (tOfT K B d) d := fun σ H δ M Q Qd sl rep bb h q => ⟨δ, M, Qd, sl, rep, bb, h, q⟩
structure PTs3 (X : Cx) (B : Am) (ifs : List Expr) (d : DT) : Prop where
  ex : ∃ t, PTs X ifs t ∧ SndT X.K B t d
theorem PTs3.can {e : List Expr} {d : DT} (h : PTs3 X B e d) : PTs X e (tOfT X.K B d) := by
  obtain ⟨t, h1, h2⟩ := h.ex
  exact ⟨fun pins s σ H Q I ⟨δ, M, Qd, sl, rep, bb, hd, q⟩ => h1.run pins s σ H Q I (h2 σ H δ M Q Qd sl rep bb hd q)⟩
def dYes : DT := fun _ M Q => Q true M
theorem ts_nil : PTs3 X B [] dYes := ⟨_, pts_nil, fun σ H δ M Q Qd sl rep bb h q => q _ _ _ Go.refl rep h⟩
theorem ts_one {c : Expr} {d : DT} (h : PT3 X B c d) : PTs3 X B [c] d := by
  obtain ⟨t, h1, h2⟩ := h.ex
  exact ⟨_, pts_one h1, h2⟩
/-! ### for, while -/
def dFor (di : DI) (g : Tg) (tb : DSt) : DSt := fun En δ M => di δ M fun W M1 => ∃ P : List D → DS → Hd → Prop, P [] δ M1 ∧
  (∀ pre x post δ' M', W.xs = pre ++ x :: post → P pre δ' M' → W.G M' ∧ dTg g x δ' fun δ2 =>
    tb { En with nx := fun δ3 M3 => ∃ M4, Sub M3 M4 ∧ P (pre ++ [x]) δ3 M4, ct := fun δ3 M3 => ∃ M4, Sub M3 M4 ∧ P (pre ++ [x]) δ3 M4, bk := En.nx } δ2 M') ∧
  ∀ δ' M', P W.xs δ' M' → W.G M' ∧ En.nx δ' M'
variable {tg iter e : Expr} {body : List Stmt} {di : DI} {g : Tg} {tb : DSt} {pos : Pos}
theorem s_for (hp : PassesOwn (model X.prog X.w) X.A X.env X.xe) (hc : X.calm = true) (hi : PI3 X B tg iter di) (hg : PG3 X tg g) (hb : PB3 X B body tb) (hs : ∀ x, foldedSetIterable iter X.env x = pure x := by intro _; rfl) :
    PS3 X B (.For tg iter body [] pos) (dFor di g tb) := by
  obtain ⟨ti, i1, i2⟩ := hi.ex
  obtain ⟨t, b1, b2⟩ := hb.ex
  refine ⟨_, ps_for hp hc i1 hg.ex b1 hs, fun σ H δ M D Dd sl rep bb q eo => i2 σ H δ M _ _ sl rep bb q fun J H1 W M1 g1 rep1 ok ⟨P, p0, turn, fin⟩ => ?_⟩
  have sl1 := sl.mono (rep.tx g1)
  have bb1 := B.pres _ _ _ _ g1 bb
  have eo1 := eo.mono g1
  refine ⟨fun i m σ' H' => ∃ pre post δ' M', W.xs = pre ++ post ∧ pre.length = i ∧ m = post.length ∧ Sl X.K H' σ' δ' ∧ Rep X.K H' M' ∧ Go H1 M1 H' M' ∧ P pre δ' M', ⟨_, [], W.xs, δ, M1, rfl, rfl, rfl, sl1, rep1, Go.refl, p0⟩, ?_⟩
  rintro i m σ' H' ⟨pre, post, δ', M', ex, rfl, rfl, sl', rep', g', p⟩
  cases post with
  | nil =>
    rw [List.append_nil] at ex
    subst ex
    obtain ⟨gg, nx⟩ := fin δ' M' p
    exact .inl ⟨(ok _ H' M' (rep1.tx g') rep' gg).2 rfl, eo1.nx _ _ _ _ g' sl' rep' nx⟩
  | cons x post =>
    obtain ⟨gg, h⟩ := turn pre x post δ' M' ex p
    have at_ : W.xs[pre.length]? = some x := by rw [ex]; simp
    obtain ⟨go, yld⟩ := (ok _ H' M' (rep1.tx g') rep' gg).1 x at_
    refine .inr ⟨go, fun σ2 H2 => ∃ δ2 M2, Sl X.K H2 σ2 δ2 ∧ Rep X.K H2 M2 ∧ Go H1 M1 H2 M2 ∧ P (pre ++ [x]) δ2 M2, fun σ2 H2 ⟨δ2, M2, a, b, c, d⟩ => ⟨post.length, Nat.lt_succ_self _, pre ++ [x], post, δ2, M2, by rw [ex]; simp, by simp, rfl, a, b, c, d⟩, fun v H2 y => ?_⟩
    obtain ⟨g2, rep2, rv⟩ := yld v H2 y
    have g12 := g'.trans g2
    refine tg_run g (M := M') (sl'.mono (rep'.tx g2)) rv h fun σ3 δ3 sl3 h3 _ => ?_
    have back : ∀ σ4 H4 δ4 M4, Go H2 M' H4 M4 → Sl X.K H4 σ4 δ4 → Rep X.K H4 M4 → (∃ M5, Sub M4 M5 ∧ P (pre ++ [x]) δ4 M5) → ∃ δ2 M2, Sl X.K H4 σ4 δ2 ∧ Rep X.K H4 M2 ∧ Go H1 M1 H4 M2 ∧ P (pre ++ [x]) δ2 M2 := fun σ4 H4 δ4 M4 g4 sl4 rep4 ⟨M5, sb, p5⟩ =>
      ⟨δ4, M5, sl4, (sb.fgt (K := X.K)).1 _ rep4, (g12.trans g4).trans (sb.fgt (K := X.K)).go, p5⟩
    exact b2 σ3 H2 δ3 M' _ _ sl3 rep2 (B.pres _ _ _ _ g12 bb1) h3 ⟨fun a b c d => back a b c d, fun a b c d e => eo1.rt a b c d (g12.trans e), fun a b c d e => eo1.nx a b c d (g12.trans e), fun a b c d => back a b c d⟩
def dWhile (c : DT) (tb : DSt) : DSt := fun D δ M => ∃ P : Nat → DS → Hd → Prop, (∃ m, P m δ M) ∧ ∀ m δ' M', P m δ' M' → c δ' M' fun b M1 =>
  (b = true → tb { D with nx := fun δ3 M3 => ∃ M4 m', Sub M3 M4 ∧ m' < m ∧ P m' δ3 M4, ct := fun δ3 M3 => ∃ M4 m', Sub M3 M4 ∧ m' < m ∧ P m' δ3 M4, bk := D.nx } δ' M1) ∧ (b = false → D.nx δ' M1)
theorem s_while {c : Expr} {dc : DT} (hp : PassesOwn (model X.prog X.w) X.A X.env X.xe) (hc : PT3 X B c dc) (hb : PB3 X B body tb) : PS3 X B (.While c body [] pos) (dWhile dc tb) := by
  obtain ⟨tc, c1, c2⟩ := hc.ex
  obtain ⟨t, b1, b2⟩ := hb.ex
  refine ⟨_, ps_while hp c1 b1, fun σ H δ M D Dd sl rep bb ⟨P, ⟨m0, p0⟩, turn⟩ eo => ?_⟩
  refine ⟨fun m σ' H' => ∃ δ' M', Sl X.K H' σ' δ' ∧ Rep X.K H' M' ∧ Go H M H' M' ∧ P m δ' M', ⟨m0, δ, M, sl, rep, Go.refl, p0⟩, ?_⟩
  rintro m σ' H' ⟨δ', M', sl', rep', g', p⟩
  refine c2 σ' H' δ' M' _ _ sl' rep' (B.pres _ _ _ _ g' bb) (turn m δ' M' p) fun b H1 M1 g1 rep1 ⟨q1, q2⟩ => ?_
  have g01 := g'.trans g1
  have sl1 := sl'.mono (rep'.tx g1)
  cases b with
  | false => exact iteF (eo.nx _ _ _ _ g01 sl1 rep1 (q2 rfl))
  | true =>
    refine iteT ⟨fun σ2 H2 => ∃ δ2 M2 m', Sl X.K H2 σ2 δ2 ∧ Rep X.K H2 M2 ∧ Go H M H2 M2 ∧ m' < m ∧ P m' δ2 M2, fun σ2 H2 ⟨δ2, M2, m', a, b, c, d, e⟩ => ⟨m', d, δ2, M2, a, b, c, e⟩, ?_⟩
    have back : ∀ σ4 H4 δ4 M4, Go H1 M1 H4 M4 → Sl X.K H4 σ4 δ4 → Rep X.K H4 M4 → (∃ M5 m', Sub M4 M5 ∧ m' < m ∧ P m' δ4 M5) → ∃ δ2 M2 m', Sl X.K H4 σ4 δ2 ∧ Rep X.K H4 M2 ∧ Go H M H4 M2 ∧ m' < m ∧ P m' δ2 M2 := fun σ4 H4 δ4 M4 g4 sl4 rep4 ⟨M5, m', sb, lt, p5⟩ =>
      ⟨δ4, M5, m', sl4, (sb.fgt (K := X.K)).1 _ rep4, (g01.trans g4).trans (sb.fgt (K := X.K)).go, lt, p5⟩
    exact b2 σ' H1 δ' M1 _ _ sl1 rep1 (B.pres _ _ _ _ g01 bb) (q1 rfl) ⟨fun a b c d => back a b c d, fun a b c d e => eo.rt a b c d (g01.trans e), fun a b c d e => eo.nx a b c d (g01.trans e), fun a b c d => back a b c d⟩
/-! ### list comprehensions -/
theorem Rep.hid {K : PySem.W.Frag} {H : Hp} {M : Hd} (rep : Rep K H M) {p : Addr} {u u' : HO} (n : M p = none) (h : H p = some u) (nt : NotTup u) : Rep K (upd H p u') M := fun a o e =>
  (rep a o e).stay (tx_put h nt) (fun b v hb hv => by
    have : b ≠ p := by
      rintro rfl
      rcases hb with hb | hb
      · rw [← hb, n] at e; cases e
      · rw [n] at hb; cases hb
    rw [upd_ne this]; exact hv) fun _ _ hb => hb
theorem Rep.shw {K : PySem.W.Frag} {H : Hp} {M : Hd} (rep : Rep K H M) {p : Addr} {vs : List V} {xs : List D} (n : M p = none) (h : H p = some (.lst vs)) (rs : Rs K H xs vs) : Rep K H (up M p (.lst xs)) := fun a o e => by
  by_cases z : a = p
  · subst z
    rw [up_same] at e
    cases e
    exact ⟨vs, h, rs⟩
  · rw [up_ne z] at e
    refine (rep a o e).stay Tx.refl (fun _ _ _ q => q) fun b c hb => ?_
    have : b ≠ p := by rintro rfl; rw [n] at hb; cases hb
    rw [up_ne this]; exact hb
def dLc (di : DI) (g : Tg) (dt : DT) (de : DE) (vs : List Nat) : DE := fun δ M Q => di δ M fun W M1 => W.xs.length ≤ sizeLine ∧ ∃ P : List D → List D → Hd → Prop, P [] [] M1 ∧
  (∀ pre x post acc M', W.xs = pre ++ x :: post → P pre acc M' → W.G M' ∧ dTg g x (wipeD δ vs) fun δ2 => dt δ2 M' fun b M2 =>
    (b = true → de δ2 M2 fun y M3 => ∃ M4, Sub M3 M4 ∧ P (pre ++ [x]) (acc ++ [y]) M4) ∧ (b = false → ∃ M4, Sub M2 M4 ∧ P (pre ++ [x]) acc M4)) ∧
  ∀ acc M', P W.xs acc M' → W.G M' ∧ ∀ p, M' p = none → Q (.ref p) (up M' p (.lst acc))
theorem wipe_sn {i : Nat} : ∀ (vs : List Nat) (σ : L2.St), (L2.wipe (σ.set i none) vs).set i none = (L2.wipe σ vs).set i none
  | [], σ => by show (σ.set i none).set i none = σ.set i none; rw [List.set_set]
  | k :: vs, σ => by
    show ((L2.wipe (σ.set i none) vs).set k none).set i none = ((L2.wipe σ vs).set k none).set i none
    by_cases e : k = i
    · subst e
      rw [List.set_set, List.set_set, wipe_sn vs σ]
    · rw [List.set_comm _ _ e, wipe_sn vs σ, List.set_comm _ _ e]
theorem wipe_wipe (σ : L2.St) : ∀ vs : List Nat, L2.wipe (L2.wipe σ vs) vs = L2.wipe σ vs
  | [] => rfl
  | k :: vs => by
    show (L2.wipe ((L2.wipe σ vs).set k none) vs).set k none = (L2.wipe σ vs).set k none
    rw [wipe_sn, wipe_wipe σ vs]
theorem snd_lc {K : PySem.W.Frag} {wi : TI} {tt : TT} {te : TE} {dt : DT} {de : DE} {vs : List Nat} (hi : SndI K B wi di) (ht : SndT K B tt dt) (he : SndE K B te de) (hv : ∀ i ∈ g.ix, i ∈ vs) : SndE K B (tLc wi (g.L K) tt te vs) (dLc di g dt de vs) := by
  intro σ H δ M Q Qd sl rep bb q k
  refine hi σ H δ M _ _ sl rep bb q fun J H1 W M1 g1 rep1 ok ⟨hz, P, p0, turn, fin⟩ Da hDa => ?_
  have sl1 := sl.mono (rep.tx g1)
  have bb1 := B.pres _ _ _ _ g1 bb
  have nD : M1 Da = none := rep1.free hDa
  refine ⟨fun i m H' => ∃ pre post acc us M', W.xs = pre ++ post ∧ pre.length = i ∧ m = post.length ∧ acc.length ≤ pre.length ∧ Rep K H' M' ∧ M' Da = none ∧ H' Da = some (.lst us) ∧ Rs K H' acc us ∧ Go H1 M1 H' M' ∧ P pre acc M',
    ⟨_, [], W.xs, [], [], M1, rfl, rfl, rfl, Nat.le_refl _, rep1.tup hDa, nD, upd_same, .nil, go_tup hDa, p0⟩, ?_⟩
  rintro i m H' ⟨pre, post, acc, us, M', ex, rfl, rfl, hl, rep', nD', hD', rs', g', p⟩
  cases post with
  | nil =>
    rw [List.append_nil] at ex
    subst ex
    obtain ⟨gg, nx⟩ := fin acc M' p
    refine .inl ⟨(ok _ H' M' (rep1.tx g') rep' gg).2 rfl, ?_⟩
    refine k (.ref Da) H' _ (up M' Da (.lst acc)) ?_ (rep'.shw nD' hD' rs') R.ref' (nx Da nD')
    intro a u ha na
    obtain ⟨ha1, na1⟩ := g1 a u ha na
    obtain ⟨ha2, na2⟩ := g' a u ha1 na1
    have : a ≠ Da := ne_of_none ha1 hDa
    exact ⟨ha2, by rw [up_ne this]; exact na2⟩
  | cons x post =>
    obtain ⟨gg, h⟩ := turn pre x post acc M' ex p
    have at_ : W.xs[pre.length]? = some x := by rw [ex]; simp
    have lt : acc.length < sizeLine := by
      have : W.xs.length = pre.length + (post.length + 1) := by rw [ex]; simp
      omega
    obtain ⟨go, yld⟩ := (ok _ H' M' (rep1.tx g') rep' gg).1 x at_
    refine .inr ⟨go, fun H2 => ∃ acc2 us2 M2, acc2.length ≤ pre.length + 1 ∧ Rep K H2 M2 ∧ M2 Da = none ∧ H2 Da = some (.lst us2) ∧ Rs K H2 acc2 us2 ∧ Go H1 M1 H2 M2 ∧ P (pre ++ [x]) acc2 M2,
      fun H2 ⟨acc2, us2, M2, a, b, c, d, e, f, pp⟩ => ⟨post.length, Nat.lt_succ_self _, pre ++ [x], post, acc2, us2, M2, by rw [ex]; simp, by simp, rfl, by simpa using a, b, c, d, e, f, pp⟩, fun v H2 y => ?_⟩
    obtain ⟨g2, rep2, rv⟩ := yld v H2 y
    have g12 := g'.trans g2
    obtain ⟨hD2, _⟩ := g2 Da _ hD' nD'
    have rs2 := rs'.mono (rep'.tx g2)
    have slw := (sl1.mono (rep1.tx g12)).wipe vs
    refine tg_run g (M := M') slw rv h fun σ3 δ3 sl3 h3 hw => ⟨(hw vs hv).trans (wipe_wipe σ vs), ?_⟩
    refine ht σ3 H2 δ3 M' _ _ sl3 rep2 (B.pres _ _ _ _ g12 bb1) h3 fun b H3 M3 g3 rep3 ⟨q1, q2⟩ => ?_
    have g13 := g12.trans g3
    obtain ⟨hD3, nD3⟩ := g3 Da _ hD2 nD'
    have rs3 := rs2.mono (rep2.tx g3)
    cases b with
    | false =>
      obtain ⟨M4, sb, p4⟩ := q2 rfl
      exact iteF ⟨acc, us, M4, by omega, (sb.fgt (K := K)).1 _ rep3, sb.free nD3, hD3, rs3, g13.trans (sb.fgt (K := K)).go, p4⟩
    | true =>
      refine iteT (he σ3 H3 δ3 M3 _ _ (sl3.mono (rep2.tx g3)) rep3 (B.pres _ _ _ _ g13 bb1) (q1 rfl) fun v4 H4 x4 M4 g4 rep4 r4 ⟨M5, sb, p5⟩ => ?_)
      obtain ⟨hD4, nD4⟩ := g4 Da _ hD3 nD3
      have rs4 := rs3.mono (rep3.tx g4)
      have t5 : Tx K H4 (upd H4 Da (.lst (us ++ [v4]))) := tx_put hD4 trivial
      refine ⟨us, hD4, by rw [rs4.len]; exact lt, acc ++ [x4], us ++ [v4], M5, by simp; omega, (sb.fgt (K := K)).1 _ (rep4.hid nD4 hD4 trivial), sb.free nD4, upd_same, (rs4.mono t5).app (.one (r4.mono t5)), ?_, p5⟩
      intro a u ha na
      obtain ⟨h1, n1⟩ := (g13.trans g4) a u ha na
      have : a ≠ Da := ne_of_none ha hDa
      exact ⟨by rw [upd_ne this]; exact h1, sb.free n1⟩
theorem e_lc {elt : Expr} {ifs : List Expr} {scope : Scope} {own : List (Str × Nat)} {dt : DT} {de : DE} (hc : X.calm = true) (hN : X.N.Nodup) (hi : PI3 X B tg iter di) (ok : BlkOk X.N X.env.scope scope own)
    (hg : ∀ (s : Shared) (H : Hp) (C : Addr) (cl : List (Str × Addr)) (fp : List Addr), PG3 (X.blk s H scope (compEnvC scope cl C X.env) fp) tg g) (ht : ∀ (s : Shared) (H : Hp) (C : Addr) (cl : List (Str × Addr)) (fp : List Addr), PTs3 (X.blk s H scope (compEnvC scope cl C X.env) fp) B ifs dt)
    (he : ∀ (s : Shared) (H : Hp) (C : Addr) (cl : List (Str × Addr)) (fp : List Addr), PE3 (X.blk s H scope (compEnvC scope cl C X.env) fp) B elt de) (hv : ∀ i ∈ g.ix, i ∈ own.map (·.2) := by decide) (hs : ∀ x, foldedSetIterable iter X.env x = pure x := by intro _; rfl) :
    PE3 X B (.ListComp elt [⟨tg, iter, ifs, 0⟩] scope pos) (dLc di g dt de (own.map (·.2))) := by
  obtain ⟨ti, i1, i2⟩ := hi.ex
  exact ⟨_, pe_lc (g := g.L X.K) (tt := tOfT X.K B dt) (te := tOf X.K B de) hc hN i1 ok (fun s H C cl fp => (hg s H C cl fp).ex) (fun s H C cl fp => (ht s H C cl fp).can) (fun s H C cl fp => (he s H C cl fp).can) hs, snd_lc i2 snd_tOfT snd_tOf hv⟩
theorem s_setLc (i : Nat) {y : Str} {py : Pos} {elt : Expr} {ifs : List Expr} {scope : Scope} {own : List (Str × Nat)} {spos : Pos} {dt : DT} {de : DE} (hc : X.calm = true) (hN : X.N.Nodup)
    (hsw : swapsWith (.ListComp elt [⟨tg, iter, ifs, 0⟩] scope pos) (some (.Name y py)) spos.line X.env = pure true) (hi : PI3 X B tg iter di) (ok : BlkOk X.N X.env.scope scope own)
    (hg : ∀ (s : Shared) (H : Hp) (C : Addr) (cl : List (Str × Addr)) (fp : List Addr), PG3 (X.blk s H scope (compEnvC scope cl C X.env) fp) tg g) (ht : ∀ (s : Shared) (H : Hp) (C : Addr) (cl : List (Str × Addr)) (fp : List Addr), PTs3 (X.blk s H scope (compEnvC scope cl C X.env) fp) B ifs dt)
    (he : ∀ (s : Shared) (H : Hp) (C : Addr) (cl : List (Str × Addr)) (fp : List Addr), PE3 (X.blk s H scope (compEnvC scope cl C X.env) fp) B elt de) (hy : X.N[i]? = some y := by rfl) (hyl : X.env.scope.names.lookup y = some .local := by rfl) (hv : ∀ i ∈ g.ix, i ∈ own.map (·.2) := by decide) (hs : ∀ x, foldedSetIterable iter X.env x = pure x := by intro _; rfl) :
    PS3 X B (.Assign [.Name y py] (.ListComp elt [⟨tg, iter, ifs, 0⟩] scope pos) spos) (dSet i (dLc di g dt de (own.map (·.2)))) := by
  obtain ⟨ti, i1, i2⟩ := hi.ex
  refine ⟨_, ps_setLc (g := g.L X.K) (tt := tOfT X.K B dt) (te := tOf X.K B de) hc hN hy hyl hsw i1 ok (fun s H C cl fp => (hg s H C cl fp).ex) (fun s H C cl fp => (ht s H C cl fp).can) (fun s H C cl fp => (he s H C cl fp).can) hs, fun σ H δ M D Dd sl rep bb q eo => ?_⟩
  exact snd_lc i2 snd_tOfT snd_tOf hv σ H δ M _ _ sl rep bb q fun v H' x M' g rep' r q' => eo.nx _ _ _ _ g ((sl.mono (rep.tx g)).set i r) rep' q'
/-! ### dict comprehensions -/
theorem Rep.shwK {K : PySem.W.Frag} {H : Hp} {M : Hd} (rep : Rep K H M) {p : Addr} {ws : List (Key × V)} {kvs : List (Key × D)} (n : M p = none) (h : H p = some (.dK ws)) (rs : RK K H kvs ws) : Rep K H (up M p (.dK kvs)) := fun a o e => by
  by_cases z : a = p
  · subst z
    rw [up_same] at e
    cases e
    exact ⟨ws, h, rs⟩
  · rw [up_ne z] at e
    refine (rep a o e).stay Tx.refl (fun _ _ _ q => q) fun b c hb => ?_
    have : b ≠ p := by rintro rfl; rw [n] at hb; cases hb
    rw [up_ne this]; exact hb
/-! ### own defs -/
abbrev DX := Value → List (Str × D) → Hd → Prop
abbrev DSp := List D → Hd → DK → DX → Prop
def XR (K : PySem.W.Frag) (H : Hp) (d : Option Addr) (fs : List (Str × D)) : Prop := (d = none ∧ fs = []) ∨ ∃ a ws, d = some a ∧ fs ≠ [] ∧ H a = some (.xd ws) ∧ RK K H fs ws
def lift (K : PySem.W.Frag) (S : DSp) : Sp := fun vs H Q E => ∃ (ds : List D) (M : Hd) (Qd : DK) (Ed : DX), Rs K H ds vs ∧ Rep K H M ∧ S ds M Qd Ed ∧ (∀ v H' x M', Go H M H' M' → Rep K H' M' → R K H' x v → Qd x M' → Q v H') ∧
  ∀ c d H' fs M', Go H M H' M' → Rep K H' M' → XR K H' d fs → Ed c fs M' → E c d H'
def dCall (S : DSp) (dr : DA) : DE := fun δ M Q => dr δ M fun xs M1 => S xs M1 Q fun _ _ _ => False
variable {CX : CXT} {k : Nat} {f : Addr} {fd : FuncData} {ps : List Str} {S : DSp} {x : Str} {p : Pos} {es : List Expr} {dr : DA}
theorem snd_call {K : PySem.W.Frag} {n : Nat} {ta : TA} {E : XK} (h : SndA K B n ta dr) : SndE K B (tCall (lift K S) [] E ta) (dCall S dr) := fun σ H δ M Q Qd sl rep bb q kk =>
  h σ H δ M _ _ sl rep bb q fun vs H1 xs M1 g rep1 rs _ q1 => ⟨xs, M1, Qd, _, by rw [List.append_nil]; exact rs, rep1, q1, fun v H' x M' g' => kk v H' x M' (g.trans g'), fun _ _ _ _ _ _ _ _ z => z.elim⟩
theorem e_call (F : FnOk X.prog X.w X.K X.mg X.base CX k f fd ps (lift X.K S)) (hr : Room k X.A) (hg : Gl X x) (hm : X.mg x = some (.ref f)) (hk : PySem.W.keepIn X.K (.ref f) = true) (hb : Binds X.K fd ps []) (hx : Passes CX X E0) (ha : PA3 X B (e :: es) dr)
    (hdb : (x == ("__debug__" : Str)) = false := by decide) (he : starEach (e :: es) X.env = (false, eval e X.env) :: starEach es X.env := by rfl) (hpl : (backTo pos (starEach es X.env)).any (·.1) = false := by rfl) :
    PE3 X B (.Call (.Name x p) (e :: es) [] pos) (dCall S dr) := by
  obtain ⟨t, a1, a2⟩ := ha.ex
  exact ⟨_, pe_call F hr hg hm hk hb .nil hx a1 hdb he hpl, snd_call a2⟩
theorem e_call0 (F : FnOk X.prog X.w X.K X.mg X.base CX k f fd ps (lift X.K S)) (hr : Room k X.A) (hg : Gl X x) (hm : X.mg x = some (.ref f)) (hk : PySem.W.keepIn X.K (.ref f) = true) (hb : Binds X.K fd ps []) (hx : Passes CX X E0)
    (hdb : (x == ("__debug__" : Str)) = false := by decide) : PE3 X B (.Call (.Name x p) [] [] pos) (dCall S dNil) :=
  ⟨_, pe_call0 F hr hg hm hk hb .nil hx hdb, snd_call (n := 0) fun σ H δ M Q Qd sl rep bb h q => q [] H [] M Go.refl rep .nil rfl h⟩
end
section
variable {P : Program} {w : World} {K : PySem.W.Frag} {mg : Str → Option Value} {base : Heap}
/-- THE RULE for a def that lets nothing out -/
theorem fun3 {x qual : Str} {st : Stmt} {f : Addr} {fd : FuncData} {N ps : List Str} {k : Nat} {S : DSp} {d : DSt} (F : Fun K x qual st f fd) (Sc : FnScope N ps (defScope st)) (hn : ∀ ds M Q E, S ds M Q E → ds.length = ps.length)
    (hb : ∀ (cdv : Value) (A : Around) (outer : List Env) (s : Shared) (H : Hp) (E : XK), Room k (A.deeper (envOfC qual (defScope st) s.heap.objs.size f cdv)) → PB3 (cxOf CX0 P w K mg base N qual (defScope st) f cdv A outer s H E).nox Am.no (defBody st) d)
    (hd : ∀ ds M Q E, S ds M Q E → ∀ H, Rep K H M → ∃ M1, Rep K H M1 ∧ (∀ a, M a = none → M1 a = none) ∧
      d { nx := fun _ M' => ∃ M2, Fgt K M' M2 ∧ Q .non M2, rt := fun v M' => ∃ M2, Fgt K M' M2 ∧ Q v M2 } (startD N.length ds) M1) : FnOk P w K mg base CX0 (k + 1) f fd ps (lift K S) := by
  refine F.ok Sc (fun vs H Q E h => ?_) (fun cdv A outer s H vs Q E hr h => ?_)
  · obtain ⟨ds, M, Qd, Ed, rs, _, hs, _⟩ := h
    rw [rs.len]
    exact hn _ _ _ _ hs
  · obtain ⟨ds, M, Qd, Ed, rs, rep, hs, q, _⟩ := h
    obtain ⟨M1, rep1, dom, hd⟩ := hd ds M Qd Ed hs H rep
    obtain ⟨t, h1, h2⟩ := (hb cdv A outer s H E hr).ex
    have g01 : Go H M H M1 := fun a u ha na => ⟨ha, dom a na⟩
    refine ⟨t, h1, h2 _ H _ M1 _ _ (Sl.start rs) rep1 trivial hd ⟨fun σ' H' δ' M' g _ rep' ⟨M2, fg, q'⟩ => ?_, fun v H' x M' g rep' r ⟨M2, fg, q'⟩ => ?_, fun _ _ _ _ _ _ _ z => z.elim, fun _ _ _ _ _ _ _ z => z.elim⟩⟩
    · exact q _ _ _ M2 ((g01.trans g).trans fg.go) (fg.1 _ rep') R.non' q'
    · exact q _ _ _ M2 ((g01.trans g).trans fg.go) (fg.1 _ rep') r q'
end
end T3
/-! list.extend of a tuple, as the layer has it of a list -/
namespace PySem
theorem t3_extend_tup (l : Addr) (xs : Array Value) (n : Nat) (b : Addr) (ys : Array Value) (m : Nat) (dd : Option Addr) (sl : Array (Option Value)) (h0 : ¬(!xs.isEmpty && Builtin.List.listTooLong (xs.size + ys.size)) = true) (h1 : xs.size ≤ sizeLine) (h2 : xs.size + ys.size ≤ sizeLine + 1) :
    Meets (Builtin.«list.extend» ⟨[.ref l, .ref b], []⟩) (fun _ Rr z => z.heap.get? l = some { cls := .type "list", dict := none, data := .seq xs n, slots := #[] } ∧ z.heap.get? b = some { cls := .type "tuple", dict := dd, data := .seq ys m, slots := sl } ∧
      Rr (.ok (.ret Value.none)) { z with heap := z.heap.update l (Obj.mapSeq fun x => x ++ ys), toks := z.toks }) :=
  .of_wp fun pr wo Ar Rr z hz => by
    obtain ⟨hp, g, d, tk, os⟩ := z
    obtain ⟨hl, hb, hz⟩ := hz
    have q1 := AutoSeq1.idx_int
    have q2 := AutoSeq1.sub_tuple_tuple
    have q3 := AutoSeq1.sub_list_list
    have q4 := AutoSeq1.sub_tuple_list
    have q5 := AutoSeq1.sub_list_tuple
    have big : (xs ++ ys).size ≤ sizeLine + 1 := by rw [Array.size_append]; exact h2
    wp_walk using (wpAny_updateSeq hl rfl (hz := h1) (_hz' := big)), AutoSeq1.wpAny_loadPart' hl, AutoSeq1.wpAny_loadPart' hb
    exact ⟨_, rfl, hz⟩
end PySem
namespace T3
open PySem PySem.Spec PyProof.Rows L2
section
variable {X : Cx} {B : Am} {o e i : Expr} {es : List Expr} {do_ de di : DE} {dr : DA} {pos : Pos}
/-! ### methods of lists -/
abbrev DM := D → List D → Hd → DK → Prop
structure MtD (X : Cx) (id : String) (rd : DM) : Prop where
  ex : ∃ r, MtR X id r ∧ ∀ (H : Hp) (M : Hd) (x : D) (v : V) (xs : List D) (vs : List V) (Q : VK) (Qd : DK), Rep X.K H M → R X.K H x v → Rs X.K H xs vs → rd x xs M Qd →
    (∀ v' H' x' M', Go H M H' M' → Rep X.K H' M' → R X.K H' x' v' → Qd x' M' → Q v' H') → r v vs H Q
def dLM (rd : DM) (do_ : DE) (dr : DA) : DE := fun δ M Q => do_ δ M fun x M1 => (∃ p xs, x = .ref p ∧ LS M1 p xs) ∧ dr δ M1 fun ys M2 => rd x ys M2 Q
theorem snd_lm {id : String} {rd : DM} {to : TE} {t : TA} {n : Nat} {r : V → List V → Hp → VK → Prop} (ho : SndE X.K B to do_) (ha : SndA X.K B n t dr)
    (hr : ∀ (H : Hp) (M : Hd) (x : D) (v : V) (xs : List D) (vs : List V) (Q : VK) (Qd : DK), Rep X.K H M → R X.K H x v → Rs X.K H xs vs → rd x xs M Qd → (∀ v' H' x' M', Go H M H' M' → Rep X.K H' M' → R X.K H' x' v' → Qd x' M' → Q v' H') → r v vs H Q) :
    SndE X.K B (tBM X.K "list" r to t) (dLM rd do_ dr) := fun σ H δ M Q Qd sl rep bb q k => by
  refine ho σ H δ M _ _ sl rep bb q fun v H1 x M1 g1 rep1 r1 ⟨⟨p, xs, ex, l⟩, q1⟩ => ?_
  subst ex
  obtain ⟨us, s, _⟩ := rep1.ls l
  refine ⟨by rw [r1.ref_]; exact .inl ⟨rfl, us, s⟩, ?_⟩
  refine ha σ H1 δ M1 _ _ (sl.mono (rep.tx g1)) rep1 (B.pres _ _ _ _ g1 bb) q1 fun vs H2 ys M2 g2 rep2 rs _ q2 => ?_
  exact hr H2 M2 _ v ys vs Q Qd rep2 (r1.mono (rep1.tx g2)) rs q2 fun v' H' x' M' g' => k v' H' x' M' ((g1.trans g2).trans g')
theorem e_lm {name : Str} {id : String} {rd : DM} {apos cpos : Pos} (slot : PySem.Slot "list" name id) (hty : typeOf (.builtin id) = pure (.type "method_descriptor")) (hm : MtD X id rd) (ho : PE3 X B o do_) (ha : PA3 X B (e :: es) dr)
    (hbase : attributeBase o name X.env (eval o X.env) = eval o X.env := by rfl)
    (hfew : ((backTo cpos (starEach (e :: es) X.env)).all (fun x => !x.1) && (backToKw cpos (keywordEach [] X.env)).all (fun x => x.1.isSome)
      && decide ((e :: es).length + ([] : List Keyword).length + (if ([] : List Keyword).isEmpty then 0 else 1) < 30)) = true := by rfl)
    (hline : (apos.endLine == cpos.line) = true := by rfl) (hs : starEach (e :: es) X.env = (false, eval e X.env) :: starEach es X.env := by rfl) (hplain : (backTo cpos (starEach es X.env)).any (·.1) = false := by rfl) :
    PE3 X B (.Call (.Attribute o name apos) (e :: es) [] cpos) (dLM rd do_ dr) := by
  obtain ⟨r, r1, r2⟩ := hm.ex
  obtain ⟨to, o1, o2⟩ := ho.ex
  obtain ⟨t, a1, a2⟩ := ha.ex
  exact ⟨_, pe_bm PySem.F.plainAttrs_list slot hty r1 o1 a1 hbase hfew hline hs hplain, snd_lm (id := id) o2 a2 r2⟩
theorem e_lm0 {name : Str} {id : String} {rd : DM} {apos cpos : Pos} (slot : PySem.Slot "list" name id) (hty : typeOf (.builtin id) = pure (.type "method_descriptor")) (hm : MtD X id rd) (ho : PE3 X B o do_)
    (hbase : attributeBase o name X.env (eval o X.env) = eval o X.env := by rfl) (hline : (apos.endLine == cpos.line) = true := by rfl) : PE3 X B (.Call (.Attribute o name apos) [] [] cpos) (dLM rd do_ dNil) := by
  obtain ⟨r, r1, r2⟩ := hm.ex
  obtain ⟨to, o1, o2⟩ := ho.ex
  refine ⟨_, pe_bm0 PySem.F.plainAttrs_list slot hty r1 o1 hbase hline, ?_⟩
  exact snd_lm (id := id) (t := tNil) (n := 0) o2 (fun σ H δ M Q Qd sl rep bb h q => q [] H [] M Go.refl rep .nil rfl h) r2
def dAppend : DM := fun x ys M Q => match x, ys with
  | .ref p, [y] => ∃ xs, M p = some (.lst xs) ∧ xs.length < sizeLine ∧ Q .non (up M p (.lst (xs ++ [y])))
  | _, _ => False
theorem m_append : MtD X "list.append" dAppend := by
  refine ⟨_, mt_append, fun H M x v xs vs Q Qd rep r rs h q => ?_⟩
  unfold dAppend at h
  split at h
  · rename_i p y
    obtain ⟨xs, l, hz, h⟩ := h
    obtain ⟨u, rfl, ru⟩ := rs.one_
    obtain ⟨us, s, rs'⟩ := rep.lst l
    obtain ⟨g, rep'⟩ := rep.putL l (rs'.app (.one ru))
    exact ⟨p, us, u, r.ref_, rfl, s, by rw [rs'.len]; exact hz, q _ _ _ _ g rep' R.non' h⟩
  · exact h.elim
def rExtT : V → List V → Hp → VK → Prop := fun x vs H Q => ∃ l b xs zs, x = .ref l ∧ vs = [.ref b] ∧ H l = some (.lst xs) ∧ H b = some (.tup zs) ∧ xs.length + zs.length ≤ sizeLine ∧ Q .non (upd H l (.lst (xs ++ zs)))
theorem mt_extT : MtR X "list.extend" rExtT := by
  intro pins s σ H x vs v us Q I rx rv h
  obtain ⟨l, b, xs, zs, rfl, rfl, hl, hb, hz, q⟩ := h
  cases rx
  obtain ⟨u, rfl, ru⟩ := Vals.one rv
  cases ru
  obtain ⟨_, its, n, r, len1, e1⟩ := I.lstM hl
  obtain ⟨its2, r2, ⟨⟨cl, dd, dt, sl⟩, e2, hc, m, hd⟩, _⟩ := I.tuple (SqT.of hb)
  simp only at hc hd
  subst hc hd
  have len2 := r2.length
  have hsz : its.toArray.size + its2.toArray.size ≤ sizeLine := by rw [List.size_toArray, List.size_toArray]; omega
  refine call_meets F.slot_list_extend ⟨_, e1, rfl⟩ F.entry_list_extend (F.args_list_extend_2 _ _)
    (t3_extend_tup l its.toArray n b its2.toArray m dd sl (by rw [notLongL hsz, Bool.and_false]; exact Bool.false_ne_true) (by rw [List.size_toArray] at hsz ⊢; omega) (Nat.le_succ_of_le hsz)) ⟨e1, e2, ?_⟩
  exact ⟨.non, _, I.lset (its' := its ++ its2) hl e1 (by simp) (r.append r2) (by rw [List.length_append]; omega), rfl, q⟩
def dExtend : DM := fun x ys M Q => match x, ys with
  | .ref p, [.tup zs] => ∃ xs, M p = some (.lst xs) ∧ xs.length + zs.length ≤ sizeLine ∧ Q .non (up M p (.lst (xs ++ zs)))
  | .ref p, [.ref b] => ∃ xs zs, M p = some (.lst xs) ∧ M b = some (.lst zs) ∧ xs.length + zs.length ≤ sizeLine ∧ Q .non (up M p (.lst (xs ++ zs)))
  | _, _ => False
theorem m_extend : MtD X "list.extend" dExtend := by
  refine ⟨_, MtR.or mt_extend mt_extT, fun H M x v xs vs Q Qd rep r rs h q => ?_⟩
  unfold dExtend at h
  split at h
  · rename_i p zs
    obtain ⟨xs, l, hz, h⟩ := h
    obtain ⟨u, rfl, ru⟩ := rs.one_
    obtain ⟨us, s, rs'⟩ := rep.lst l
    obtain ⟨b, ws, rfl, s2, rs2⟩ := ru.untup
    obtain ⟨g, rep'⟩ := rep.putL l (rs'.app rs2)
    exact .inr ⟨p, b, us, ws, r.ref_, rfl, s, s2, by rw [rs'.len, rs2.len]; exact hz, q _ _ _ _ g rep' R.non' h⟩
  · rename_i p b
    obtain ⟨xs, zs, l, l2, hz, h⟩ := h
    obtain ⟨u, rfl, ru⟩ := rs.one_
    obtain ⟨us, s, rs'⟩ := rep.lst l
    obtain ⟨ws, s2, rs2⟩ := rep.lst l2
    obtain ⟨g, rep'⟩ := rep.putL l (rs'.app rs2)
    exact .inl ⟨p, b, us, ws, r.ref_, by rw [ru.ref_], s, s2, by rw [rs'.len, rs2.len]; exact hz, q _ _ _ _ g rep' R.non' h⟩
  · exact h.elim
def dReverse : DM := fun x ys M Q => match x, ys with
  | .ref p, [] => ∃ xs, M p = some (.lst xs) ∧ Q .non (up M p (.lst xs.reverse))
  | _, _ => False
theorem m_reverse : MtD X "list.reverse" dReverse := by
  refine ⟨_, mt_reverse, fun H M x v xs vs Q Qd rep r rs h q => ?_⟩
  unfold dReverse at h
  split at h
  · rename_i p
    obtain ⟨xs, l, h⟩ := h
    obtain ⟨us, s, rs'⟩ := rep.lst l
    obtain ⟨g, rep'⟩ := rep.putL l rs'.rev
    exact ⟨p, us, r.ref_, rs.unil, s, q _ _ _ _ g rep' R.non' h⟩
  · exact h.elim
def dInsert : DM := fun x ys M Q => match x, ys with
  | .ref p, [.int i, y] => ∃ xs, M p = some (.lst xs) ∧ xs.length < sizeLine ∧ 0 ≤ i ∧ i < 2 ^ 63 ∧ Q .non (up M p (.lst (xs.take i.toNat ++ [y] ++ xs.drop i.toNat)))
  | _, _ => False
theorem m_insert : MtD X "list.insert" dInsert := by
  refine ⟨_, mt_insert, fun H M x v xs vs Q Qd rep r rs h q => ?_⟩
  unfold dInsert at h
  split at h
  · rename_i p i y
    obtain ⟨xs, l, hz, h0, h1, h⟩ := h
    obtain ⟨u, w, rfl, ru, rw'⟩ := rs.two_
    obtain ⟨us, s, rs'⟩ := rep.lst l
    obtain ⟨g, rep'⟩ := rep.putL l (((rs'.take i.toNat).app (.one rw')).app (rs'.drop i.toNat))
    exact ⟨p, us, i, w, r.ref_, by rw [ru.int_], s, by rw [rs'.len]; exact hz, h0, h1, q _ _ _ _ g rep' R.non' h⟩
  · exact h.elim
/-! ### o[i] op= e -/
def rGetA (K : PySem.W.Frag) : V → V → Hp → VK → Prop := fun x y H Q => (∃ p xs i v, x = .ref p ∧ y = .int i ∧ SqL K H p xs ∧ 0 ≤ i ∧ xs[i.toNat]? = some v ∧ Q v H) ∨ (∃ a v, x = .ref a ∧ DGet H a y (some v) ∧ Q v H)
theorem get_any (hu : X.A.units + 1 < cLine) : PGet X (rGetA X.K) := by
  intro pins s σ H o i ov iv Q I ro ri h
  rcases h with ⟨p, xs, k, v, rfl, rfl, hq, h0, hv, q⟩ | ⟨a, v, rfl, g, q⟩
  · cases ro
    obtain ⟨t, rfl⟩ := ri
    obtain ⟨its, r, pl, hz⟩ := I.list hq
    obtain ⟨u, hu, ru⟩ := r.get hv
    have lt := (List.getElem?_eq_some_iff.mp hv).1
    have l63 := line63
    exact wpAny_getItem_list pl.isList h0 (by omega) (x := u) (by simpa using hu) ⟨v, H, I, ru, q⟩
  · cases ro
    exact d_getItem hu I g ri fun w' s' I' r' => ⟨v, H, I', r', q⟩
def dGetA : DR2 := fun x y M Q => ∃ p, x = .ref p ∧ ((∃ (xs : List D) (i : Int) (v : D), y = .int i ∧ LS M p xs ∧ 0 ≤ i ∧ xs[i.toNat]? = some v ∧ Q v M) ∨
  (∃ (kvs : List (Key × D)) (k : Key) (v : D), y = kD k ∧ DK_ M p kvs ∧ valD kvs k = some v ∧ Q v M))
theorem snd_getA : SndR2 X.K (rGetA X.K) dGetA := fun H M x y v u Q Qd rep r1 r2 h q => by
  obtain ⟨p, rfl, h⟩ := h
  rw [r1.ref_]
  rcases h with ⟨xs, i, z, rfl, l, h0, e, h⟩ | ⟨kvs, k, z, rfl, d, e, h⟩
  · obtain ⟨vs, s, rs⟩ := rep.ls l
    obtain ⟨w, ew, rw'⟩ := rs.get e
    exact .inl ⟨p, vs, i, w, rfl, r2.int_, s, h0, ew, q _ _ _ M Go.refl rep rw' h⟩
  · obtain ⟨ws, hd, rk⟩ := rep.dk d
    obtain ⟨w, ew, rw'⟩ := (RK.val k rk).1 _ e
    exact .inr ⟨p, w, rfl, .inl ⟨ws, k, hd, r2.kD, ew.symm⟩, q _ _ _ M Go.refl rep rw' h⟩
def dAugI (do_ di de : DE) (rd : DR2) : DSt := fun En δ M => do_ δ M fun x M1 => di δ M1 fun y M2 => dGetA x y M2 fun z M3 => de δ M3 fun v M4 => rd z v M4 fun w M5 => dPut x y w M5 fun M6 => En.nx δ M6
theorem s_augI {op : Operator} {rd : DR2} {tpos : Pos} (hu : X.A.units + 1 < cLine) (ho : PE3 X B o do_) (hi : PE3 X B i di) (he : PE3 X B e de) (hp : PIp3 X op rd)
    (ha : ∀ ov iv new, augStore i ov iv new = (do holding [new, ov, iv] (setItem ov iv new); release [new, ov, iv] []; pure .next) := by intros; rfl) : PS3 X B (.AugAssign (.Subscript o i tpos) op e pos) (dAugI do_ di de rd) := by
  obtain ⟨to, o1, o2⟩ := ho.ex
  obtain ⟨ti, i1, i2⟩ := hi.ex
  obtain ⟨te, e1, e2⟩ := he.ex
  obtain ⟨rp, p1, p2⟩ := hp.ex
  obtain ⟨rs, s1, s2⟩ := (put3 (X := X) hu).ex
  refine ⟨_, ps_augS o1 i1 (get_any hu) e1 p1 s1 ha, fun σ H δ M D Dd sl rep bb q eo => o2 σ H δ M _ _ sl rep bb q fun v1 H1 x1 M1 g1 rep1 r1 q1 => ?_⟩
  have sl1 := sl.mono (rep.tx g1)
  have bb1 := B.pres _ _ _ _ g1 bb
  refine i2 σ H1 δ M1 _ _ sl1 rep1 bb1 q1 fun v2 H2 x2 M2 g2 rep2 r2 q2 => ?_
  have sl2 := sl1.mono (rep1.tx g2)
  have bb2 := B.pres _ _ _ _ g2 bb1
  have r12 := r1.mono (rep1.tx g2)
  refine snd_getA H2 M2 x1 x2 v1 v2 _ _ rep2 r12 r2 q2 fun v3 H3 x3 M3 g3 rep3 r3 q3 => ?_
  have sl3 := sl2.mono (rep2.tx g3)
  have bb3 := B.pres _ _ _ _ g3 bb2
  refine e2 σ H3 δ M3 _ _ sl3 rep3 bb3 q3 fun v4 H4 x4 M4 g4 rep4 r4 q4 => ?_
  have t34 := rep3.tx g4
  refine p2 H4 M4 x3 x4 v3 v4 _ _ rep4 (r3.mono t34) r4 q4 fun v5 H5 x5 M5 g5 rep5 r5 q5 => ?_
  have t45 := rep4.tx g5
  have t25 : Tx X.K H2 H5 := ((rep2.tx g3).trans t34).trans t45
  refine s2 H5 M5 x1 x2 x5 v1 v2 v5 _ _ rep5 (r12.mono t25) (r2.mono t25) r5 q5 fun H6 M6 g6 rep6 q6 => ?_
  exact eo.nx _ _ _ _ (((((g1.trans g2).trans g3).trans g4).trans g5).trans g6) ((sl2.mono t25).mono (rep5.tx g6)) rep6 q6
/-! ### tuple(range(..)), list(range(..)) -/
abbrev DRg := DS → Hd → (Int → Int → Hd → Prop) → Prop
structure PRg3 (X : Cx) (B : Am) (e : Expr) (d : DRg) : Prop where
  ex : ∃ t : L2.St → Hp → (Int → Int → Hp → Prop) → Prop, PRg X e t ∧ ∀ (σ : L2.St) (H : Hp) (δ : DS) (M : Hd) (Q : Int → Int → Hp → Prop) (Qd : Int → Int → Hd → Prop), Sl X.K H σ δ → Rep X.K H M → B.B H M → d δ M Qd → (∀ a b H' M', Go H M H' M' → Rep X.K H' M' → Qd a b M' → Q a b H') → t σ H Q
def dRg1 (de : DE) : DRg := fun δ M Q => de δ M fun x M1 => match x with
  | .int n => Q 0 n M1
  | _ => False
def dRg2 (de di : DE) : DRg := fun δ M Q => de δ M fun x M1 => di δ M1 fun y M2 => match x, y with
  | .int a, .int b => Q a b M2
  | _, _ => False
theorem rg1 {p : Pos} (hg : Gl X "range") (hm : X.mg "range" = none) (he : PE3 X B e de) (na : starEach [e] X.env = (false, eval e X.env) :: starEach [] X.env := by rfl) : PRg3 X B (.Call (.Name "range" p) [e] [] pos) (dRg1 de) := by
  obtain ⟨t, h1, h2⟩ := he.ex
  refine ⟨_, prg_1 hg hm h1 na, fun σ H δ M Q Qd sl rep bb q k => h2 σ H δ M _ _ sl rep bb q fun v H1 x M1 g rep1 r q1 => ?_⟩
  cases x with
  | int n => exact ⟨n, r.int_, k _ _ _ _ g rep1 q1⟩
  | _ => exact q1.elim
theorem rg2 {p : Pos} (hg : Gl X "range") (hm : X.mg "range" = none) (he : PE3 X B e de) (hi : PE3 X B i di) (na : starEach [e, i] X.env = (false, eval e X.env) :: starEach [i] X.env := by rfl) (nb : starEach [i] X.env = (false, eval i X.env) :: starEach [] X.env := by rfl) (hp : (backTo pos (starEach [i] X.env)).any (·.1) = false := by rfl) : PRg3 X B (.Call (.Name "range" p) [e, i] [] pos) (dRg2 de di) := by
  obtain ⟨t, h1, h2⟩ := he.ex
  obtain ⟨u, k1, k2⟩ := hi.ex
  refine ⟨_, prg_2 hg hm h1 k1 na nb hp, fun σ H δ M Q Qd sl rep bb q k => h2 σ H δ M _ _ sl rep bb q fun v H1 x M1 g rep1 r q1 => ?_⟩
  refine k2 σ H1 δ M1 _ _ (sl.mono (rep.tx g)) rep1 (B.pres _ _ _ _ g bb) q1 fun v2 H2 y M2 g2 rep2 r2 q2 => ?_
  cases x with
  | int n =>
    cases y with
    | int m => exact ⟨n, m, r.int_, r2.int_, k _ _ _ _ (g.trans g2) rep2 q2⟩
    | _ => exact q2.elim
  | _ => exact q2.elim
theorem rgV_rngD {K : PySem.W.Frag} {H : Hp} (a b : Int) : Rs K H (rngD a b) (rgV a b) := by
  unfold rngD rgV
  generalize List.range (b - a).toNat = l
  induction l with
  | nil => exact .nil
  | cons j l ih => exact .cons R.int' ih
def dTupRg (dg : DRg) : DE := fun δ M Q => dg δ M fun a b M1 => RgOk a b ∧ Q (.tup (rngD a b)) M1
def dLstRg (dg : DRg) : DE := fun δ M Q => dg δ M fun a b M1 => RgOk a b ∧ ∀ q, M1 q = none → Q (.ref q) (up M1 q (.lst (rngD a b)))
theorem e_tupRg {dg : DRg} {p : Pos} (hc : X.calm = true) (hg : Gl X "tuple") (hm : X.mg "tuple" = none) (he : PRg3 X B e dg) (na : starEach [e] X.env = (false, eval e X.env) :: starEach [] X.env := by rfl) : PE3 X B (.Call (.Name "tuple" p) [e] [] pos) (dTupRg dg) := by
  obtain ⟨t, h1, h2⟩ := he.ex
  refine ⟨_, pe_tupRg hc hg hm h1 na, fun σ H δ M Q Qd sl rep bb q k => h2 σ H δ M _ _ sl rep bb q fun a b H1 M1 g rep1 ⟨ok, q1⟩ => ⟨ok, fun p hp => ?_⟩⟩
  obtain ⟨g', rep', r'⟩ := rep1.newT hp (rgV_rngD a b)
  exact k _ _ _ _ (g.trans g') rep' r' q1
theorem e_lstRg {dg : DRg} {p : Pos} (hc : X.calm = true) (hg : Gl X "list") (hm : X.mg "list" = none) (he : PRg3 X B e dg) (na : starEach [e] X.env = (false, eval e X.env) :: starEach [] X.env := by rfl) : PE3 X B (.Call (.Name "list" p) [e] [] pos) (dLstRg dg) := by
  obtain ⟨t, h1, h2⟩ := he.ex
  refine ⟨_, pe_listRg hc hg hm h1 na, fun σ H δ M Q Qd sl rep bb q k => h2 σ H δ M _ _ sl rep bb q fun a b H1 M1 g rep1 ⟨ok, q1⟩ => ⟨ok, fun p hp => ?_⟩⟩
  obtain ⟨g', rep'⟩ := rep1.newL hp (rgV_rngD a b)
  exact k _ _ _ _ (g.trans g') rep' R.ref' (q1 p (rep1.free hp))
/-! ### {k: v for ..}, {} -/
def dDc (di : DI) (g : Tg) (dt : DT) (dk dv : DE) (vs : List Nat) : DE := fun δ M Q => di δ M fun W M1 => W.xs.length ≤ sizeLine ∧ ∃ P : List D → List (Key × D) → Hd → Prop, P [] [] M1 ∧
  (∀ pre x post acc M', W.xs = pre ++ x :: post → P pre acc M' → W.G M' ∧ dTg g x (wipeD δ vs) fun δ2 => dt δ2 M' fun b M2 =>
    (b = true → dk δ2 M2 fun y M3 => dv δ2 M3 fun z M4 => ∃ k, y = kD k ∧ ∃ M5, Sub M4 M5 ∧ P (pre ++ [x]) (putKD acc k z) M5) ∧ (b = false → ∃ M4, Sub M2 M4 ∧ P (pre ++ [x]) acc M4)) ∧
  ∀ acc M', P W.xs acc M' → W.G M' ∧ ∀ p, M' p = none → Q (.ref p) (up M' p (.dK acc))
theorem snd_dc {K : PySem.W.Frag} {di : DI} {g : Tg} {wi : TI} {tt : TT} {tk tv : TE} {dt : DT} {dk dv : DE} {vs : List Nat} (hi : SndI K B wi di) (ht : SndT K B tt dt) (hk : SndE K B tk dk) (he : SndE K B tv dv) (hv : ∀ i ∈ g.ix, i ∈ vs) : SndE K B (tDc wi (g.L K) tt tk tv vs) (dDc di g dt dk dv vs) := by
  intro σ H δ M Q Qd sl rep bb q k
  refine hi σ H δ M _ _ sl rep bb q fun J H1 W M1 g1 rep1 ok ⟨hz, P, p0, turn, fin⟩ Da hDa => ?_
  have sl1 := sl.mono (rep.tx g1)
  have bb1 := B.pres _ _ _ _ g1 bb
  have nD : M1 Da = none := rep1.free hDa
  refine ⟨fun i m H' => ∃ pre post acc us M', W.xs = pre ++ post ∧ pre.length = i ∧ m = post.length ∧ acc.length ≤ pre.length ∧ Rep K H' M' ∧ M' Da = none ∧ H' Da = some (.dK us) ∧ RK K H' acc us ∧ Go H1 M1 H' M' ∧ P pre acc M',
    ⟨_, [], W.xs, [], [], M1, rfl, rfl, rfl, Nat.le_refl _, rep1.tup hDa, nD, upd_same, .nil, go_tup hDa, p0⟩, ?_⟩
  rintro i m H' ⟨pre, post, acc, us, M', ex, rfl, rfl, hl, rep', nD', hD', rs', g', p⟩
  cases post with
  | nil =>
    rw [List.append_nil] at ex
    subst ex
    obtain ⟨gg, nx⟩ := fin acc M' p
    refine .inl ⟨(ok _ H' M' (rep1.tx g') rep' gg).2 rfl, ?_⟩
    refine k (.ref Da) H' _ (up M' Da (.dK acc)) ?_ (rep'.shwK nD' hD' rs') R.ref' (nx Da nD')
    intro a u ha na
    obtain ⟨ha1, na1⟩ := g1 a u ha na
    obtain ⟨ha2, na2⟩ := g' a u ha1 na1
    have : a ≠ Da := ne_of_none ha1 hDa
    exact ⟨ha2, by rw [up_ne this]; exact na2⟩
  | cons x post =>
    obtain ⟨gg, h⟩ := turn pre x post acc M' ex p
    have at_ : W.xs[pre.length]? = some x := by rw [ex]; simp
    have lt : acc.length < sizeLine := by
      have : W.xs.length = pre.length + (post.length + 1) := by rw [ex]; simp
      omega
    obtain ⟨go, yld⟩ := (ok _ H' M' (rep1.tx g') rep' gg).1 x at_
    refine .inr ⟨go, fun H2 => ∃ acc2 us2 M2, acc2.length ≤ pre.length + 1 ∧ Rep K H2 M2 ∧ M2 Da = none ∧ H2 Da = some (.dK us2) ∧ RK K H2 acc2 us2 ∧ Go H1 M1 H2 M2 ∧ P (pre ++ [x]) acc2 M2,
      fun H2 ⟨acc2, us2, M2, a, b, c, d, e, f, pp⟩ => ⟨post.length, Nat.lt_succ_self _, pre ++ [x], post, acc2, us2, M2, by rw [ex]; simp, by simp, rfl, by simpa using a, b, c, d, e, f, pp⟩, fun v H2 y => ?_⟩
    obtain ⟨g2, rep2, rv⟩ := yld v H2 y
    have g12 := g'.trans g2
    obtain ⟨hD2, _⟩ := g2 Da _ hD' nD'
    have rs2 := rs'.mono (rep'.tx g2)
    have slw := (sl1.mono (rep1.tx g12)).wipe vs
    refine tg_run g (M := M') slw rv h fun σ3 δ3 sl3 h3 hw => ⟨(hw vs hv).trans (wipe_wipe σ vs), ?_⟩
    refine ht σ3 H2 δ3 M' _ _ sl3 rep2 (B.pres _ _ _ _ g12 bb1) h3 fun b H3 M3 g3 rep3 ⟨q1, q2⟩ => ?_
    have g13 := g12.trans g3
    obtain ⟨hD3, nD3⟩ := g3 Da _ hD2 nD'
    have rs3 := rs2.mono (rep2.tx g3)
    have sl33 := sl3.mono (rep2.tx g3)
    cases b with
    | false =>
      obtain ⟨M4, sb, p4⟩ := q2 rfl
      exact iteF ⟨acc, us, M4, by omega, (sb.fgt (K := K)).1 _ rep3, sb.free nD3, hD3, rs3, g13.trans (sb.fgt (K := K)).go, p4⟩
    | true =>
      refine iteT (hk σ3 H3 δ3 M3 _ _ sl33 rep3 (B.pres _ _ _ _ g13 bb1) (q1 rfl) fun v4 H4 x4 M4 g4 rep4 r4 q4 => ?_)
      obtain ⟨hD4, nD4⟩ := g4 Da _ hD3 nD3
      have rs4 := rs3.mono (rep3.tx g4)
      have g14 := g13.trans g4
      refine he σ3 H4 δ3 M4 _ _ (sl33.mono (rep3.tx g4)) rep4 (B.pres _ _ _ _ g14 bb1) q4 fun v5 H5 x5 M5 g5 rep5 r5 ⟨kk, ek, M6, sb, p6⟩ => ?_
      subst ek
      obtain ⟨hD5, nD5⟩ := g5 Da _ hD4 nD4
      have rs5 := rs4.mono (rep4.tx g5)
      have t5 : Tx K H5 (upd H5 Da (.dK (putK us kk v5))) := tx_put hD5 trivial
      refine ⟨us, kk, r4.kD, hD5, by rw [rs5.len]; exact lt, putKD acc kk x5, putK us kk v5, M6, ?_, (sb.fgt (K := K)).1 _ (rep5.hid nD5 hD5 trivial), sb.free nD5, upd_same, (rs5.put kk r5).mono t5, ?_, p6⟩
      · have := len_putKD acc kk x5
        omega
      · intro a u ha na
        obtain ⟨h1, n1⟩ := (g14.trans g5) a u ha na
        have : a ≠ Da := ne_of_none ha hDa
        exact ⟨by rw [upd_ne this]; exact h1, sb.free n1⟩
theorem e_dc {tg iter kx vx : Expr} {di : DI} {g : Tg} {ifs : List Expr} {scope : Scope} {own : List (Str × Nat)} {dt : DT} {dk dv : DE} (hc : X.calm = true) (hN : X.N.Nodup) (hi : PI3 X B tg iter di) (ok : BlkOk X.N X.env.scope scope own)
    (hg : ∀ (s : Shared) (H : Hp) (C : Addr) (cl : List (Str × Addr)) (fp : List Addr), PG3 (X.blk s H scope (compEnvC scope cl C X.env) fp) tg g) (ht : ∀ (s : Shared) (H : Hp) (C : Addr) (cl : List (Str × Addr)) (fp : List Addr), PTs3 (X.blk s H scope (compEnvC scope cl C X.env) fp) B ifs dt)
    (hk : ∀ (s : Shared) (H : Hp) (C : Addr) (cl : List (Str × Addr)) (fp : List Addr), PE3 (X.blk s H scope (compEnvC scope cl C X.env) fp) B kx dk)
    (he : ∀ (s : Shared) (H : Hp) (C : Addr) (cl : List (Str × Addr)) (fp : List Addr), PE3 (X.blk s H scope (compEnvC scope cl C X.env) fp) B vx dv) (hv : ∀ i ∈ g.ix, i ∈ own.map (·.2) := by decide) (hs : ∀ x, foldedSetIterable iter X.env x = pure x := by intro _; rfl) :
    PE3 X B (.DictComp kx vx [⟨tg, iter, ifs, 0⟩] scope pos) (dDc di g dt dk dv (own.map (·.2))) := by
  obtain ⟨ti, i1, i2⟩ := hi.ex
  exact ⟨_, pe_dc (g := g.L X.K) (tt := tOfT X.K B dt) (tk := tOf X.K B dk) (tv := tOf X.K B dv) hc hN i1 ok (fun s H C cl fp => (hg s H C cl fp).ex) (fun s H C cl fp => (ht s H C cl fp).can) (fun s H C cl fp => (hk s H C cl fp).can) (fun s H C cl fp => (he s H C cl fp).can) hs, snd_dc i2 snd_tOfT snd_tOf snd_tOf hv⟩
def dNewK : DE := fun _ M Q => ∀ p, M p = none → Q (.ref p) (up M p (.dK []))
def dNewT : DE := fun _ M Q => ∀ p, M p = none → Q (.ref p) (up M p (.dT []))
theorem e_newK : PE3 X B (.Dict [] [] pos) dNewK := ⟨_, pe_dnewK, fun σ H δ M Q Qd sl rep bb h q p hp => by
  refine q _ _ _ (up M p (.dK [])) (go_new hp) (rep.put (tx_new hp) (by rw [rep.free hp]; exact fun _ z => nomatch z) (.inl hp) ⟨[], upd_same, .nil⟩) R.ref' (h p (rep.free hp))⟩
theorem e_newT : PE3 X B (.Dict [] [] pos) dNewT := ⟨_, pe_dnewT, fun σ H δ M Q Qd sl rep bb h q p hp => by
  refine q _ _ _ (up M p (.dT [])) (go_new hp) (rep.put (tx_new hp) (by rw [rep.free hp]; exact fun _ z => nomatch z) (.inl hp) ⟨[], upd_same, .nil⟩) R.ref' (h p (rep.free hp))⟩
end
end T3
namespace T3
open PySem PySem.Spec PyProof.Rows L2
/-! ### promises by the number of things -/
def S0 (f : Hd → DK → Prop) : DSp := fun ds M Q _ => ds = [] ∧ f M Q
def S1 (f : D → Hd → DK → Prop) : DSp := fun ds M Q _ => ∃ a, ds = [a] ∧ f a M Q
def S2 (f : D → D → Hd → DK → Prop) : DSp := fun ds M Q _ => ∃ a b, ds = [a, b] ∧ f a b M Q
def S3 (f : D → D → D → Hd → DK → Prop) : DSp := fun ds M Q _ => ∃ a b c, ds = [a, b, c] ∧ f a b c M Q
def S4 (f : D → D → D → D → Hd → DK → Prop) : DSp := fun ds M Q _ => ∃ a b c d, ds = [a, b, c, d] ∧ f a b c d M Q
def S5 (f : D → D → D → D → D → Hd → DK → Prop) : DSp := fun ds M Q _ => ∃ a b c d e, ds = [a, b, c, d, e] ∧ f a b c d e M Q
def S6 (f : D → D → D → D → D → D → Hd → DK → Prop) : DSp := fun ds M Q _ => ∃ a b c d e g, ds = [a, b, c, d, e, g] ∧ f a b c d e g M Q
theorem S5_ {f : D → D → D → D → D → Hd → DK → Prop} {a b c d e : D} {M : Hd} {Q : DK} {E : DX} : S5 f [a, b, c, d, e] M Q E ↔ f a b c d e M Q := ⟨fun ⟨_, _, _, _, _, e, h⟩ => by cases e; exact h, fun h => ⟨_, _, _, _, _, rfl, h⟩⟩
theorem S6_ {f : D → D → D → D → D → D → Hd → DK → Prop} {a b c d e g : D} {M : Hd} {Q : DK} {E : DX} : S6 f [a, b, c, d, e, g] M Q E ↔ f a b c d e g M Q := ⟨fun ⟨_, _, _, _, _, _, e, h⟩ => by cases e; exact h, fun h => ⟨_, _, _, _, _, _, rfl, h⟩⟩
theorem S5n {f : D → D → D → D → D → Hd → DK → Prop} : ∀ ds M Q E, S5 f ds M Q E → ds.length = 5 := by rintro _ _ _ _ ⟨_, _, _, _, _, rfl, _⟩; rfl
theorem S6n {f : D → D → D → D → D → D → Hd → DK → Prop} : ∀ ds M Q E, S6 f ds M Q E → ds.length = 6 := by rintro _ _ _ _ ⟨_, _, _, _, _, _, rfl, _⟩; rfl
theorem S0_ {f : Hd → DK → Prop} {M : Hd} {Q : DK} {E : DX} : S0 f [] M Q E ↔ f M Q := ⟨fun ⟨_, h⟩ => h, fun h => ⟨rfl, h⟩⟩
theorem S1_ {f : D → Hd → DK → Prop} {a : D} {M : Hd} {Q : DK} {E : DX} : S1 f [a] M Q E ↔ f a M Q := ⟨fun ⟨_, e, h⟩ => by cases e; exact h, fun h => ⟨_, rfl, h⟩⟩
theorem S2_ {f : D → D → Hd → DK → Prop} {a b : D} {M : Hd} {Q : DK} {E : DX} : S2 f [a, b] M Q E ↔ f a b M Q := ⟨fun ⟨_, _, e, h⟩ => by cases e; exact h, fun h => ⟨_, _, rfl, h⟩⟩
theorem S3_ {f : D → D → D → Hd → DK → Prop} {a b c : D} {M : Hd} {Q : DK} {E : DX} : S3 f [a, b, c] M Q E ↔ f a b c M Q := ⟨fun ⟨_, _, _, e, h⟩ => by cases e; exact h, fun h => ⟨_, _, _, rfl, h⟩⟩
theorem S4_ {f : D → D → D → D → Hd → DK → Prop} {a b c d : D} {M : Hd} {Q : DK} {E : DX} : S4 f [a, b, c, d] M Q E ↔ f a b c d M Q := ⟨fun ⟨_, _, _, _, e, h⟩ => by cases e; exact h, fun h => ⟨_, _, _, _, rfl, h⟩⟩
theorem S0n {f : Hd → DK → Prop} : ∀ ds M Q E, S0 f ds M Q E → ds.length = 0 := by rintro _ _ _ _ ⟨rfl, _⟩; rfl
theorem S1n {f : D → Hd → DK → Prop} : ∀ ds M Q E, S1 f ds M Q E → ds.length = 1 := by rintro _ _ _ _ ⟨_, rfl, _⟩; rfl
theorem S2n {f : D → D → Hd → DK → Prop} : ∀ ds M Q E, S2 f ds M Q E → ds.length = 2 := by rintro _ _ _ _ ⟨_, _, rfl, _⟩; rfl
theorem S3n {f : D → D → D → Hd → DK → Prop} : ∀ ds M Q E, S3 f ds M Q E → ds.length = 3 := by rintro _ _ _ _ ⟨_, _, _, rfl, _⟩; rfl
theorem S4n {f : D → D → D → D → Hd → DK → Prop} : ∀ ds M Q E, S4 f ds M Q E → ds.length = 4 := by rintro _ _ _ _ ⟨_, _, _, _, rfl, _⟩; rfl
/-! ### a def stands; what it promises -/
structure Df (K : PySem.W.Frag) (mg : Str → Option Value) (x : Str) (st : Stmt) : Prop where
  ex : ∃ f fd, Fun K x x st f fd ∧ mg x = some (.ref f)
/-- how its things bind -/
abbrev Bi (K : PySem.W.Frag) (x : Str) (st : Stmt) (ps : List Str) : Prop := ∀ (kV doc pm : Value) (an : Option Addr) (cdv ct : Value) (us : List Value), us.length = ps.length → bindArgs (PySem.W.fnOf x x (defArgs st) (defBody st) (defScope st) .none kV doc pm an cdv ct) ⟨us, []⟩ = pure (ps.zip us)
structure Pr (P : Program) (w : World) (K : PySem.W.Frag) (mg : Str → Option Value) (base : Heap) (x : Str) (k : Nat) (ps : List Str) (S : DSp) : Prop where
  ex : ∃ f fd, mg x = some (.ref f) ∧ PySem.W.keepIn K (.ref f) = true ∧ Binds K fd ps [] ∧ FnOk P w K mg base CX0 k f fd ps (lift K S) ∧ (∃ oc od osl, K.lookup f = some ⟨oc, od, .func fd, osl⟩) ∧ ∀ us : List Value, us.length = ps.length → bindArgs fd ⟨us, []⟩ = pure (ps.zip us)
section
variable {X : Cx} {B : Am} {k : Nat} {ps : List Str} {S : DSp} {x : Str} {p pos : Pos} {e : Expr} {es : List Expr} {dr : DA}
theorem e_callP (F : Pr X.prog X.w X.K X.mg X.base x k ps S) (hr : Room k X.A) (hg : Gl X x) (hx : Passes CX0 X E0) (ha : PA3 X B (e :: es) dr)
    (hdb : (x == ("__debug__" : Str)) = false := by decide) (he : starEach (e :: es) X.env = (false, eval e X.env) :: starEach es X.env := by rfl) (hpl : (backTo pos (starEach es X.env)).any (·.1) = false := by rfl) :
    PE3 X B (.Call (.Name x p) (e :: es) [] pos) (dCall S dr) := by
  obtain ⟨f, fd, hm, hk, hb, F, _⟩ := F.ex
  exact e_call F hr hg hm hk hb hx ha hdb he hpl
theorem e_callP0 (F : Pr X.prog X.w X.K X.mg X.base x k ps S) (hr : Room k X.A) (hg : Gl X x) (hx : Passes CX0 X E0) (hdb : (x == ("__debug__" : Str)) = false := by decide) : PE3 X B (.Call (.Name x p) [] [] pos) (dCall S dNil) := by
  obtain ⟨f, fd, hm, hk, hb, F, _⟩ := F.ex
  exact e_call0 F hr hg hm hk hb hx hdb
end
section
variable {P : Program} {w : World} {K : PySem.W.Frag} {mg : Str → Option Value} {base : Heap}
theorem pr3 {x : Str} {st : Stmt} {N ps : List Str} {k : Nat} {S : DSp} {d : DSt} (D : Df K mg x st) (bi : Bi K x st ps) (Sc : FnScope N ps (defScope st)) (hn : ∀ ds M Q E, S ds M Q E → ds.length = ps.length)
    (hb : ∀ (f : Addr) (cdv : Value) (A : Around) (outer : List Env) (s : Shared) (H : Hp) (E : XK), Room k (A.deeper (envOfC x (defScope st) s.heap.objs.size f cdv)) → PB3 (cxOf CX0 P w K mg base N x (defScope st) f cdv A outer s H E).nox Am.no (defBody st) d)
    (hd : ∀ ds M Q E, S ds M Q E → ∀ H, Rep K H M → ∃ M1, Rep K H M1 ∧ (∀ a, M a = none → M1 a = none) ∧
      d { nx := fun _ M' => ∃ M2, Fgt K M' M2 ∧ Q .non M2, rt := fun v M' => ∃ M2, Fgt K M' M2 ∧ Q v M2 } (startD N.length ds) M1) : Pr P w K mg base x (k + 1) ps S := by
  obtain ⟨f, fd, F, hm⟩ := D.ex
  refine ⟨f, fd, hm, F.kp, F.binds bi, fun3 F Sc hn (hb f) hd, ?_⟩
  obtain ⟨oc, od, kV, doc, pm, an, cdv, ct, osl, rfl, lk, hcd⟩ := F.ex
  exact ⟨⟨oc, od, osl, lk⟩, bi kV doc pm an cdv ct⟩
theorem dn {M' M2 : Hd} {Q : Hd → Prop} (a : Sub M' M2) (b : Q M2) : ∃ M2, Fgt K M' M2 ∧ Q M2 := ⟨M2, a.fgt, b⟩
theorem hu3 {A : Around} {k : Nat} (h : Room k A) : A.units + 64 < cLine := h.units
end
/-! ### the law's end -/
theorem rep0 {K : PySem.W.Frag} {H : Hp} : Rep K H fun _ => none := fun a o e => nomatch e
/-- what the law is handed -/
def Scr (x : D) (M : Hd) (ns : List Int) : Prop := (∃ p, x = .ref p ∧ M p = some (.fz (ns.map D.int)) ∧ ∀ q, q ≠ p → M q = none) ∨ (∃ p, x = .kl p ns ∧ ∀ q, M q = none)
def SLaw : DSp := S1 fun x M Q => ∃ ns : List Int, ns.length ≤ 63 ∧ Scr x M ns ∧ ∀ M', Q (.bl true) M'
theorem law_sp {K : PySem.W.Frag} {H : Hp} {a : Addr} {ns : List Int} (hl : ns.length ≤ 63) (hO : Only H) (hS : SqL K H a (ns.map V.int)) : lift K SLaw [.ref a] H (fun v _ => v = .bl true) fun _ _ _ => False := by
  have cs : (∃ ob, H a = some (.frz ob (.lst (ns.map V.int)))) ∨ ∀ H2, SqL K H2 a (ns.map V.int) := by
    rcases hS with (h | ⟨o, h⟩) | h
    · rcases hO a with z | ⟨o, xs, z⟩
      · rw [h] at z; cases z
      · rw [h] at z; cases z
    · exact .inl ⟨o, h⟩
    · exact .inr fun H2 => .inr h
  rcases cs with ⟨ob, e⟩ | e
  · refine ⟨[.ref a], up (fun _ => none) a (.fz (ns.map D.int)), fun v _ => v = .bl true, fun _ _ _ => False, .one R.ref', ?_, ⟨_, rfl, ns, hl, .inl ⟨a, rfl, up_same, fun q hq => up_ne hq⟩, fun M' => rfl⟩, fun v H' x M' _ _ r q => ?_, fun c d H' fs M' _ _ _ z => z⟩
    · intro b o q
      by_cases hb : b = a
      · subst hb; rw [up_same] at q; cases q
        exact ⟨ob, _, e, Rs.of_ints ns⟩
      · rw [up_ne hb] at q; cases q
    · subst q; exact r.bl_
  · refine ⟨[.kl a ns], fun _ => none, fun v _ => v = .bl true, fun _ _ _ => False, .one (R.kl' e), rep0, ⟨_, rfl, ns, hl, .inr ⟨a, rfl, fun _ => rfl⟩, fun M' => rfl⟩, fun v H' x M' _ _ r q => ?_, fun c d H' fs M' _ _ _ z => z⟩
    subst q; exact r.bl_
/-- the law's walk, from its promise -/
theorem walk3 {l : PySem.W.OpenLaw} {k : Nat} {q : Program} {loose : List Str} {XP : (Str → Option Value) → Heap → Prop} {YP : World → Heap → Prop} {d : DefRec} {K : Params → PySem.W.Frag} {x : Str}
    (hn : l.most = some 63) (hdf : d.params.defaults = []) (hr : Room k callerA)
    (hY : ∀ (w : World) (h : Heap), YP w h → (K w.params).In h)
    (F : ∀ (w : World) (mg : Str → Option Value) (h : Heap), (K w.params).In h → h.Ns mainGlobals mg → ∀ base : Heap, Pr l.prog w (K w.params) mg base d.name k [x] SLaw) :
    PySem.W.WalkO q loose XP YP l.row.toRowW d [] (fun f vs => PySem.call f vs) :=
  L2.walk_of (n := 63) (k := k) (x := x) (CX := fun _ => CX0) (sp := fun w => lift (K w.params) SLaw) hn (by decide) hdf hr hY
    (fun w mg fa h KX G hmg => by
      obtain ⟨f, fd, e, _, _, _, ⟨oc, od, osl, lk⟩, hb⟩ := (F w mg h KX G default).ex
      rw [hmg] at e
      cases e
      refine ⟨fd, fun s v => .of_eq (hb [v] rfl), fun base _ _ => ?_⟩
      obtain ⟨f2, fd2, e2, _, _, F2, ⟨oc2, od2, osl2, lk2⟩, _⟩ := (F w mg h KX G base).ex
      rw [hmg] at e2
      cases e2
      rw [lk] at lk2
      cases lk2
      exact F2)
    (fun _ _ a ns hl hO hS => law_sp hl hO hS) fun _ _ _ _ _ z => z
/-- a def stands, from what K tells -/
theorem df_mk {K : PySem.W.Frag} {h : Heap} {mg : Str → Option Value} {x : Str} {st : Stmt} {f : Addr} {oc : Value} {od an : Option Addr} {osl : Array (Option Value)} {kV doc pm cdv ct : Value} (X : K.In h) (G : h.Ns mainGlobals mg)
    (a : PySem.W.nsIn K mainGlobals x = some (some (.ref f))) (l : K.lookup f = some ⟨oc, od, .func (PySem.W.fnOf x x (defArgs st) (defBody st) (defScope st) .none kV doc pm an cdv ct), osl⟩)
    (c : PySem.W.codeIn K cdv x = true) (k : PySem.W.keepIn K (.ref f) = true) : Df K mg x st := ⟨f, _, fun_mk l c k, PySem.W.mg_of X G a⟩
/-- a module's number -/
abbrev GI (mg : Str → Option Value) (x : Str) (i : Int) : Prop := ∃ u, mg x = some u ∧ RelV (.int i) u
theorem gi_mk {K : PySem.W.Frag} {h : Heap} {mg : Str → Option Value} {x : Str} {i : Int} {u : Value} (X : K.In h) (G : h.Ns mainGlobals mg) (a : PySem.W.nsIn K mainGlobals x = some (some u)) (r : RelV (.int i) u) : GI mg x i := ⟨u, PySem.W.mg_of X G a, r⟩
theorem gn_mk {K : PySem.W.Frag} {h : Heap} {mg : Str → Option Value} {x : Str} (X : K.In h) (G : h.Ns mainGlobals mg) (a : PySem.W.nsIn K mainGlobals x = some none) : mg x = none := PySem.W.mg_none_of X G a
theorem e_gintP {X : Cx} {B : Am} {x : Str} {i : Int} {pos : Pos} (h : GI X.mg x i) (hg : Gl X x) (hd : (x == ("__debug__" : Str)) = false := by decide) : PE3 X B (.Name x pos) (dC (.int i)) := by
  obtain ⟨u, hm, r⟩ := h
  exact e_gint hg hm r hd
end T3
namespace T3
open PySem PySem.Spec PyProof.Rows L2
/-! ### loops and comprehensions, read -/
theorem forN {xs : List D} (I : Nat → DS → Hd → Prop) {δ : DS} {M1 : Hd} {Z : (List D → DS → Hd → Prop) → List D → D → DS → Hd → Prop} {F : DS → Hd → Prop}
    (h0 : I 0 δ M1)
    (step : ∀ i x δ' M' pre P', xs[i]? = some x → I i δ' M' → (∀ δ M, I (i + 1) δ M → P' (pre ++ [x]) δ M) → Z P' pre x δ' M')
    (fin : ∀ δ' M', I xs.length δ' M' → F δ' M') :
    ∃ P : List D → DS → Hd → Prop, P [] δ M1 ∧ (∀ pre x post δ' M', xs = pre ++ x :: post → P pre δ' M' → Z P pre x δ' M') ∧ ∀ δ' M', P xs δ' M' → F δ' M' :=
  ⟨fun pre δ M => I pre.length δ M, h0, fun pre x post δ' M' e p => step pre.length x δ' M' pre _ (by rw [e]; simp) p fun δ M h => by rw [List.length_append]; exact h, fin⟩
theorem forL {α : Type} (f : α → D) (xs : List α) (I : List α → DS → Hd → Prop) {δ : DS} {M1 : Hd} {Z : (List D → DS → Hd → Prop) → List D → D → DS → Hd → Prop} {F : DS → Hd → Prop} {ds : List D}
    (hd : ds = xs.map f) (h0 : I [] δ M1)
    (step : ∀ l a r δ' M' pre P', xs = l ++ a :: r → I l δ' M' → (∀ δ M, I (l ++ [a]) δ M → P' (pre ++ [f a]) δ M) → Z P' pre (f a) δ' M')
    (fin : ∀ δ' M', I xs δ' M' → F δ' M') :
    ∃ P : List D → DS → Hd → Prop, P [] δ M1 ∧ (∀ pre x post δ' M', ds = pre ++ x :: post → P pre δ' M' → Z P pre x δ' M') ∧ ∀ δ' M', P ds δ' M' → F δ' M' := by
  subst hd
  refine ⟨fun pre δ M => I (xs.take pre.length) δ M, h0, fun pre x post δ' M' e p => ?_, fun δ' M' p => fin δ' M' (by simpa using p)⟩
  obtain ⟨l, r, e1, e2, e3⟩ := List.map_eq_append_iff.mp e
  obtain ⟨a, r, rfl, rfl, e5⟩ := List.map_eq_cons_iff.mp e3
  subst e1; subst e2
  have p : I l δ' M' := by simpa using p
  refine step l a r δ' M' (l.map f) _ rfl p fun δ M h => ?_
  have : (l ++ a :: r).take (l.map f ++ [f a]).length = l ++ [a] := by
    rw [List.length_append, List.length_map, List.length_singleton, List.take_length_add_append]
    simp
  rw [this]
  exact h
theorem lcN {xs : List D} (I : Nat → List D → Hd → Prop) {M1 : Hd} {Z : (List D → List D → Hd → Prop) → List D → D → List D → Hd → Prop} {F : List D → Hd → Prop}
    (h0 : I 0 [] M1)
    (step : ∀ i x acc M' pre P', xs[i]? = some x → I i acc M' → (∀ δ M, I (i + 1) δ M → P' (pre ++ [x]) δ M) → Z P' pre x acc M')
    (fin : ∀ acc M', I xs.length acc M' → F acc M') :
    ∃ P : List D → List D → Hd → Prop, P [] [] M1 ∧ (∀ pre x post acc M', xs = pre ++ x :: post → P pre acc M' → Z P pre x acc M') ∧ ∀ acc M', P xs acc M' → F acc M' :=
  ⟨fun pre δ M => I pre.length δ M, h0, fun pre x post δ' M' e p => step pre.length x δ' M' pre _ (by rw [e]; simp) p fun δ M h => by rw [List.length_append]; exact h, fin⟩
/-- what is built out of the parts alone -/
theorem lcF {α : Type} (f g : α → D) (q : α → Bool) (xs : List α) {M1 : Hd} {Z : (List D → List D → Hd → Prop) → List D → D → List D → Hd → Prop} {F : List D → Hd → Prop} {ds : List D}
    (hd : ds = xs.map f)
    (step : ∀ l a r pre acc P', xs = l ++ a :: r → (q a = true → P' (pre ++ [f a]) (acc ++ [g a]) M1) → (q a = false → P' (pre ++ [f a]) acc M1) → Z P' pre (f a) acc M1)
    (fin : F ((xs.filter q).map g) M1) :
    ∃ P : List D → List D → Hd → Prop, P [] [] M1 ∧ (∀ pre x post acc M', ds = pre ++ x :: post → P pre acc M' → Z P pre x acc M') ∧ ∀ acc M', P ds acc M' → F acc M' := by
  subst hd
  refine ⟨fun pre acc M => acc = ((xs.take pre.length).filter q).map g ∧ M = M1, ⟨rfl, rfl⟩, ?_, ?_⟩
  · rintro pre x post acc M' e ⟨rfl, rfl⟩
    obtain ⟨l, r, e1, e2, e3⟩ := List.map_eq_append_iff.mp e
    obtain ⟨a, r, rfl, rfl, e5⟩ := List.map_eq_cons_iff.mp e3
    subst e1; subst e2
    have e0 : (l ++ a :: r).take (l.map f).length = l := by simp
    have e1 : (l ++ a :: r).take (l.map f ++ [f a]).length = l ++ [a] := by
      rw [List.length_append, List.length_map, List.length_singleton, List.take_length_add_append]
      simp
    rw [e0]
    refine step l a r (l.map f) _ _ rfl (fun hq => ⟨?_, rfl⟩) (fun hq => ⟨?_, rfl⟩)
    · rw [e1, List.filter_append, List.filter_cons, if_pos hq, List.filter_nil, List.map_append]; rfl
    · rw [e1, List.filter_append, List.filter_cons, if_neg (by rw [hq]; simp), List.filter_nil, List.append_nil]
  · rintro acc M' ⟨rfl, rfl⟩
    have : xs.take (xs.map f).length = xs := by rw [List.length_map, List.take_length]
    rw [this]
    exact fin
theorem lcM {α : Type} (f g : α → D) (xs : List α) {M1 : Hd} {Z : (List D → List D → Hd → Prop) → List D → D → List D → Hd → Prop} {F : List D → Hd → Prop} {ds : List D}
    (hd : ds = xs.map f)
    (step : ∀ l a r pre acc P', xs = l ++ a :: r → P' (pre ++ [f a]) (acc ++ [g a]) M1 → Z P' pre (f a) acc M1)
    (fin : F (xs.map g) M1) :
    ∃ P : List D → List D → Hd → Prop, P [] [] M1 ∧ (∀ pre x post acc M', ds = pre ++ x :: post → P pre acc M' → Z P pre x acc M') ∧ ∀ acc M', P ds acc M' → F acc M' :=
  lcF f g (fun _ => true) xs hd (fun l a r pre acc P' e h _ => step l a r pre acc P' e (h rfl)) (by rw [List.filter_eq_self.mpr fun _ _ => rfl]; exact fin)
/-- a dict of the parts alone -/
theorem dcM {α : Type} (f : α → D) (kf : α → Key) (g : α → D) (xs : List α) {M1 : Hd} {Z : (List D → List (Key × D) → Hd → Prop) → List D → D → List (Key × D) → Hd → Prop} {F : List (Key × D) → Hd → Prop} {ds : List D}
    (hd : ds = xs.map f)
    (step : ∀ l a r pre acc P', xs = l ++ a :: r → P' (pre ++ [f a]) (putKD acc (kf a) (g a)) M1 → Z P' pre (f a) acc M1)
    (fin : F (xs.foldl (fun acc a => putKD acc (kf a) (g a)) []) M1) :
    ∃ P : List D → List (Key × D) → Hd → Prop, P [] [] M1 ∧ (∀ pre x post acc M', ds = pre ++ x :: post → P pre acc M' → Z P pre x acc M') ∧ ∀ acc M', P ds acc M' → F acc M' := by
  subst hd
  refine ⟨fun pre acc M => acc = (xs.take pre.length).foldl (fun acc a => putKD acc (kf a) (g a)) [] ∧ M = M1, ⟨rfl, rfl⟩, ?_, ?_⟩
  · rintro pre x post acc M' e ⟨rfl, rfl⟩
    obtain ⟨l, r, e1, e2, e3⟩ := List.map_eq_append_iff.mp e
    obtain ⟨a, r, rfl, rfl, e5⟩ := List.map_eq_cons_iff.mp e3
    subst e1; subst e2
    have e0 : (l ++ a :: r).take (l.map f).length = l := by simp
    have e1 : (l ++ a :: r).take (l.map f ++ [f a]).length = l ++ [a] := by
      rw [List.length_append, List.length_map, List.length_singleton, List.take_length_add_append]
      simp
    rw [e0]
    refine step l a r (l.map f) _ _ rfl ⟨?_, rfl⟩
    rw [e1, List.foldl_append]; rfl
  · rintro acc M' ⟨rfl, rfl⟩
    have : xs.take (xs.map f).length = xs := by rw [List.length_map, List.take_length]
    rw [this]
    exact fin
theorem dFor_g {di : DI} {g : Tg} {tb : DSt} {En : DEnds} {δ : DS} {M : Hd} (h : ∀ (F : DS → Hd → Prop) (T : DSt), (∀ δ M, F δ M ↔ En.nx δ M) → T = tb → dFor di g T { En with nx := F } δ M) : dFor di g tb En δ M := h En.nx tb (fun _ _ => Iff.rfl) rfl
theorem dWhile_g {c : DT} {tb : DSt} {En : DEnds} {δ : DS} {M : Hd} (h : ∀ (F : DS → Hd → Prop) (C : DT) (T : DSt), (∀ δ M, F δ M ↔ En.nx δ M) → C = c → T = tb → dWhile C T { En with nx := F } δ M) : dWhile c tb En δ M := h En.nx c tb (fun _ _ => Iff.rfl) rfl rfl
theorem dLc_g {di : DI} {g : Tg} {dt : DT} {de : DE} {vs : List Nat} {δ : DS} {M : Hd} {Q : DK} (h : ∀ (F : DK) (T : DT) (U : DE), (∀ x M, F x M ↔ Q x M) → T = dt → U = de → dLc di g T U vs δ M F) : dLc di g dt de vs δ M Q := h Q dt de (fun _ _ => Iff.rfl) rfl rfl
theorem dDc_g {di : DI} {g : Tg} {dt : DT} {dk dv : DE} {vs : List Nat} {δ : DS} {M : Hd} {Q : DK} (h : ∀ (F : DK) (T : DT) (U V : DE), (∀ x M, F x M ↔ Q x M) → T = dt → U = dk → V = dv → dDc di g T U V vs δ M F) : dDc di g dt dk dv vs δ M Q := h Q dt dk dv (fun _ _ => Iff.rfl) rfl rfl rfl
theorem LS_up {M : Hd} {p : Addr} {l xs : List D} : LS (up M p (.lst l)) p xs ↔ xs = l := by
  unfold LS
  rw [up_same]
  simp [eq_comm]
theorem ls_lst {M : Hd} {p : Addr} {l xs : List D} (h : M p = some (.lst l)) : LS M p xs ↔ xs = l := by
  unfold LS
  rw [h]
  simp [eq_comm]
theorem ls_fz {M : Hd} {p : Addr} {l xs : List D} (h : M p = some (.fz l)) : LS M p xs ↔ xs = l := by
  unfold LS
  rw [h]
  simp [eq_comm]
/-! ### isinstance, reckoned -/
theorem mt_int : "int" ∈ ["int", "bool", "str", "tuple", "list", "dict"] := by decide
theorem st_int_int : subT "int" "int" = true := by decide
theorem st_bool_int : subT "bool" "int" = true := by decide
theorem st_str_int : subT "str" "int" = false := by decide
theorem st_tuple_int : subT "tuple" "int" = false := by decide
theorem st_list_int : subT "list" "int" = false := by decide
theorem st_dict_int : subT "dict" "int" = false := by decide
theorem mt_bool : "bool" ∈ ["int", "bool", "str", "tuple", "list", "dict"] := by decide
theorem st_int_bool : subT "int" "bool" = false := by decide
theorem st_bool_bool : subT "bool" "bool" = true := by decide
theorem st_str_bool : subT "str" "bool" = false := by decide
theorem st_tuple_bool : subT "tuple" "bool" = false := by decide
theorem st_list_bool : subT "list" "bool" = false := by decide
theorem st_dict_bool : subT "dict" "bool" = false := by decide
theorem mt_str : "str" ∈ ["int", "bool", "str", "tuple", "list", "dict"] := by decide
theorem st_int_str : subT "int" "str" = false := by decide
theorem st_bool_str : subT "bool" "str" = false := by decide
theorem st_str_str : subT "str" "str" = true := by decide
theorem st_tuple_str : subT "tuple" "str" = false := by decide
theorem st_list_str : subT "list" "str" = false := by decide
theorem st_dict_str : subT "dict" "str" = false := by decide
theorem mt_tuple : "tuple" ∈ ["int", "bool", "str", "tuple", "list", "dict"] := by decide
theorem st_int_tuple : subT "int" "tuple" = false := by decide
theorem st_bool_tuple : subT "bool" "tuple" = false := by decide
theorem st_str_tuple : subT "str" "tuple" = false := by decide
theorem st_tuple_tuple : subT "tuple" "tuple" = true := by decide
theorem st_list_tuple : subT "list" "tuple" = false := by decide
theorem st_dict_tuple : subT "dict" "tuple" = false := by decide
theorem mt_list : "list" ∈ ["int", "bool", "str", "tuple", "list", "dict"] := by decide
theorem st_int_list : subT "int" "list" = false := by decide
theorem st_bool_list : subT "bool" "list" = false := by decide
theorem st_str_list : subT "str" "list" = false := by decide
theorem st_tuple_list : subT "tuple" "list" = false := by decide
theorem st_list_list : subT "list" "list" = true := by decide
theorem st_dict_list : subT "dict" "list" = false := by decide
theorem mt_dict : "dict" ∈ ["int", "bool", "str", "tuple", "list", "dict"] := by decide
theorem st_int_dict : subT "int" "dict" = false := by decide
theorem st_bool_dict : subT "bool" "dict" = false := by decide
theorem st_str_dict : subT "str" "dict" = false := by decide
theorem st_tuple_dict : subT "tuple" "dict" = false := by decide
theorem st_list_dict : subT "list" "dict" = false := by decide
theorem st_dict_dict : subT "dict" "dict" = true := by decide
theorem up_comm {M : Hd} {a b : Addr} {o u : O} (h : a ≠ b) : up (up M a o) b u = up (up M b u) a o := by
  funext c
  unfold up
  by_cases h1 : c = b
  · subst h1
    have : ¬ c = a := fun z => h z.symm
    simp [this]
  · simp [h1]
/-! ### the slots, looked up at once -/
theorem dVar0 {a : D} {δ : DS} {M : Hd} {Q : DK} : dVar 0 (some a :: δ) M Q ↔ Q a M := ⟨fun ⟨_, e, h⟩ => by cases e; exact h, fun h => ⟨a, rfl, h⟩⟩
theorem dAug0 {a : D} {δ : DS} {M : Hd} {de : DE} {rd : DR2} {En : DEnds} : dAug 0 de rd En (some a :: δ) M ↔ de (some a :: δ) M fun y M1 => rd a y M1 fun z M2 => En.nx (some z :: δ) M2 := ⟨fun ⟨_, e, h⟩ => by cases e; exact h, fun h => ⟨a, rfl, h⟩⟩
theorem dSet0 {y : Option D} {δ : DS} {M : Hd} {de : DE} {En : DEnds} : dSet 0 de En (y :: δ) M ↔ de (y :: δ) M fun z M1 => En.nx (some z :: δ) M1 := Iff.rfl
theorem dTgN0 {y : Option D} {z : D} {δ : DS} {Q : DS → Prop} : dTg (.nm 0) z (y :: δ) Q ↔ Q (some z :: δ) := Iff.rfl
theorem dTgW0 {y : Option D} {z : D} {δ : DS} {Q : DS → Prop} : dTg (.nm 0) z (wipeD (y :: δ) [0]) Q ↔ Q (some z :: δ) := Iff.rfl
theorem dVar1 {x0 : Option D} {a : D} {δ : DS} {M : Hd} {Q : DK} : dVar 1 (x0 :: some a :: δ) M Q ↔ Q a M := ⟨fun ⟨_, e, h⟩ => by cases e; exact h, fun h => ⟨a, rfl, h⟩⟩
theorem dAug1 {x0 : Option D} {a : D} {δ : DS} {M : Hd} {de : DE} {rd : DR2} {En : DEnds} : dAug 1 de rd En (x0 :: some a :: δ) M ↔ de (x0 :: some a :: δ) M fun y M1 => rd a y M1 fun z M2 => En.nx (x0 :: some z :: δ) M2 := ⟨fun ⟨_, e, h⟩ => by cases e; exact h, fun h => ⟨a, rfl, h⟩⟩
theorem dSet1 {x0 : Option D} {y : Option D} {δ : DS} {M : Hd} {de : DE} {En : DEnds} : dSet 1 de En (x0 :: y :: δ) M ↔ de (x0 :: y :: δ) M fun z M1 => En.nx (x0 :: some z :: δ) M1 := Iff.rfl
theorem dTgN1 {x0 : Option D} {y : Option D} {z : D} {δ : DS} {Q : DS → Prop} : dTg (.nm 1) z (x0 :: y :: δ) Q ↔ Q (x0 :: some z :: δ) := Iff.rfl
theorem dTgW1 {x0 : Option D} {y : Option D} {z : D} {δ : DS} {Q : DS → Prop} : dTg (.nm 1) z (wipeD (x0 :: y :: δ) [1]) Q ↔ Q (x0 :: some z :: δ) := Iff.rfl
theorem dVar2 {x0 x1 : Option D} {a : D} {δ : DS} {M : Hd} {Q : DK} : dVar 2 (x0 :: x1 :: some a :: δ) M Q ↔ Q a M := ⟨fun ⟨_, e, h⟩ => by cases e; exact h, fun h => ⟨a, rfl, h⟩⟩
theorem dAug2 {x0 x1 : Option D} {a : D} {δ : DS} {M : Hd} {de : DE} {rd : DR2} {En : DEnds} : dAug 2 de rd En (x0 :: x1 :: some a :: δ) M ↔ de (x0 :: x1 :: some a :: δ) M fun y M1 => rd a y M1 fun z M2 => En.nx (x0 :: x1 :: some z :: δ) M2 := ⟨fun ⟨_, e, h⟩ => by cases e; exact h, fun h => ⟨a, rfl, h⟩⟩
theorem dSet2 {x0 x1 : Option D} {y : Option D} {δ : DS} {M : Hd} {de : DE} {En : DEnds} : dSet 2 de En (x0 :: x1 :: y :: δ) M ↔ de (x0 :: x1 :: y :: δ) M fun z M1 => En.nx (x0 :: x1 :: some z :: δ) M1 := Iff.rfl
theorem dTgN2 {x0 x1 : Option D} {y : Option D} {z : D} {δ : DS} {Q : DS → Prop} : dTg (.nm 2) z (x0 :: x1 :: y :: δ) Q ↔ Q (x0 :: x1 :: some z :: δ) := Iff.rfl
theorem dTgW2 {x0 x1 : Option D} {y : Option D} {z : D} {δ : DS} {Q : DS → Prop} : dTg (.nm 2) z (wipeD (x0 :: x1 :: y :: δ) [2]) Q ↔ Q (x0 :: x1 :: some z :: δ) := Iff.rfl
theorem dVar3 {x0 x1 x2 : Option D} {a : D} {δ : DS} {M : Hd} {Q : DK} : dVar 3 (x0 :: x1 :: x2 :: some a :: δ) M Q ↔ Q a M := ⟨fun ⟨_, e, h⟩ => by cases e; exact h, fun h => ⟨a, rfl, h⟩⟩
theorem dAug3 {x0 x1 x2 : Option D} {a : D} {δ : DS} {M : Hd} {de : DE} {rd : DR2} {En : DEnds} : dAug 3 de rd En (x0 :: x1 :: x2 :: some a :: δ) M ↔ de (x0 :: x1 :: x2 :: some a :: δ) M fun y M1 => rd a y M1 fun z M2 => En.nx (x0 :: x1 :: x2 :: some z :: δ) M2 := ⟨fun ⟨_, e, h⟩ => by cases e; exact h, fun h => ⟨a, rfl, h⟩⟩
theorem dSet3 {x0 x1 x2 : Option D} {y : Option D} {δ : DS} {M : Hd} {de : DE} {En : DEnds} : dSet 3 de En (x0 :: x1 :: x2 :: y :: δ) M ↔ de (x0 :: x1 :: x2 :: y :: δ) M fun z M1 => En.nx (x0 :: x1 :: x2 :: some z :: δ) M1 := Iff.rfl
theorem dTgN3 {x0 x1 x2 : Option D} {y : Option D} {z : D} {δ : DS} {Q : DS → Prop} : dTg (.nm 3) z (x0 :: x1 :: x2 :: y :: δ) Q ↔ Q (x0 :: x1 :: x2 :: some z :: δ) := Iff.rfl
theorem dTgW3 {x0 x1 x2 : Option D} {y : Option D} {z : D} {δ : DS} {Q : DS → Prop} : dTg (.nm 3) z (wipeD (x0 :: x1 :: x2 :: y :: δ) [3]) Q ↔ Q (x0 :: x1 :: x2 :: some z :: δ) := Iff.rfl
theorem dVar4 {x0 x1 x2 x3 : Option D} {a : D} {δ : DS} {M : Hd} {Q : DK} : dVar 4 (x0 :: x1 :: x2 :: x3 :: some a :: δ) M Q ↔ Q a M := ⟨fun ⟨_, e, h⟩ => by cases e; exact h, fun h => ⟨a, rfl, h⟩⟩
theorem dAug4 {x0 x1 x2 x3 : Option D} {a : D} {δ : DS} {M : Hd} {de : DE} {rd : DR2} {En : DEnds} : dAug 4 de rd En (x0 :: x1 :: x2 :: x3 :: some a :: δ) M ↔ de (x0 :: x1 :: x2 :: x3 :: some a :: δ) M fun y M1 => rd a y M1 fun z M2 => En.nx (x0 :: x1 :: x2 :: x3 :: some z :: δ) M2 := ⟨fun ⟨_, e, h⟩ => by cases e; exact h, fun h => ⟨a, rfl, h⟩⟩
theorem dSet4 {x0 x1 x2 x3 : Option D} {y : Option D} {δ : DS} {M : Hd} {de : DE} {En : DEnds} : dSet 4 de En (x0 :: x1 :: x2 :: x3 :: y :: δ) M ↔ de (x0 :: x1 :: x2 :: x3 :: y :: δ) M fun z M1 => En.nx (x0 :: x1 :: x2 :: x3 :: some z :: δ) M1 := Iff.rfl
theorem dTgN4 {x0 x1 x2 x3 : Option D} {y : Option D} {z : D} {δ : DS} {Q : DS → Prop} : dTg (.nm 4) z (x0 :: x1 :: x2 :: x3 :: y :: δ) Q ↔ Q (x0 :: x1 :: x2 :: x3 :: some z :: δ) := Iff.rfl
theorem dTgW4 {x0 x1 x2 x3 : Option D} {y : Option D} {z : D} {δ : DS} {Q : DS → Prop} : dTg (.nm 4) z (wipeD (x0 :: x1 :: x2 :: x3 :: y :: δ) [4]) Q ↔ Q (x0 :: x1 :: x2 :: x3 :: some z :: δ) := Iff.rfl
theorem dVar5 {x0 x1 x2 x3 x4 : Option D} {a : D} {δ : DS} {M : Hd} {Q : DK} : dVar 5 (x0 :: x1 :: x2 :: x3 :: x4 :: some a :: δ) M Q ↔ Q a M := ⟨fun ⟨_, e, h⟩ => by cases e; exact h, fun h => ⟨a, rfl, h⟩⟩
theorem dAug5 {x0 x1 x2 x3 x4 : Option D} {a : D} {δ : DS} {M : Hd} {de : DE} {rd : DR2} {En : DEnds} : dAug 5 de rd En (x0 :: x1 :: x2 :: x3 :: x4 :: some a :: δ) M ↔ de (x0 :: x1 :: x2 :: x3 :: x4 :: some a :: δ) M fun y M1 => rd a y M1 fun z M2 => En.nx (x0 :: x1 :: x2 :: x3 :: x4 :: some z :: δ) M2 := ⟨fun ⟨_, e, h⟩ => by cases e; exact h, fun h => ⟨a, rfl, h⟩⟩
theorem dSet5 {x0 x1 x2 x3 x4 : Option D} {y : Option D} {δ : DS} {M : Hd} {de : DE} {En : DEnds} : dSet 5 de En (x0 :: x1 :: x2 :: x3 :: x4 :: y :: δ) M ↔ de (x0 :: x1 :: x2 :: x3 :: x4 :: y :: δ) M fun z M1 => En.nx (x0 :: x1 :: x2 :: x3 :: x4 :: some z :: δ) M1 := Iff.rfl
theorem dTgN5 {x0 x1 x2 x3 x4 : Option D} {y : Option D} {z : D} {δ : DS} {Q : DS → Prop} : dTg (.nm 5) z (x0 :: x1 :: x2 :: x3 :: x4 :: y :: δ) Q ↔ Q (x0 :: x1 :: x2 :: x3 :: x4 :: some z :: δ) := Iff.rfl
theorem dTgW5 {x0 x1 x2 x3 x4 : Option D} {y : Option D} {z : D} {δ : DS} {Q : DS → Prop} : dTg (.nm 5) z (wipeD (x0 :: x1 :: x2 :: x3 :: x4 :: y :: δ) [5]) Q ↔ Q (x0 :: x1 :: x2 :: x3 :: x4 :: some z :: δ) := Iff.rfl
theorem dVar6 {x0 x1 x2 x3 x4 x5 : Option D} {a : D} {δ : DS} {M : Hd} {Q : DK} : dVar 6 (x0 :: x1 :: x2 :: x3 :: x4 :: x5 :: some a :: δ) M Q ↔ Q a M := ⟨fun ⟨_, e, h⟩ => by cases e; exact h, fun h => ⟨a, rfl, h⟩⟩
theorem dAug6 {x0 x1 x2 x3 x4 x5 : Option D} {a : D} {δ : DS} {M : Hd} {de : DE} {rd : DR2} {En : DEnds} : dAug 6 de rd En (x0 :: x1 :: x2 :: x3 :: x4 :: x5 :: some a :: δ) M ↔ de (x0 :: x1 :: x2 :: x3 :: x4 :: x5 :: some a :: δ) M fun y M1 => rd a y M1 fun z M2 => En.nx (x0 :: x1 :: x2 :: x3 :: x4 :: x5 :: some z :: δ) M2 := ⟨fun ⟨_, e, h⟩ => by cases e; exact h, fun h => ⟨a, rfl, h⟩⟩
theorem dSet6 {x0 x1 x2 x3 x4 x5 : Option D} {y : Option D} {δ : DS} {M : Hd} {de : DE} {En : DEnds} : dSet 6 de En (x0 :: x1 :: x2 :: x3 :: x4 :: x5 :: y :: δ) M ↔ de (x0 :: x1 :: x2 :: x3 :: x4 :: x5 :: y :: δ) M fun z M1 => En.nx (x0 :: x1 :: x2 :: x3 :: x4 :: x5 :: some z :: δ) M1 := Iff.rfl
theorem dTgN6 {x0 x1 x2 x3 x4 x5 : Option D} {y : Option D} {z : D} {δ : DS} {Q : DS → Prop} : dTg (.nm 6) z (x0 :: x1 :: x2 :: x3 :: x4 :: x5 :: y :: δ) Q ↔ Q (x0 :: x1 :: x2 :: x3 :: x4 :: x5 :: some z :: δ) := Iff.rfl
theorem dTgW6 {x0 x1 x2 x3 x4 x5 : Option D} {y : Option D} {z : D} {δ : DS} {Q : DS → Prop} : dTg (.nm 6) z (wipeD (x0 :: x1 :: x2 :: x3 :: x4 :: x5 :: y :: δ) [6]) Q ↔ Q (x0 :: x1 :: x2 :: x3 :: x4 :: x5 :: some z :: δ) := Iff.rfl
theorem dVar7 {x0 x1 x2 x3 x4 x5 x6 : Option D} {a : D} {δ : DS} {M : Hd} {Q : DK} : dVar 7 (x0 :: x1 :: x2 :: x3 :: x4 :: x5 :: x6 :: some a :: δ) M Q ↔ Q a M := ⟨fun ⟨_, e, h⟩ => by cases e; exact h, fun h => ⟨a, rfl, h⟩⟩
theorem dAug7 {x0 x1 x2 x3 x4 x5 x6 : Option D} {a : D} {δ : DS} {M : Hd} {de : DE} {rd : DR2} {En : DEnds} : dAug 7 de rd En (x0 :: x1 :: x2 :: x3 :: x4 :: x5 :: x6 :: some a :: δ) M ↔ de (x0 :: x1 :: x2 :: x3 :: x4 :: x5 :: x6 :: some a :: δ) M fun y M1 => rd a y M1 fun z M2 => En.nx (x0 :: x1 :: x2 :: x3 :: x4 :: x5 :: x6 :: some z :: δ) M2 := ⟨fun ⟨_, e, h⟩ => by cases e; exact h, fun h => ⟨a, rfl, h⟩⟩
theorem dSet7 {x0 x1 x2 x3 x4 x5 x6 : Option D} {y : Option D} {δ : DS} {M : Hd} {de : DE} {En : DEnds} : dSet 7 de En (x0 :: x1 :: x2 :: x3 :: x4 :: x5 :: x6 :: y :: δ) M ↔ de (x0 :: x1 :: x2 :: x3 :: x4 :: x5 :: x6 :: y :: δ) M fun z M1 => En.nx (x0 :: x1 :: x2 :: x3 :: x4 :: x5 :: x6 :: some z :: δ) M1 := Iff.rfl
theorem dTgN7 {x0 x1 x2 x3 x4 x5 x6 : Option D} {y : Option D} {z : D} {δ : DS} {Q : DS → Prop} : dTg (.nm 7) z (x0 :: x1 :: x2 :: x3 :: x4 :: x5 :: x6 :: y :: δ) Q ↔ Q (x0 :: x1 :: x2 :: x3 :: x4 :: x5 :: x6 :: some z :: δ) := Iff.rfl
theorem dTgW7 {x0 x1 x2 x3 x4 x5 x6 : Option D} {y : Option D} {z : D} {δ : DS} {Q : DS → Prop} : dTg (.nm 7) z (wipeD (x0 :: x1 :: x2 :: x3 :: x4 :: x5 :: x6 :: y :: δ) [7]) Q ↔ Q (x0 :: x1 :: x2 :: x3 :: x4 :: x5 :: x6 :: some z :: δ) := Iff.rfl
theorem dVar8 {x0 x1 x2 x3 x4 x5 x6 x7 : Option D} {a : D} {δ : DS} {M : Hd} {Q : DK} : dVar 8 (x0 :: x1 :: x2 :: x3 :: x4 :: x5 :: x6 :: x7 :: some a :: δ) M Q ↔ Q a M := ⟨fun ⟨_, e, h⟩ => by cases e; exact h, fun h => ⟨a, rfl, h⟩⟩
theorem dAug8 {x0 x1 x2 x3 x4 x5 x6 x7 : Option D} {a : D} {δ : DS} {M : Hd} {de : DE} {rd : DR2} {En : DEnds} : dAug 8 de rd En (x0 :: x1 :: x2 :: x3 :: x4 :: x5 :: x6 :: x7 :: some a :: δ) M ↔ de (x0 :: x1 :: x2 :: x3 :: x4 :: x5 :: x6 :: x7 :: some a :: δ) M fun y M1 => rd a y M1 fun z M2 => En.nx (x0 :: x1 :: x2 :: x3 :: x4 :: x5 :: x6 :: x7 :: some z :: δ) M2 := ⟨fun ⟨_, e, h⟩ => by cases e; exact h, fun h => ⟨a, rfl, h⟩⟩
theorem dSet8 {x0 x1 x2 x3 x4 x5 x6 x7 : Option D} {y : Option D} {δ : DS} {M : Hd} {de : DE} {En : DEnds} : dSet 8 de En (x0 :: x1 :: x2 :: x3 :: x4 :: x5 :: x6 :: x7 :: y :: δ) M ↔ de (x0 :: x1 :: x2 :: x3 :: x4 :: x5 :: x6 :: x7 :: y :: δ) M fun z M1 => En.nx (x0 :: x1 :: x2 :: x3 :: x4 :: x5 :: x6 :: x7 :: some z :: δ) M1 := Iff.rfl
theorem dTgN8 {x0 x1 x2 x3 x4 x5 x6 x7 : Option D} {y : Option D} {z : D} {δ : DS} {Q : DS → Prop} : dTg (.nm 8) z (x0 :: x1 :: x2 :: x3 :: x4 :: x5 :: x6 :: x7 :: y :: δ) Q ↔ Q (x0 :: x1 :: x2 :: x3 :: x4 :: x5 :: x6 :: x7 :: some z :: δ) := Iff.rfl
theorem dTgW8 {x0 x1 x2 x3 x4 x5 x6 x7 : Option D} {y : Option D} {z : D} {δ : DS} {Q : DS → Prop} : dTg (.nm 8) z (wipeD (x0 :: x1 :: x2 :: x3 :: x4 :: x5 :: x6 :: x7 :: y :: δ) [8]) Q ↔ Q (x0 :: x1 :: x2 :: x3 :: x4 :: x5 :: x6 :: x7 :: some z :: δ) := Iff.rfl
theorem dVar9 {x0 x1 x2 x3 x4 x5 x6 x7 x8 : Option D} {a : D} {δ : DS} {M : Hd} {Q : DK} : dVar 9 (x0 :: x1 :: x2 :: x3 :: x4 :: x5 :: x6 :: x7 :: x8 :: some a :: δ) M Q ↔ Q a M := ⟨fun ⟨_, e, h⟩ => by cases e; exact h, fun h => ⟨a, rfl, h⟩⟩
theorem dAug9 {x0 x1 x2 x3 x4 x5 x6 x7 x8 : Option D} {a : D} {δ : DS} {M : Hd} {de : DE} {rd : DR2} {En : DEnds} : dAug 9 de rd En (x0 :: x1 :: x2 :: x3 :: x4 :: x5 :: x6 :: x7 :: x8 :: some a :: δ) M ↔ de (x0 :: x1 :: x2 :: x3 :: x4 :: x5 :: x6 :: x7 :: x8 :: some a :: δ) M fun y M1 => rd a y M1 fun z M2 => En.nx (x0 :: x1 :: x2 :: x3 :: x4 :: x5 :: x6 :: x7 :: x8 :: some z :: δ) M2 := ⟨fun ⟨_, e, h⟩ => by cases e; exact h, fun h => ⟨a, rfl, h⟩⟩
theorem dSet9 {x0 x1 x2 x3 x4 x5 x6 x7 x8 : Option D} {y : Option D} {δ : DS} {M : Hd} {de : DE} {En : DEnds} : dSet 9 de En (x0 :: x1 :: x2 :: x3 :: x4 :: x5 :: x6 :: x7 :: x8 :: y :: δ) M ↔ de (x0 :: x1 :: x2 :: x3 :: x4 :: x5 :: x6 :: x7 :: x8 :: y :: δ) M fun z M1 => En.nx (x0 :: x1 :: x2 :: x3 :: x4 :: x5 :: x6 :: x7 :: x8 :: some z :: δ) M1 := Iff.rfl
theorem dTgN9 {x0 x1 x2 x3 x4 x5 x6 x7 x8 : Option D} {y : Option D} {z : D} {δ : DS} {Q : DS → Prop} : dTg (.nm 9) z (x0 :: x1 :: x2 :: x3 :: x4 :: x5 :: x6 :: x7 :: x8 :: y :: δ) Q ↔ Q (x0 :: x1 :: x2 :: x3 :: x4 :: x5 :: x6 :: x7 :: x8 :: some z :: δ) := Iff.rfl
theorem dTgW9 {x0 x1 x2 x3 x4 x5 x6 x7 x8 : Option D} {y : Option D} {z : D} {δ : DS} {Q : DS → Prop} : dTg (.nm 9) z (wipeD (x0 :: x1 :: x2 :: x3 :: x4 :: x5 :: x6 :: x7 :: x8 :: y :: δ) [9]) Q ↔ Q (x0 :: x1 :: x2 :: x3 :: x4 :: x5 :: x6 :: x7 :: x8 :: some z :: δ) := Iff.rfl
theorem dVar10 {x0 x1 x2 x3 x4 x5 x6 x7 x8 x9 : Option D} {a : D} {δ : DS} {M : Hd} {Q : DK} : dVar 10 (x0 :: x1 :: x2 :: x3 :: x4 :: x5 :: x6 :: x7 :: x8 :: x9 :: some a :: δ) M Q ↔ Q a M := ⟨fun ⟨_, e, h⟩ => by cases e; exact h, fun h => ⟨a, rfl, h⟩⟩
theorem dAug10 {x0 x1 x2 x3 x4 x5 x6 x7 x8 x9 : Option D} {a : D} {δ : DS} {M : Hd} {de : DE} {rd : DR2} {En : DEnds} : dAug 10 de rd En (x0 :: x1 :: x2 :: x3 :: x4 :: x5 :: x6 :: x7 :: x8 :: x9 :: some a :: δ) M ↔ de (x0 :: x1 :: x2 :: x3 :: x4 :: x5 :: x6 :: x7 :: x8 :: x9 :: some a :: δ) M fun y M1 => rd a y M1 fun z M2 => En.nx (x0 :: x1 :: x2 :: x3 :: x4 :: x5 :: x6 :: x7 :: x8 :: x9 :: some z :: δ) M2 := ⟨fun ⟨_, e, h⟩ => by cases e; exact h, fun h => ⟨a, rfl, h⟩⟩
theorem dSet10 {x0 x1 x2 x3 x4 x5 x6 x7 x8 x9 : Option D} {y : Option D} {δ : DS} {M : Hd} {de : DE} {En : DEnds} : dSet 10 de En (x0 :: x1 :: x2 :: x3 :: x4 :: x5 :: x6 :: x7 :: x8 :: x9 :: y :: δ) M ↔ de (x0 :: x1 :: x2 :: x3 :: x4 :: x5 :: x6 :: x7 :: x8 :: x9 :: y :: δ) M fun z M1 => En.nx (x0 :: x1 :: x2 :: x3 :: x4 :: x5 :: x6 :: x7 :: x8 :: x9 :: some z :: δ) M1 := Iff.rfl
theorem dTgN10 {x0 x1 x2 x3 x4 x5 x6 x7 x8 x9 : Option D} {y : Option D} {z : D} {δ : DS} {Q : DS → Prop} : dTg (.nm 10) z (x0 :: x1 :: x2 :: x3 :: x4 :: x5 :: x6 :: x7 :: x8 :: x9 :: y :: δ) Q ↔ Q (x0 :: x1 :: x2 :: x3 :: x4 :: x5 :: x6 :: x7 :: x8 :: x9 :: some z :: δ) := Iff.rfl
theorem dTgW10 {x0 x1 x2 x3 x4 x5 x6 x7 x8 x9 : Option D} {y : Option D} {z : D} {δ : DS} {Q : DS → Prop} : dTg (.nm 10) z (wipeD (x0 :: x1 :: x2 :: x3 :: x4 :: x5 :: x6 :: x7 :: x8 :: x9 :: y :: δ) [10]) Q ↔ Q (x0 :: x1 :: x2 :: x3 :: x4 :: x5 :: x6 :: x7 :: x8 :: x9 :: some z :: δ) := Iff.rfl
theorem dVar11 {x0 x1 x2 x3 x4 x5 x6 x7 x8 x9 x10 : Option D} {a : D} {δ : DS} {M : Hd} {Q : DK} : dVar 11 (x0 :: x1 :: x2 :: x3 :: x4 :: x5 :: x6 :: x7 :: x8 :: x9 :: x10 :: some a :: δ) M Q ↔ Q a M := ⟨fun ⟨_, e, h⟩ => by cases e; exact h, fun h => ⟨a, rfl, h⟩⟩
theorem dAug11 {x0 x1 x2 x3 x4 x5 x6 x7 x8 x9 x10 : Option D} {a : D} {δ : DS} {M : Hd} {de : DE} {rd : DR2} {En : DEnds} : dAug 11 de rd En (x0 :: x1 :: x2 :: x3 :: x4 :: x5 :: x6 :: x7 :: x8 :: x9 :: x10 :: some a :: δ) M ↔ de (x0 :: x1 :: x2 :: x3 :: x4 :: x5 :: x6 :: x7 :: x8 :: x9 :: x10 :: some a :: δ) M fun y M1 => rd a y M1 fun z M2 => En.nx (x0 :: x1 :: x2 :: x3 :: x4 :: x5 :: x6 :: x7 :: x8 :: x9 :: x10 :: some z :: δ) M2 := ⟨fun ⟨_, e, h⟩ => by cases e; exact h, fun h => ⟨a, rfl, h⟩⟩
theorem dSet11 {x0 x1 x2 x3 x4 x5 x6 x7 x8 x9 x10 : Option D} {y : Option D} {δ : DS} {M : Hd} {de : DE} {En : DEnds} : dSet 11 de En (x0 :: x1 :: x2 :: x3 :: x4 :: x5 :: x6 :: x7 :: x8 :: x9 :: x10 :: y :: δ) M ↔ de (x0 :: x1 :: x2 :: x3 :: x4 :: x5 :: x6 :: x7 :: x8 :: x9 :: x10 :: y :: δ) M fun z M1 => En.nx (x0 :: x1 :: x2 :: x3 :: x4 :: x5 :: x6 :: x7 :: x8 :: x9 :: x10 :: some z :: δ) M1 := Iff.rfl
theorem dTgN11 {x0 x1 x2 x3 x4 x5 x6 x7 x8 x9 x10 : Option D} {y : Option D} {z : D} {δ : DS} {Q : DS → Prop} : dTg (.nm 11) z (x0 :: x1 :: x2 :: x3 :: x4 :: x5 :: x6 :: x7 :: x8 :: x9 :: x10 :: y :: δ) Q ↔ Q (x0 :: x1 :: x2 :: x3 :: x4 :: x5 :: x6 :: x7 :: x8 :: x9 :: x10 :: some z :: δ) := Iff.rfl
theorem dTgW11 {x0 x1 x2 x3 x4 x5 x6 x7 x8 x9 x10 : Option D} {y : Option D} {z : D} {δ : DS} {Q : DS → Prop} : dTg (.nm 11) z (wipeD (x0 :: x1 :: x2 :: x3 :: x4 :: x5 :: x6 :: x7 :: x8 :: x9 :: x10 :: y :: δ) [11]) Q ↔ Q (x0 :: x1 :: x2 :: x3 :: x4 :: x5 :: x6 :: x7 :: x8 :: x9 :: x10 :: some z :: δ) := Iff.rfl
theorem dVar12 {x0 x1 x2 x3 x4 x5 x6 x7 x8 x9 x10 x11 : Option D} {a : D} {δ : DS} {M : Hd} {Q : DK} : dVar 12 (x0 :: x1 :: x2 :: x3 :: x4 :: x5 :: x6 :: x7 :: x8 :: x9 :: x10 :: x11 :: some a :: δ) M Q ↔ Q a M := ⟨fun ⟨_, e, h⟩ => by cases e; exact h, fun h => ⟨a, rfl, h⟩⟩
theorem dAug12 {x0 x1 x2 x3 x4 x5 x6 x7 x8 x9 x10 x11 : Option D} {a : D} {δ : DS} {M : Hd} {de : DE} {rd : DR2} {En : DEnds} : dAug 12 de rd En (x0 :: x1 :: x2 :: x3 :: x4 :: x5 :: x6 :: x7 :: x8 :: x9 :: x10 :: x11 :: some a :: δ) M ↔ de (x0 :: x1 :: x2 :: x3 :: x4 :: x5 :: x6 :: x7 :: x8 :: x9 :: x10 :: x11 :: some a :: δ) M fun y M1 => rd a y M1 fun z M2 => En.nx (x0 :: x1 :: x2 :: x3 :: x4 :: x5 :: x6 :: x7 :: x8 :: x9 :: x10 :: x11 :: some z :: δ) M2 := ⟨fun ⟨_, e, h⟩ => by cases e; exact h, fun h => ⟨a, rfl, h⟩⟩
theorem dSet12 {x0 x1 x2 x3 x4 x5 x6 x7 x8 x9 x10 x11 : Option D} {y : Option D} {δ : DS} {M : Hd} {de : DE} {En : DEnds} : dSet 12 de En (x0 :: x1 :: x2 :: x3 :: x4 :: x5 :: x6 :: x7 :: x8 :: x9 :: x10 :: x11 :: y :: δ) M ↔ de (x0 :: x1 :: x2 :: x3 :: x4 :: x5 :: x6 :: x7 :: x8 :: x9 :: x10 :: x11 :: y :: δ) M fun z M1 => En.nx (x0 :: x1 :: x2 :: x3 :: x4 :: x5 :: x6 :: x7 :: x8 :: x9 :: x10 :: x11 :: some z :: δ) M1 := Iff.rfl
theorem dTgN12 {x0 x1 x2 x3 x4 x5 x6 x7 x8 x9 x10 x11 : Option D} {y : Option D} {z : D} {δ : DS} {Q : DS → Prop} : dTg (.nm 12) z (x0 :: x1 :: x2 :: x3 :: x4 :: x5 :: x6 :: x7 :: x8 :: x9 :: x10 :: x11 :: y :: δ) Q ↔ Q (x0 :: x1 :: x2 :: x3 :: x4 :: x5 :: x6 :: x7 :: x8 :: x9 :: x10 :: x11 :: some z :: δ) := Iff.rfl
theorem dTgW12 {x0 x1 x2 x3 x4 x5 x6 x7 x8 x9 x10 x11 : Option D} {y : Option D} {z : D} {δ : DS} {Q : DS → Prop} : dTg (.nm 12) z (wipeD (x0 :: x1 :: x2 :: x3 :: x4 :: x5 :: x6 :: x7 :: x8 :: x9 :: x10 :: x11 :: y :: δ) [12]) Q ↔ Q (x0 :: x1 :: x2 :: x3 :: x4 :: x5 :: x6 :: x7 :: x8 :: x9 :: x10 :: x11 :: some z :: δ) := Iff.rfl
theorem dVar13 {x0 x1 x2 x3 x4 x5 x6 x7 x8 x9 x10 x11 x12 : Option D} {a : D} {δ : DS} {M : Hd} {Q : DK} : dVar 13 (x0 :: x1 :: x2 :: x3 :: x4 :: x5 :: x6 :: x7 :: x8 :: x9 :: x10 :: x11 :: x12 :: some a :: δ) M Q ↔ Q a M := ⟨fun ⟨_, e, h⟩ => by cases e; exact h, fun h => ⟨a, rfl, h⟩⟩
theorem dAug13 {x0 x1 x2 x3 x4 x5 x6 x7 x8 x9 x10 x11 x12 : Option D} {a : D} {δ : DS} {M : Hd} {de : DE} {rd : DR2} {En : DEnds} : dAug 13 de rd En (x0 :: x1 :: x2 :: x3 :: x4 :: x5 :: x6 :: x7 :: x8 :: x9 :: x10 :: x11 :: x12 :: some a :: δ) M ↔ de (x0 :: x1 :: x2 :: x3 :: x4 :: x5 :: x6 :: x7 :: x8 :: x9 :: x10 :: x11 :: x12 :: some a :: δ) M fun y M1 => rd a y M1 fun z M2 => En.nx (x0 :: x1 :: x2 :: x3 :: x4 :: x5 :: x6 :: x7 :: x8 :: x9 :: x10 :: x11 :: x12 :: some z :: δ) M2 := ⟨fun ⟨_, e, h⟩ => by cases e; exact h, fun h => ⟨a, rfl, h⟩⟩
theorem dSet13 {x0 x1 x2 x3 x4 x5 x6 x7 x8 x9 x10 x11 x12 : Option D} {y : Option D} {δ : DS} {M : Hd} {de : DE} {En : DEnds} : dSet 13 de En (x0 :: x1 :: x2 :: x3 :: x4 :: x5 :: x6 :: x7 :: x8 :: x9 :: x10 :: x11 :: x12 :: y :: δ) M ↔ de (x0 :: x1 :: x2 :: x3 :: x4 :: x5 :: x6 :: x7 :: x8 :: x9 :: x10 :: x11 :: x12 :: y :: δ) M fun z M1 => En.nx (x0 :: x1 :: x2 :: x3 :: x4 :: x5 :: x6 :: x7 :: x8 :: x9 :: x10 :: x11 :: x12 :: some z :: δ) M1 := Iff.rfl
theorem dTgN13 {x0 x1 x2 x3 x4 x5 x6 x7 x8 x9 x10 x11 x12 : Option D} {y : Option D} {z : D} {δ : DS} {Q : DS → Prop} : dTg (.nm 13) z (x0 :: x1 :: x2 :: x3 :: x4 :: x5 :: x6 :: x7 :: x8 :: x9 :: x10 :: x11 :: x12 :: y :: δ) Q ↔ Q (x0 :: x1 :: x2 :: x3 :: x4 :: x5 :: x6 :: x7 :: x8 :: x9 :: x10 :: x11 :: x12 :: some z :: δ) := Iff.rfl
theorem dTgW13 {x0 x1 x2 x3 x4 x5 x6 x7 x8 x9 x10 x11 x12 : Option D} {y : Option D} {z : D} {δ : DS} {Q : DS → Prop} : dTg (.nm 13) z (wipeD (x0 :: x1 :: x2 :: x3 :: x4 :: x5 :: x6 :: x7 :: x8 :: x9 :: x10 :: x11 :: x12 :: y :: δ) [13]) Q ↔ Q (x0 :: x1 :: x2 :: x3 :: x4 :: x5 :: x6 :: x7 :: x8 :: x9 :: x10 :: x11 :: x12 :: some z :: δ) := Iff.rfl
theorem dVar14 {x0 x1 x2 x3 x4 x5 x6 x7 x8 x9 x10 x11 x12 x13 : Option D} {a : D} {δ : DS} {M : Hd} {Q : DK} : dVar 14 (x0 :: x1 :: x2 :: x3 :: x4 :: x5 :: x6 :: x7 :: x8 :: x9 :: x10 :: x11 :: x12 :: x13 :: some a :: δ) M Q ↔ Q a M := ⟨fun ⟨_, e, h⟩ => by cases e; exact h, fun h => ⟨a, rfl, h⟩⟩
theorem dAug14 {x0 x1 x2 x3 x4 x5 x6 x7 x8 x9 x10 x11 x12 x13 : Option D} {a : D} {δ : DS} {M : Hd} {de : DE} {rd : DR2} {En : DEnds} : dAug 14 de rd En (x0 :: x1 :: x2 :: x3 :: x4 :: x5 :: x6 :: x7 :: x8 :: x9 :: x10 :: x11 :: x12 :: x13 :: some a :: δ) M ↔ de (x0 :: x1 :: x2 :: x3 :: x4 :: x5 :: x6 :: x7 :: x8 :: x9 :: x10 :: x11 :: x12 :: x13 :: some a :: δ) M fun y M1 => rd a y M1 fun z M2 => En.nx (x0 :: x1 :: x2 :: x3 :: x4 :: x5 :: x6 :: x7 :: x8 :: x9 :: x10 :: x11 :: x12 :: x13 :: some z :: δ) M2 := ⟨fun ⟨_, e, h⟩ => by cases e; exact h, fun h => ⟨a, rfl, h⟩⟩
theorem dSet14 {x0 x1 x2 x3 x4 x5 x6 x7 x8 x9 x10 x11 x12 x13 : Option D} {y : Option D} {δ : DS} {M : Hd} {de : DE} {En : DEnds} : dSet 14 de En (x0 :: x1 :: x2 :: x3 :: x4 :: x5 :: x6 :: x7 :: x8 :: x9 :: x10 :: x11 :: x12 :: x13 :: y :: δ) M ↔ de (x0 :: x1 :: x2 :: x3 :: x4 :: x5 :: x6 :: x7 :: x8 :: x9 :: x10 :: x11 :: x12 :: x13 :: y :: δ) M fun z M1 => En.nx (x0 :: x1 :: x2 :: x3 :: x4 :: x5 :: x6 :: x7 :: x8 :: x9 :: x10 :: x11 :: x12 :: x13 :: some z :: δ) M1 := Iff.rfl
theorem dTgN14 {x0 x1 x2 x3 x4 x5 x6 x7 x8 x9 x10 x11 x12 x13 : Option D} {y : Option D} {z : D} {δ : DS} {Q : DS → Prop} : dTg (.nm 14) z (x0 :: x1 :: x2 :: x3 :: x4 :: x5 :: x6 :: x7 :: x8 :: x9 :: x10 :: x11 :: x12 :: x13 :: y :: δ) Q ↔ Q (x0 :: x1 :: x2 :: x3 :: x4 :: x5 :: x6 :: x7 :: x8 :: x9 :: x10 :: x11 :: x12 :: x13 :: some z :: δ) := Iff.rfl
theorem dTgW14 {x0 x1 x2 x3 x4 x5 x6 x7 x8 x9 x10 x11 x12 x13 : Option D} {y : Option D} {z : D} {δ : DS} {Q : DS → Prop} : dTg (.nm 14) z (wipeD (x0 :: x1 :: x2 :: x3 :: x4 :: x5 :: x6 :: x7 :: x8 :: x9 :: x10 :: x11 :: x12 :: x13 :: y :: δ) [14]) Q ↔ Q (x0 :: x1 :: x2 :: x3 :: x4 :: x5 :: x6 :: x7 :: x8 :: x9 :: x10 :: x11 :: x12 :: x13 :: some z :: δ) := Iff.rfl
theorem dVar15 {x0 x1 x2 x3 x4 x5 x6 x7 x8 x9 x10 x11 x12 x13 x14 : Option D} {a : D} {δ : DS} {M : Hd} {Q : DK} : dVar 15 (x0 :: x1 :: x2 :: x3 :: x4 :: x5 :: x6 :: x7 :: x8 :: x9 :: x10 :: x11 :: x12 :: x13 :: x14 :: some a :: δ) M Q ↔ Q a M := ⟨fun ⟨_, e, h⟩ => by cases e; exact h, fun h => ⟨a, rfl, h⟩⟩
theorem dAug15 {x0 x1 x2 x3 x4 x5 x6 x7 x8 x9 x10 x11 x12 x13 x14 : Option D} {a : D} {δ : DS} {M : Hd} {de : DE} {rd : DR2} {En : DEnds} : dAug 15 de rd En (x0 :: x1 :: x2 :: x3 :: x4 :: x5 :: x6 :: x7 :: x8 :: x9 :: x10 :: x11 :: x12 :: x13 :: x14 :: some a :: δ) M ↔ de (x0 :: x1 :: x2 :: x3 :: x4 :: x5 :: x6 :: x7 :: x8 :: x9 :: x10 :: x11 :: x12 :: x13 :: x14 :: some a :: δ) M fun y M1 => rd a y M1 fun z M2 => En.nx (x0 :: x1 :: x2 :: x3 :: x4 :: x5 :: x6 :: x7 :: x8 :: x9 :: x10 :: x11 :: x12 :: x13 :: x14 :: some z :: δ) M2 := ⟨fun ⟨_, e, h⟩ => by cases e; exact h, fun h => ⟨a, rfl, h⟩⟩
theorem dSet15 {x0 x1 x2 x3 x4 x5 x6 x7 x8 x9 x10 x11 x12 x13 x14 : Option D} {y : Option D} {δ : DS} {M : Hd} {de : DE} {En : DEnds} : dSet 15 de En (x0 :: x1 :: x2 :: x3 :: x4 :: x5 :: x6 :: x7 :: x8 :: x9 :: x10 :: x11 :: x12 :: x13 :: x14 :: y :: δ) M ↔ de (x0 :: x1 :: x2 :: x3 :: x4 :: x5 :: x6 :: x7 :: x8 :: x9 :: x10 :: x11 :: x12 :: x13 :: x14 :: y :: δ) M fun z M1 => En.nx (x0 :: x1 :: x2 :: x3 :: x4 :: x5 :: x6 :: x7 :: x8 :: x9 :: x10 :: x11 :: x12 :: x13 :: x14 :: some z :: δ) M1 := Iff.rfl
theorem dTgN15 {x0 x1 x2 x3 x4 x5 x6 x7 x8 x9 x10 x11 x12 x13 x14 : Option D} {y : Option D} {z : D} {δ : DS} {Q : DS → Prop} : dTg (.nm 15) z (x0 :: x1 :: x2 :: x3 :: x4 :: x5 :: x6 :: x7 :: x8 :: x9 :: x10 :: x11 :: x12 :: x13 :: x14 :: y :: δ) Q ↔ Q (x0 :: x1 :: x2 :: x3 :: x4 :: x5 :: x6 :: x7 :: x8 :: x9 :: x10 :: x11 :: x12 :: x13 :: x14 :: some z :: δ) := Iff.rfl
theorem dTgW15 {x0 x1 x2 x3 x4 x5 x6 x7 x8 x9 x10 x11 x12 x13 x14 : Option D} {y : Option D} {z : D} {δ : DS} {Q : DS → Prop} : dTg (.nm 15) z (wipeD (x0 :: x1 :: x2 :: x3 :: x4 :: x5 :: x6 :: x7 :: x8 :: x9 :: x10 :: x11 :: x12 :: x13 :: x14 :: y :: δ) [15]) Q ↔ Q (x0 :: x1 :: x2 :: x3 :: x4 :: x5 :: x6 :: x7 :: x8 :: x9 :: x10 :: x11 :: x12 :: x13 :: x14 :: some z :: δ) := Iff.rfl
theorem dVar16 {x0 x1 x2 x3 x4 x5 x6 x7 x8 x9 x10 x11 x12 x13 x14 x15 : Option D} {a : D} {δ : DS} {M : Hd} {Q : DK} : dVar 16 (x0 :: x1 :: x2 :: x3 :: x4 :: x5 :: x6 :: x7 :: x8 :: x9 :: x10 :: x11 :: x12 :: x13 :: x14 :: x15 :: some a :: δ) M Q ↔ Q a M := ⟨fun ⟨_, e, h⟩ => by cases e; exact h, fun h => ⟨a, rfl, h⟩⟩
theorem dAug16 {x0 x1 x2 x3 x4 x5 x6 x7 x8 x9 x10 x11 x12 x13 x14 x15 : Option D} {a : D} {δ : DS} {M : Hd} {de : DE} {rd : DR2} {En : DEnds} : dAug 16 de rd En (x0 :: x1 :: x2 :: x3 :: x4 :: x5 :: x6 :: x7 :: x8 :: x9 :: x10 :: x11 :: x12 :: x13 :: x14 :: x15 :: some a :: δ) M ↔ de (x0 :: x1 :: x2 :: x3 :: x4 :: x5 :: x6 :: x7 :: x8 :: x9 :: x10 :: x11 :: x12 :: x13 :: x14 :: x15 :: some a :: δ) M fun y M1 => rd a y M1 fun z M2 => En.nx (x0 :: x1 :: x2 :: x3 :: x4 :: x5 :: x6 :: x7 :: x8 :: x9 :: x10 :: x11 :: x12 :: x13 :: x14 :: x15 :: some z :: δ) M2 := ⟨fun ⟨_, e, h⟩ => by cases e; exact h, fun h => ⟨a, rfl, h⟩⟩
theorem dSet16 {x0 x1 x2 x3 x4 x5 x6 x7 x8 x9 x10 x11 x12 x13 x14 x15 : Option D} {y : Option D} {δ : DS} {M : Hd} {de : DE} {En : DEnds} : dSet 16 de En (x0 :: x1 :: x2 :: x3 :: x4 :: x5 :: x6 :: x7 :: x8 :: x9 :: x10 :: x11 :: x12 :: x13 :: x14 :: x15 :: y :: δ) M ↔ de (x0 :: x1 :: x2 :: x3 :: x4 :: x5 :: x6 :: x7 :: x8 :: x9 :: x10 :: x11 :: x12 :: x13 :: x14 :: x15 :: y :: δ) M fun z M1 => En.nx (x0 :: x1 :: x2 :: x3 :: x4 :: x5 :: x6 :: x7 :: x8 :: x9 :: x10 :: x11 :: x12 :: x13 :: x14 :: x15 :: some z :: δ) M1 := Iff.rfl
theorem dTgN16 {x0 x1 x2 x3 x4 x5 x6 x7 x8 x9 x10 x11 x12 x13 x14 x15 : Option D} {y : Option D} {z : D} {δ : DS} {Q : DS → Prop} : dTg (.nm 16) z (x0 :: x1 :: x2 :: x3 :: x4 :: x5 :: x6 :: x7 :: x8 :: x9 :: x10 :: x11 :: x12 :: x13 :: x14 :: x15 :: y :: δ) Q ↔ Q (x0 :: x1 :: x2 :: x3 :: x4 :: x5 :: x6 :: x7 :: x8 :: x9 :: x10 :: x11 :: x12 :: x13 :: x14 :: x15 :: some z :: δ) := Iff.rfl
theorem dTgW16 {x0 x1 x2 x3 x4 x5 x6 x7 x8 x9 x10 x11 x12 x13 x14 x15 : Option D} {y : Option D} {z : D} {δ : DS} {Q : DS → Prop} : dTg (.nm 16) z (wipeD (x0 :: x1 :: x2 :: x3 :: x4 :: x5 :: x6 :: x7 :: x8 :: x9 :: x10 :: x11 :: x12 :: x13 :: x14 :: x15 :: y :: δ) [16]) Q ↔ Q (x0 :: x1 :: x2 :: x3 :: x4 :: x5 :: x6 :: x7 :: x8 :: x9 :: x10 :: x11 :: x12 :: x13 :: x14 :: x15 :: some z :: δ) := Iff.rfl
theorem dVar17 {x0 x1 x2 x3 x4 x5 x6 x7 x8 x9 x10 x11 x12 x13 x14 x15 x16 : Option D} {a : D} {δ : DS} {M : Hd} {Q : DK} : dVar 17 (x0 :: x1 :: x2 :: x3 :: x4 :: x5 :: x6 :: x7 :: x8 :: x9 :: x10 :: x11 :: x12 :: x13 :: x14 :: x15 :: x16 :: some a :: δ) M Q ↔ Q a M := ⟨fun ⟨_, e, h⟩ => by cases e; exact h, fun h => ⟨a, rfl, h⟩⟩
theorem dAug17 {x0 x1 x2 x3 x4 x5 x6 x7 x8 x9 x10 x11 x12 x13 x14 x15 x16 : Option D} {a : D} {δ : DS} {M : Hd} {de : DE} {rd : DR2} {En : DEnds} : dAug 17 de rd En (x0 :: x1 :: x2 :: x3 :: x4 :: x5 :: x6 :: x7 :: x8 :: x9 :: x10 :: x11 :: x12 :: x13 :: x14 :: x15 :: x16 :: some a :: δ) M ↔ de (x0 :: x1 :: x2 :: x3 :: x4 :: x5 :: x6 :: x7 :: x8 :: x9 :: x10 :: x11 :: x12 :: x13 :: x14 :: x15 :: x16 :: some a :: δ) M fun y M1 => rd a y M1 fun z M2 => En.nx (x0 :: x1 :: x2 :: x3 :: x4 :: x5 :: x6 :: x7 :: x8 :: x9 :: x10 :: x11 :: x12 :: x13 :: x14 :: x15 :: x16 :: some z :: δ) M2 := ⟨fun ⟨_, e, h⟩ => by cases e; exact h, fun h => ⟨a, rfl, h⟩⟩
theorem dSet17 {x0 x1 x2 x3 x4 x5 x6 x7 x8 x9 x10 x11 x12 x13 x14 x15 x16 : Option D} {y : Option D} {δ : DS} {M : Hd} {de : DE} {En : DEnds} : dSet 17 de En (x0 :: x1 :: x2 :: x3 :: x4 :: x5 :: x6 :: x7 :: x8 :: x9 :: x10 :: x11 :: x12 :: x13 :: x14 :: x15 :: x16 :: y :: δ) M ↔ de (x0 :: x1 :: x2 :: x3 :: x4 :: x5 :: x6 :: x7 :: x8 :: x9 :: x10 :: x11 :: x12 :: x13 :: x14 :: x15 :: x16 :: y :: δ) M fun z M1 => En.nx (x0 :: x1 :: x2 :: x3 :: x4 :: x5 :: x6 :: x7 :: x8 :: x9 :: x10 :: x11 :: x12 :: x13 :: x14 :: x15 :: x16 :: some z :: δ) M1 := Iff.rfl
theorem dTgN17 {x0 x1 x2 x3 x4 x5 x6 x7 x8 x9 x10 x11 x12 x13 x14 x15 x16 : Option D} {y : Option D} {z : D} {δ : DS} {Q : DS → Prop} : dTg (.nm 17) z (x0 :: x1 :: x2 :: x3 :: x4 :: x5 :: x6 :: x7 :: x8 :: x9 :: x10 :: x11 :: x12 :: x13 :: x14 :: x15 :: x16 :: y :: δ) Q ↔ Q (x0 :: x1 :: x2 :: x3 :: x4 :: x5 :: x6 :: x7 :: x8 :: x9 :: x10 :: x11 :: x12 :: x13 :: x14 :: x15 :: x16 :: some z :: δ) := Iff.rfl
theorem dTgW17 {x0 x1 x2 x3 x4 x5 x6 x7 x8 x9 x10 x11 x12 x13 x14 x15 x16 : Option D} {y : Option D} {z : D} {δ : DS} {Q : DS → Prop} : dTg (.nm 17) z (wipeD (x0 :: x1 :: x2 :: x3 :: x4 :: x5 :: x6 :: x7 :: x8 :: x9 :: x10 :: x11 :: x12 :: x13 :: x14 :: x15 :: x16 :: y :: δ) [17]) Q ↔ Q (x0 :: x1 :: x2 :: x3 :: x4 :: x5 :: x6 :: x7 :: x8 :: x9 :: x10 :: x11 :: x12 :: x13 :: x14 :: x15 :: x16 :: some z :: δ) := Iff.rfl
theorem dVar18 {x0 x1 x2 x3 x4 x5 x6 x7 x8 x9 x10 x11 x12 x13 x14 x15 x16 x17 : Option D} {a : D} {δ : DS} {M : Hd} {Q : DK} : dVar 18 (x0 :: x1 :: x2 :: x3 :: x4 :: x5 :: x6 :: x7 :: x8 :: x9 :: x10 :: x11 :: x12 :: x13 :: x14 :: x15 :: x16 :: x17 :: some a :: δ) M Q ↔ Q a M := ⟨fun ⟨_, e, h⟩ => by cases e; exact h, fun h => ⟨a, rfl, h⟩⟩
theorem dAug18 {x0 x1 x2 x3 x4 x5 x6 x7 x8 x9 x10 x11 x12 x13 x14 x15 x16 x17 : Option D} {a : D} {δ : DS} {M : Hd} {de : DE} {rd : DR2} {En : DEnds} : dAug 18 de rd En (x0 :: x1 :: x2 :: x3 :: x4 :: x5 :: x6 :: x7 :: x8 :: x9 :: x10 :: x11 :: x12 :: x13 :: x14 :: x15 :: x16 :: x17 :: some a :: δ) M ↔ de (x0 :: x1 :: x2 :: x3 :: x4 :: x5 :: x6 :: x7 :: x8 :: x9 :: x10 :: x11 :: x12 :: x13 :: x14 :: x15 :: x16 :: x17 :: some a :: δ) M fun y M1 => rd a y M1 fun z M2 => En.nx (x0 :: x1 :: x2 :: x3 :: x4 :: x5 :: x6 :: x7 :: x8 :: x9 :: x10 :: x11 :: x12 :: x13 :: x14 :: x15 :: x16 :: x17 :: some z :: δ) M2 := ⟨fun ⟨_, e, h⟩ => by cases e; exact h, fun h => ⟨a, rfl, h⟩⟩
theorem dSet18 {x0 x1 x2 x3 x4 x5 x6 x7 x8 x9 x10 x11 x12 x13 x14 x15 x16 x17 : Option D} {y : Option D} {δ : DS} {M : Hd} {de : DE} {En : DEnds} : dSet 18 de En (x0 :: x1 :: x2 :: x3 :: x4 :: x5 :: x6 :: x7 :: x8 :: x9 :: x10 :: x11 :: x12 :: x13 :: x14 :: x15 :: x16 :: x17 :: y :: δ) M ↔ de (x0 :: x1 :: x2 :: x3 :: x4 :: x5 :: x6 :: x7 :: x8 :: x9 :: x10 :: x11 :: x12 :: x13 :: x14 :: x15 :: x16 :: x17 :: y :: δ) M fun z M1 => En.nx (x0 :: x1 :: x2 :: x3 :: x4 :: x5 :: x6 :: x7 :: x8 :: x9 :: x10 :: x11 :: x12 :: x13 :: x14 :: x15 :: x16 :: x17 :: some z :: δ) M1 := Iff.rfl
theorem dTgN18 {x0 x1 x2 x3 x4 x5 x6 x7 x8 x9 x10 x11 x12 x13 x14 x15 x16 x17 : Option D} {y : Option D} {z : D} {δ : DS} {Q : DS → Prop} : dTg (.nm 18) z (x0 :: x1 :: x2 :: x3 :: x4 :: x5 :: x6 :: x7 :: x8 :: x9 :: x10 :: x11 :: x12 :: x13 :: x14 :: x15 :: x16 :: x17 :: y :: δ) Q ↔ Q (x0 :: x1 :: x2 :: x3 :: x4 :: x5 :: x6 :: x7 :: x8 :: x9 :: x10 :: x11 :: x12 :: x13 :: x14 :: x15 :: x16 :: x17 :: some z :: δ) := Iff.rfl
theorem dTgW18 {x0 x1 x2 x3 x4 x5 x6 x7 x8 x9 x10 x11 x12 x13 x14 x15 x16 x17 : Option D} {y : Option D} {z : D} {δ : DS} {Q : DS → Prop} : dTg (.nm 18) z (wipeD (x0 :: x1 :: x2 :: x3 :: x4 :: x5 :: x6 :: x7 :: x8 :: x9 :: x10 :: x11 :: x12 :: x13 :: x14 :: x15 :: x16 :: x17 :: y :: δ) [18]) Q ↔ Q (x0 :: x1 :: x2 :: x3 :: x4 :: x5 :: x6 :: x7 :: x8 :: x9 :: x10 :: x11 :: x12 :: x13 :: x14 :: x15 :: x16 :: x17 :: some z :: δ) := Iff.rfl
theorem dVar19 {x0 x1 x2 x3 x4 x5 x6 x7 x8 x9 x10 x11 x12 x13 x14 x15 x16 x17 x18 : Option D} {a : D} {δ : DS} {M : Hd} {Q : DK} : dVar 19 (x0 :: x1 :: x2 :: x3 :: x4 :: x5 :: x6 :: x7 :: x8 :: x9 :: x10 :: x11 :: x12 :: x13 :: x14 :: x15 :: x16 :: x17 :: x18 :: some a :: δ) M Q ↔ Q a M := ⟨fun ⟨_, e, h⟩ => by cases e; exact h, fun h => ⟨a, rfl, h⟩⟩
theorem dAug19 {x0 x1 x2 x3 x4 x5 x6 x7 x8 x9 x10 x11 x12 x13 x14 x15 x16 x17 x18 : Option D} {a : D} {δ : DS} {M : Hd} {de : DE} {rd : DR2} {En : DEnds} : dAug 19 de rd En (x0 :: x1 :: x2 :: x3 :: x4 :: x5 :: x6 :: x7 :: x8 :: x9 :: x10 :: x11 :: x12 :: x13 :: x14 :: x15 :: x16 :: x17 :: x18 :: some a :: δ) M ↔ de (x0 :: x1 :: x2 :: x3 :: x4 :: x5 :: x6 :: x7 :: x8 :: x9 :: x10 :: x11 :: x12 :: x13 :: x14 :: x15 :: x16 :: x17 :: x18 :: some a :: δ) M fun y M1 => rd a y M1 fun z M2 => En.nx (x0 :: x1 :: x2 :: x3 :: x4 :: x5 :: x6 :: x7 :: x8 :: x9 :: x10 :: x11 :: x12 :: x13 :: x14 :: x15 :: x16 :: x17 :: x18 :: some z :: δ) M2 := ⟨fun ⟨_, e, h⟩ => by cases e; exact h, fun h => ⟨a, rfl, h⟩⟩
theorem dSet19 {x0 x1 x2 x3 x4 x5 x6 x7 x8 x9 x10 x11 x12 x13 x14 x15 x16 x17 x18 : Option D} {y : Option D} {δ : DS} {M : Hd} {de : DE} {En : DEnds} : dSet 19 de En (x0 :: x1 :: x2 :: x3 :: x4 :: x5 :: x6 :: x7 :: x8 :: x9 :: x10 :: x11 :: x12 :: x13 :: x14 :: x15 :: x16 :: x17 :: x18 :: y :: δ) M ↔ de (x0 :: x1 :: x2 :: x3 :: x4 :: x5 :: x6 :: x7 :: x8 :: x9 :: x10 :: x11 :: x12 :: x13 :: x14 :: x15 :: x16 :: x17 :: x18 :: y :: δ) M fun z M1 => En.nx (x0 :: x1 :: x2 :: x3 :: x4 :: x5 :: x6 :: x7 :: x8 :: x9 :: x10 :: x11 :: x12 :: x13 :: x14 :: x15 :: x16 :: x17 :: x18 :: some z :: δ) M1 := Iff.rfl
theorem dTgN19 {x0 x1 x2 x3 x4 x5 x6 x7 x8 x9 x10 x11 x12 x13 x14 x15 x16 x17 x18 : Option D} {y : Option D} {z : D} {δ : DS} {Q : DS → Prop} : dTg (.nm 19) z (x0 :: x1 :: x2 :: x3 :: x4 :: x5 :: x6 :: x7 :: x8 :: x9 :: x10 :: x11 :: x12 :: x13 :: x14 :: x15 :: x16 :: x17 :: x18 :: y :: δ) Q ↔ Q (x0 :: x1 :: x2 :: x3 :: x4 :: x5 :: x6 :: x7 :: x8 :: x9 :: x10 :: x11 :: x12 :: x13 :: x14 :: x15 :: x16 :: x17 :: x18 :: some z :: δ) := Iff.rfl
theorem dTgW19 {x0 x1 x2 x3 x4 x5 x6 x7 x8 x9 x10 x11 x12 x13 x14 x15 x16 x17 x18 : Option D} {y : Option D} {z : D} {δ : DS} {Q : DS → Prop} : dTg (.nm 19) z (wipeD (x0 :: x1 :: x2 :: x3 :: x4 :: x5 :: x6 :: x7 :: x8 :: x9 :: x10 :: x11 :: x12 :: x13 :: x14 :: x15 :: x16 :: x17 :: x18 :: y :: δ) [19]) Q ↔ Q (x0 :: x1 :: x2 :: x3 :: x4 :: x5 :: x6 :: x7 :: x8 :: x9 :: x10 :: x11 :: x12 :: x13 :: x14 :: x15 :: x16 :: x17 :: x18 :: some z :: δ) := Iff.rfl
theorem dTg_t2 {i j : Nat} {a b : D} {δ : DS} {Q : DS → Prop} : dTg (.t2 i j) (.tup [a, b]) δ Q ↔ dTg (.nm i) a δ fun δ => dTg (.nm j) b δ Q := Iff.rfl
theorem dTg_t3 {i j k : Nat} {a b c : D} {δ : DS} {Q : DS → Prop} : dTg (.t3 i j k) (.tup [a, b, c]) δ Q ↔ dTg (.nm i) a δ fun δ => dTg (.nm j) b δ fun δ => dTg (.nm k) c δ Q := Iff.rfl
theorem dFlag_bl {b : Bool} {M : Hd} {Q : Bool → Hd → Prop} : dFlag (.bl b) M Q ↔ Q b M := ⟨fun ⟨_, e, h⟩ => by cases e; exact h, fun h => ⟨b, rfl, h⟩⟩
theorem exBl {b : Bool} {R : Bool → Prop} : (∃ k, D.bl b = D.bl k ∧ R k) ↔ R b := ⟨fun ⟨_, e, h⟩ => by cases e; exact h, fun h => ⟨b, rfl, h⟩⟩
theorem exInt {b : Int} {R : Int → Prop} : (∃ k, D.int b = D.int k ∧ R k) ↔ R b := ⟨fun ⟨_, e, h⟩ => by cases e; exact h, fun h => ⟨b, rfl, h⟩⟩
theorem exRef {b : Addr} {R : Addr → Prop} : (∃ k, D.ref b = D.ref k ∧ R k) ↔ R b := ⟨fun ⟨_, e, h⟩ => by cases e; exact h, fun h => ⟨b, rfl, h⟩⟩
/-! ### the heap, looked up at once -/
section
variable {M : Hd} {p q : Addr} {l xs : List D} {o : O}
theorem exLSu {R : List D → Prop} : (∃ xs, LS (up M p (.lst l)) p xs ∧ R xs) ↔ R l := ⟨fun ⟨_, a, b⟩ => by rw [← LS_up.mp a]; exact b, fun h => ⟨l, LS_up.mpr rfl, h⟩⟩
theorem exLS (h : M p = some (.lst l)) {R : List D → Prop} : (∃ xs, LS M p xs ∧ R xs) ↔ R l := ⟨fun ⟨_, a, b⟩ => by rw [← (ls_lst h).mp a]; exact b, fun z => ⟨l, (ls_lst h).mpr rfl, z⟩⟩
theorem exLSz (h : M p = some (.fz l)) {R : List D → Prop} : (∃ xs, LS M p xs ∧ R xs) ↔ R l := ⟨fun ⟨_, a, b⟩ => by rw [← (ls_fz h).mp a]; exact b, fun z => ⟨l, (ls_fz h).mpr rfl, z⟩⟩
theorem LS_ne (h : q ≠ p) : LS (up M p o) q xs ↔ LS M q xs := by unfold LS; rw [up_ne h]
theorem DK_ne (h : q ≠ p) {kvs : List (Key × D)} : DK_ (up M p o) q kvs ↔ DK_ M q kvs := by unfold DK_; rw [up_ne h]
theorem exLSn (h : q ≠ p) {R : List D → Prop} : (∃ xs, LS (up M p o) q xs ∧ R xs) ↔ ∃ xs, LS M q xs ∧ R xs := by
  constructor <;> rintro ⟨xs, a, b⟩
  · exact ⟨xs, (LS_ne h).mp a, b⟩
  · exact ⟨xs, (LS_ne h).mpr a, b⟩
theorem exDKu {R : List (Key × D) → Prop} : (∃ kvs, DK_ (up M p (.lst l)) p kvs ∧ R kvs) ↔ False := by
  constructor
  · rintro ⟨kvs, a | ⟨_, _, a⟩, _⟩ <;> rw [up_same] at a <;> cases a
  · exact False.elim
theorem exDKh (h : M p = some (.lst l)) {R : List (Key × D) → Prop} : (∃ kvs, DK_ M p kvs ∧ R kvs) ↔ False := by
  constructor
  · rintro ⟨kvs, a | ⟨_, _, a⟩, _⟩ <;> rw [h] at a <;> cases a
  · exact False.elim
theorem exDKz (h : M p = some (.fz l)) {R : List (Key × D) → Prop} : (∃ kvs, DK_ M p kvs ∧ R kvs) ↔ False := by
  constructor
  · rintro ⟨kvs, a | ⟨_, _, a⟩, _⟩ <;> rw [h] at a <;> cases a
  · exact False.elim
theorem exDKn (h : q ≠ p) {R : List (Key × D) → Prop} : (∃ kvs, DK_ (up M p o) q kvs ∧ R kvs) ↔ ∃ kvs, DK_ M q kvs ∧ R kvs := by
  constructor <;> rintro ⟨xs, a, b⟩
  · exact ⟨xs, (DK_ne h).mp a, b⟩
  · exact ⟨xs, (DK_ne h).mpr a, b⟩
theorem exDKd {kvs : List (Key × D)} {R : List (Key × D) → Prop} : (∃ ks, DK_ (up M p (.dK kvs)) p ks ∧ R ks) ↔ R kvs := by
  constructor
  · rintro ⟨ks, a | ⟨_, _, a⟩, b⟩ <;> rw [up_same] at a <;> cases a
    exact b
  · exact fun h => ⟨kvs, .inl up_same, h⟩
theorem exLSd {kvs : List (Key × D)} {R : List D → Prop} : (∃ xs, LS (up M p (.dK kvs)) p xs ∧ R xs) ↔ False := by
  constructor
  · rintro ⟨ks, a | a, b⟩ <;> rw [up_same] at a <;> cases a
  · exact False.elim
theorem exLu {R : List D → Prop} : (∃ xs, up M p (.lst l) p = some (.lst xs) ∧ R xs) ↔ R l := by
  rw [up_same]
  exact ⟨fun ⟨_, a, b⟩ => by cases a; exact b, fun h => ⟨l, rfl, h⟩⟩
theorem exLh (h : M p = some (.lst l)) {R : List D → Prop} : (∃ xs, M p = some (.lst xs) ∧ R xs) ↔ R l := by
  rw [h]
  exact ⟨fun ⟨_, a, b⟩ => by cases a; exact b, fun h => ⟨l, rfl, h⟩⟩
theorem exLn (h : q ≠ p) {R : List D → Prop} : (∃ xs, up M p o q = some (.lst xs) ∧ R xs) ↔ ∃ xs, M q = some (.lst xs) ∧ R xs := by rw [up_ne h]
theorem dIxRh (h : M p = some (.lst l)) {i : Int} {Q : D → Prop} : dIxR p (.int i) M Q ↔ ∃ v, atI l i = some v ∧ Q v := by
  unfold dIxR
  constructor
  · rintro (⟨xs, j, v, e, a, b, c⟩ | ⟨kvs, k, v, _, a, _⟩ | ⟨kvs, k, v, e, _⟩)
    · cases e
      rw [(ls_lst h).mp a] at b
      exact ⟨v, b, c⟩
    · exact absurd (show ∃ kvs, DK_ M p kvs ∧ True from ⟨kvs, a, trivial⟩) (exDKh h).mp
    · cases e
  · rintro ⟨v, b, c⟩
    exact .inl ⟨l, i, v, rfl, .inl h, b, c⟩
theorem dIxRz (h : M p = some (.fz l)) {i : Int} {Q : D → Prop} : dIxR p (.int i) M Q ↔ ∃ v, atI l i = some v ∧ Q v := by
  unfold dIxR
  constructor
  · rintro (⟨xs, j, v, e, a, b, c⟩ | ⟨kvs, k, v, _, a, _⟩ | ⟨kvs, k, v, e, _⟩)
    · cases e
      rw [(ls_fz h).mp a] at b
      exact ⟨v, b, c⟩
    · exact absurd (show ∃ kvs, DK_ M p kvs ∧ True from ⟨kvs, a, trivial⟩) (exDKz h).mp
    · cases e
  · rintro ⟨v, b, c⟩
    exact .inl ⟨l, i, v, rfl, .inr h, b, c⟩
theorem dIxRu {i : Int} {Q : D → Prop} : dIxR p (.int i) (up M p (.lst l)) Q ↔ ∃ v, atI l i = some v ∧ Q v := dIxRh up_same
theorem dIxRn (h : q ≠ p) {y : D} {Q : D → Prop} : dIxR q y (up M p o) Q ↔ dIxR q y M Q := by
  unfold dIxR LS DK_
  rw [up_ne h]
theorem dPuth (h : M p = some (.lst l)) {i : Int} {v : D} {Q : Hd → Prop} : dPut (.ref p) (.int i) v M Q ↔ ∃ j, ixN l.length i = some j ∧ Q (up M p (.lst (l.set j v))) := by
  unfold dPut
  constructor
  · rintro ⟨p', e, h2⟩
    cases e
    rcases h2 with ⟨xs, k, j, e, a, b, c⟩ | ⟨kvs, k, _, a, _⟩ | ⟨kvs, k, e, _⟩
    · cases e
      rw [h] at a
      cases a
      exact ⟨j, b, c⟩
    · rw [h] at a; cases a
    · cases e
  · rintro ⟨j, b, c⟩
    exact ⟨p, rfl, .inl ⟨l, i, j, rfl, h, b, c⟩⟩
theorem dPutu {i : Int} {v : D} {Q : Hd → Prop} : dPut (.ref p) (.int i) v (up M p (.lst l)) Q ↔ ∃ j, ixN l.length i = some j ∧ Q (up M p (.lst (l.set j v))) := by
  rw [dPuth up_same]
  simp only [up_up]
theorem dGetAh (h : M p = some (.lst l)) {i : Int} {Q : DK} : dGetA (.ref p) (.int i) M Q ↔ 0 ≤ i ∧ ∃ v, l[i.toNat]? = some v ∧ Q v M := by
  unfold dGetA
  constructor
  · rintro ⟨p', e, ⟨xs, j, v, e2, a, b, c, d⟩ | ⟨kvs, k, v, _, a, _⟩⟩
    · cases e; cases e2
      rw [(ls_lst h).mp a] at c
      exact ⟨b, v, c, d⟩
    · cases e
      exact absurd (show ∃ kvs, DK_ M p kvs ∧ True from ⟨kvs, a, trivial⟩) (exDKh h).mp
  · rintro ⟨b, v, c, d⟩
    exact ⟨p, rfl, .inl ⟨l, i, v, rfl, .inl h, b, c, d⟩⟩
theorem dGetAu {i : Int} {Q : DK} : dGetA (.ref p) (.int i) (up M p (.lst l)) Q ↔ 0 ≤ i ∧ ∃ v, l[i.toNat]? = some v ∧ Q v (up M p (.lst l)) := dGetAh up_same
theorem exAtM {α : Type} {f : α → D} {ys : List α} {i : Int} {R : D → Prop} : (∃ v, atI (ys.map f) i = some v ∧ R v) ↔ ∃ a, atI ys i = some a ∧ R (f a) := by
  unfold atI
  rw [List.length_map]
  cases ixN ys.length i with
  | none => simp
  | some j =>
    simp only [List.getElem?_map]
    constructor
    · rintro ⟨v, e, h⟩
      obtain ⟨a, ha, rfl⟩ := Option.map_eq_some_iff.mp e
      exact ⟨a, ha, h⟩
    · rintro ⟨a, e, h⟩
      have e' : ys[j]? = some a := e
      exact ⟨f a, by show Option.map f ys[j]? = _; rw [e']; rfl, h⟩
theorem atI_lt {α : Type} {ys : List α} {i : Int} (h0 : 0 ≤ i) (h1 : i < ys.length) : ∃ a, atI ys i = some a ∧ ys[i.toNat]? = some a := by
  obtain ⟨j, rfl⟩ := Int.eq_ofNat_of_zero_le h0
  have hj : j < ys.length := by omega
  exact ⟨ys[j], atI_nat (List.getElem?_eq_getElem hj), by simp [hj]⟩
theorem ixN_lt {n : Nat} {i : Int} (h0 : 0 ≤ i) (h1 : i < n) : ixN n i = some i.toNat := by
  unfold ixN
  obtain ⟨j, rfl⟩ := Int.eq_ofNat_of_zero_le h0
  have hj : j < n := by omega
  simp [hj]
theorem dPutn (h : q ≠ p) {i : Int} {v : D} {Q : Hd → Prop} : dPut (.ref q) (.int i) v (up (up M q (.lst l)) p o) Q ↔ ∃ j, ixN l.length i = some j ∧ Q (up (up M q (.lst (l.set j v))) p o) := by
  rw [up_comm h, dPutu]
  simp only [up_comm h]
theorem dEq_int {i j : Int} {Q : DK} : dEq (.int i) (.int j) M Q ↔ Q (.bl (decide (i = j))) M := Iff.rfl
theorem dNe_int {i j : Int} {Q : DK} : dNe (.int i) (.int j) M Q ↔ Q (.bl (!decide (i = j))) M := Iff.rfl
theorem dEq_bl {i j : Bool} {Q : DK} : dEq (.bl i) (.bl j) M Q ↔ Q (.bl (decide (i = j))) M := Iff.rfl
theorem dNe_bl {i j : Bool} {Q : DK} : dNe (.bl i) (.bl j) M Q ↔ Q (.bl (!decide (i = j))) M := Iff.rfl
theorem dEq_str {i j : Str} {Q : DK} : dEq (.str i) (.str j) M Q ↔ Q (.bl (decide (i = j))) M := Iff.rfl
theorem dNe_str {i j : Str} {Q : DK} : dNe (.str i) (.str j) M Q ↔ Q (.bl (!decide (i = j))) M := Iff.rfl
theorem dAdd_tup {xs ys : List D} {Q : DK} : dAdd (.tup xs) (.tup ys) M Q ↔ xs.length + ys.length ≤ sizeLine ∧ Q (.tup (xs ++ ys)) M := Iff.rfl
theorem dAdd_ref {Q : DK} : dAdd (.ref p) (.ref q) M Q ↔ ∃ xs, M p = some (.lst xs) ∧ ∃ ys, M q = some (.lst ys) ∧ xs.length + ys.length ≤ sizeLine ∧ ∀ l, M l = none → Q (.ref l) (up M l (.lst (xs ++ ys))) :=
  ⟨fun ⟨xs, ys, a, b, c⟩ => ⟨xs, a, ys, b, c⟩, fun ⟨xs, a, ys, b, c⟩ => ⟨xs, ys, a, b, c⟩⟩
theorem dAdd_int {i j : Int} {Q : DK} : dAdd (.int i) (.int j) M Q ↔ Q (.int (i + j)) M := Iff.rfl
theorem exAt10 {a : D} {R : D → Prop} : (∃ v, atI [a] 0 = some v ∧ R v) ↔ R a := ⟨fun ⟨_, e, h⟩ => by cases e; exact h, fun h => ⟨_, rfl, h⟩⟩
theorem exIx10 {a : D} {R : Nat → Prop} : (∃ j, ixN [a].length 0 = some j ∧ R j) ↔ R 0 := ⟨fun ⟨_, e, h⟩ => by cases e; exact h, fun h => ⟨_, rfl, h⟩⟩
theorem exAt20 {a b : D} {R : D → Prop} : (∃ v, atI [a, b] 0 = some v ∧ R v) ↔ R a := ⟨fun ⟨_, e, h⟩ => by cases e; exact h, fun h => ⟨_, rfl, h⟩⟩
theorem exIx20 {a b : D} {R : Nat → Prop} : (∃ j, ixN [a, b].length 0 = some j ∧ R j) ↔ R 0 := ⟨fun ⟨_, e, h⟩ => by cases e; exact h, fun h => ⟨_, rfl, h⟩⟩
theorem exAt21 {a b : D} {R : D → Prop} : (∃ v, atI [a, b] 1 = some v ∧ R v) ↔ R b := ⟨fun ⟨_, e, h⟩ => by cases e; exact h, fun h => ⟨_, rfl, h⟩⟩
theorem exIx21 {a b : D} {R : Nat → Prop} : (∃ j, ixN [a, b].length 1 = some j ∧ R j) ↔ R 1 := ⟨fun ⟨_, e, h⟩ => by cases e; exact h, fun h => ⟨_, rfl, h⟩⟩
theorem exAt30 {a b c : D} {R : D → Prop} : (∃ v, atI [a, b, c] 0 = some v ∧ R v) ↔ R a := ⟨fun ⟨_, e, h⟩ => by cases e; exact h, fun h => ⟨_, rfl, h⟩⟩
theorem exIx30 {a b c : D} {R : Nat → Prop} : (∃ j, ixN [a, b, c].length 0 = some j ∧ R j) ↔ R 0 := ⟨fun ⟨_, e, h⟩ => by cases e; exact h, fun h => ⟨_, rfl, h⟩⟩
theorem exAt31 {a b c : D} {R : D → Prop} : (∃ v, atI [a, b, c] 1 = some v ∧ R v) ↔ R b := ⟨fun ⟨_, e, h⟩ => by cases e; exact h, fun h => ⟨_, rfl, h⟩⟩
theorem exIx31 {a b c : D} {R : Nat → Prop} : (∃ j, ixN [a, b, c].length 1 = some j ∧ R j) ↔ R 1 := ⟨fun ⟨_, e, h⟩ => by cases e; exact h, fun h => ⟨_, rfl, h⟩⟩
theorem exAt32 {a b c : D} {R : D → Prop} : (∃ v, atI [a, b, c] 2 = some v ∧ R v) ↔ R c := ⟨fun ⟨_, e, h⟩ => by cases e; exact h, fun h => ⟨_, rfl, h⟩⟩
theorem exIx32 {a b c : D} {R : Nat → Prop} : (∃ j, ixN [a, b, c].length 2 = some j ∧ R j) ↔ R 2 := ⟨fun ⟨_, e, h⟩ => by cases e; exact h, fun h => ⟨_, rfl, h⟩⟩
theorem exAt40 {a b c d : D} {R : D → Prop} : (∃ v, atI [a, b, c, d] 0 = some v ∧ R v) ↔ R a := ⟨fun ⟨_, e, h⟩ => by cases e; exact h, fun h => ⟨_, rfl, h⟩⟩
theorem exIx40 {a b c d : D} {R : Nat → Prop} : (∃ j, ixN [a, b, c, d].length 0 = some j ∧ R j) ↔ R 0 := ⟨fun ⟨_, e, h⟩ => by cases e; exact h, fun h => ⟨_, rfl, h⟩⟩
theorem exAt41 {a b c d : D} {R : D → Prop} : (∃ v, atI [a, b, c, d] 1 = some v ∧ R v) ↔ R b := ⟨fun ⟨_, e, h⟩ => by cases e; exact h, fun h => ⟨_, rfl, h⟩⟩
theorem exIx41 {a b c d : D} {R : Nat → Prop} : (∃ j, ixN [a, b, c, d].length 1 = some j ∧ R j) ↔ R 1 := ⟨fun ⟨_, e, h⟩ => by cases e; exact h, fun h => ⟨_, rfl, h⟩⟩
theorem exAt42 {a b c d : D} {R : D → Prop} : (∃ v, atI [a, b, c, d] 2 = some v ∧ R v) ↔ R c := ⟨fun ⟨_, e, h⟩ => by cases e; exact h, fun h => ⟨_, rfl, h⟩⟩
theorem exIx42 {a b c d : D} {R : Nat → Prop} : (∃ j, ixN [a, b, c, d].length 2 = some j ∧ R j) ↔ R 2 := ⟨fun ⟨_, e, h⟩ => by cases e; exact h, fun h => ⟨_, rfl, h⟩⟩
theorem exAt43 {a b c d : D} {R : D → Prop} : (∃ v, atI [a, b, c, d] 3 = some v ∧ R v) ↔ R d := ⟨fun ⟨_, e, h⟩ => by cases e; exact h, fun h => ⟨_, rfl, h⟩⟩
theorem exIx43 {a b c d : D} {R : Nat → Prop} : (∃ j, ixN [a, b, c, d].length 3 = some j ∧ R j) ↔ R 3 := ⟨fun ⟨_, e, h⟩ => by cases e; exact h, fun h => ⟨_, rfl, h⟩⟩
theorem exAt50 {a b c d e : D} {R : D → Prop} : (∃ v, atI [a, b, c, d, e] 0 = some v ∧ R v) ↔ R a := ⟨fun ⟨_, e, h⟩ => by cases e; exact h, fun h => ⟨_, rfl, h⟩⟩
theorem exIx50 {a b c d e : D} {R : Nat → Prop} : (∃ j, ixN [a, b, c, d, e].length 0 = some j ∧ R j) ↔ R 0 := ⟨fun ⟨_, e, h⟩ => by cases e; exact h, fun h => ⟨_, rfl, h⟩⟩
theorem exAt51 {a b c d e : D} {R : D → Prop} : (∃ v, atI [a, b, c, d, e] 1 = some v ∧ R v) ↔ R b := ⟨fun ⟨_, e, h⟩ => by cases e; exact h, fun h => ⟨_, rfl, h⟩⟩
theorem exIx51 {a b c d e : D} {R : Nat → Prop} : (∃ j, ixN [a, b, c, d, e].length 1 = some j ∧ R j) ↔ R 1 := ⟨fun ⟨_, e, h⟩ => by cases e; exact h, fun h => ⟨_, rfl, h⟩⟩
theorem exAt52 {a b c d e : D} {R : D → Prop} : (∃ v, atI [a, b, c, d, e] 2 = some v ∧ R v) ↔ R c := ⟨fun ⟨_, e, h⟩ => by cases e; exact h, fun h => ⟨_, rfl, h⟩⟩
theorem exIx52 {a b c d e : D} {R : Nat → Prop} : (∃ j, ixN [a, b, c, d, e].length 2 = some j ∧ R j) ↔ R 2 := ⟨fun ⟨_, e, h⟩ => by cases e; exact h, fun h => ⟨_, rfl, h⟩⟩
theorem exAt53 {a b c d e : D} {R : D → Prop} : (∃ v, atI [a, b, c, d, e] 3 = some v ∧ R v) ↔ R d := ⟨fun ⟨_, e, h⟩ => by cases e; exact h, fun h => ⟨_, rfl, h⟩⟩
theorem exIx53 {a b c d e : D} {R : Nat → Prop} : (∃ j, ixN [a, b, c, d, e].length 3 = some j ∧ R j) ↔ R 3 := ⟨fun ⟨_, e, h⟩ => by cases e; exact h, fun h => ⟨_, rfl, h⟩⟩
theorem exAt54 {a b c d e : D} {R : D → Prop} : (∃ v, atI [a, b, c, d, e] 4 = some v ∧ R v) ↔ R e := ⟨fun ⟨_, e, h⟩ => by cases e; exact h, fun h => ⟨_, rfl, h⟩⟩
theorem exIx54 {a b c d e : D} {R : Nat → Prop} : (∃ j, ixN [a, b, c, d, e].length 4 = some j ∧ R j) ↔ R 4 := ⟨fun ⟨_, e, h⟩ => by cases e; exact h, fun h => ⟨_, rfl, h⟩⟩
theorem exAt60 {a b c d e f : D} {R : D → Prop} : (∃ v, atI [a, b, c, d, e, f] 0 = some v ∧ R v) ↔ R a := ⟨fun ⟨_, e, h⟩ => by cases e; exact h, fun h => ⟨_, rfl, h⟩⟩
theorem exIx60 {a b c d e f : D} {R : Nat → Prop} : (∃ j, ixN [a, b, c, d, e, f].length 0 = some j ∧ R j) ↔ R 0 := ⟨fun ⟨_, e, h⟩ => by cases e; exact h, fun h => ⟨_, rfl, h⟩⟩
theorem exAt61 {a b c d e f : D} {R : D → Prop} : (∃ v, atI [a, b, c, d, e, f] 1 = some v ∧ R v) ↔ R b := ⟨fun ⟨_, e, h⟩ => by cases e; exact h, fun h => ⟨_, rfl, h⟩⟩
theorem exIx61 {a b c d e f : D} {R : Nat → Prop} : (∃ j, ixN [a, b, c, d, e, f].length 1 = some j ∧ R j) ↔ R 1 := ⟨fun ⟨_, e, h⟩ => by cases e; exact h, fun h => ⟨_, rfl, h⟩⟩
theorem exAt62 {a b c d e f : D} {R : D → Prop} : (∃ v, atI [a, b, c, d, e, f] 2 = some v ∧ R v) ↔ R c := ⟨fun ⟨_, e, h⟩ => by cases e; exact h, fun h => ⟨_, rfl, h⟩⟩
theorem exIx62 {a b c d e f : D} {R : Nat → Prop} : (∃ j, ixN [a, b, c, d, e, f].length 2 = some j ∧ R j) ↔ R 2 := ⟨fun ⟨_, e, h⟩ => by cases e; exact h, fun h => ⟨_, rfl, h⟩⟩
theorem exAt63 {a b c d e f : D} {R : D → Prop} : (∃ v, atI [a, b, c, d, e, f] 3 = some v ∧ R v) ↔ R d := ⟨fun ⟨_, e, h⟩ => by cases e; exact h, fun h => ⟨_, rfl, h⟩⟩
theorem exIx63 {a b c d e f : D} {R : Nat → Prop} : (∃ j, ixN [a, b, c, d, e, f].length 3 = some j ∧ R j) ↔ R 3 := ⟨fun ⟨_, e, h⟩ => by cases e; exact h, fun h => ⟨_, rfl, h⟩⟩
theorem exAt64 {a b c d e f : D} {R : D → Prop} : (∃ v, atI [a, b, c, d, e, f] 4 = some v ∧ R v) ↔ R e := ⟨fun ⟨_, e, h⟩ => by cases e; exact h, fun h => ⟨_, rfl, h⟩⟩
theorem exIx64 {a b c d e f : D} {R : Nat → Prop} : (∃ j, ixN [a, b, c, d, e, f].length 4 = some j ∧ R j) ↔ R 4 := ⟨fun ⟨_, e, h⟩ => by cases e; exact h, fun h => ⟨_, rfl, h⟩⟩
theorem exAt65 {a b c d e f : D} {R : D → Prop} : (∃ v, atI [a, b, c, d, e, f] 5 = some v ∧ R v) ↔ R f := ⟨fun ⟨_, e, h⟩ => by cases e; exact h, fun h => ⟨_, rfl, h⟩⟩
theorem exIx65 {a b c d e f : D} {R : Nat → Prop} : (∃ j, ixN [a, b, c, d, e, f].length 5 = some j ∧ R j) ↔ R 5 := ⟨fun ⟨_, e, h⟩ => by cases e; exact h, fun h => ⟨_, rfl, h⟩⟩
end
/-! ### dicts, reckoned -/
theorem valD_nil {κ : Type} [DecidableEq κ] (k : κ) : valD ([] : List (κ × D)) k = none := rfl
theorem valD_cons {κ : Type} [DecidableEq κ] (a : κ × D) (l : List (κ × D)) (k : κ) : valD (a :: l) k = if a.1 = k then some a.2 else valD l k := by
  unfold valD
  rw [List.find?_cons]
  by_cases h : a.1 = k
  · simp [h]
  · simp [h]
theorem valD_none {κ : Type} [DecidableEq κ] : ∀ (l : List (κ × D)) (k : κ), (l.any fun kv => decide (kv.1 = k)) = false → valD l k = none
  | [], _, _ => rfl
  | a :: l, k, h => by
    rw [List.any_cons, Bool.or_eq_false_iff] at h
    rw [valD_cons, if_neg (of_decide_eq_false h.1)]
    exact valD_none l k h.2
theorem valD_app {κ : Type} [DecidableEq κ] : ∀ (l m : List (κ × D)) (k : κ), valD (l ++ m) k = (valD l k).or (valD m k)
  | [], m, k => by simp [valD_nil]
  | a :: l, m, k => by
    rw [List.cons_append, valD_cons, valD_cons, valD_app l m k]
    split <;> simp
theorem valD_map_ne {κ : Type} [DecidableEq κ] (k j : κ) (v : D) (h : ¬ j = k) : ∀ l : List (κ × D), valD (l.map fun kv => if kv.1 = k then (kv.1, v) else kv) j = valD l j
  | [] => rfl
  | b :: l => by
    rw [List.map_cons, valD_cons, valD_cons, valD_map_ne k j v h l]
    by_cases hb : b.1 = k
    · have : ¬ b.1 = j := fun z => h (z.symm.trans hb)
      rw [if_pos hb, if_neg this, if_neg this]
    · rw [if_neg hb]
theorem valD_map_eq {κ : Type} [DecidableEq κ] (k : κ) (v : D) : ∀ l : List (κ × D), (l.any fun kv => decide (kv.1 = k)) = true → valD (l.map fun kv => if kv.1 = k then (kv.1, v) else kv) k = some v
  | [], h => by simp at h
  | b :: l, h => by
    rw [List.map_cons, valD_cons]
    by_cases hb : b.1 = k
    · rw [if_pos hb, if_pos hb]
    · rw [if_neg hb, if_neg hb]
      exact valD_map_eq k v l (by simpa [hb] using h)
theorem valD_put {κ : Type} [DecidableEq κ] (l : List (κ × D)) (k j : κ) (v : D) : valD (putKD l k v) j = if j = k then some v else valD l j := by
  unfold putKD
  by_cases h : (l.any fun kv => decide (kv.1 = k)) = true
  · rw [if_pos h]
    by_cases hj : j = k
    · subst hj
      rw [if_pos rfl, valD_map_eq j v l h]
    · rw [if_neg hj, valD_map_ne k j v hj]
  · rw [if_neg h, valD_app, valD_cons, valD_nil]
    by_cases hj : j = k
    · subst hj
      rw [valD_none l j (Bool.eq_false_iff.mpr h)]
      simp
    · have : ¬ k = j := fun z => hj z.symm
      simp [hj, this]
theorem valD_fold {α κ : Type} [DecidableEq κ] (kf : α → κ) (g : α → D) : ∀ (xs : List α) (acc : List (κ × D)) (k : κ), (valD (xs.foldl (fun acc a => putKD acc (kf a) (g a)) acc) k).isSome = true ↔ (∃ x ∈ xs, kf x = k) ∨ (valD acc k).isSome = true
  | [], acc, k => by simp
  | a :: xs, acc, k => by
    rw [List.foldl_cons, valD_fold kf g xs, valD_put]
    by_cases h : k = kf a
    · subst h; simp
    · have h' : ¬ kf a = k := fun z => h z.symm
      simp [h, h']
/-! ### plans as data -/
def nD (n : Nat) : D := .int n
def rwD (r : List Nat) : D := .tup (r.map nD)
def plD (p : List (List Nat)) : D := .tup (p.map rwD)
theorem exGetM {α : Type} {f : α → D} {ys : List α} {i : Nat} {R : D → Prop} : (∃ v, (ys.map f)[i]? = some v ∧ R v) ↔ ∃ a, ys[i]? = some a ∧ R (f a) := by
  rw [List.getElem?_map]
  constructor
  · rintro ⟨v, e, h⟩
    obtain ⟨a, ha, rfl⟩ := Option.map_eq_some_iff.mp e
    exact ⟨a, ha, h⟩
  · rintro ⟨a, e, h⟩
    exact ⟨f a, by rw [e]; rfl, h⟩
theorem sumN (xs : List Nat) : (xs.map fun n : Nat => (n : Int)).sum = ((xs.sum : Nat) : Int) := by
  induction xs with
  | nil => rfl
  | cons x xs ih => simp [ih]
theorem nD_ints (xs : List Nat) : (xs.map fun n : Nat => (n : Int)).map D.int = xs.map nD := by
  rw [List.map_map]
  rfl
theorem nD_inv : ∀ {ns : List Int} {xs : List Nat}, ns.map D.int = xs.map nD → ns = xs.map fun n : Nat => (n : Int)
  | [], [], _ => rfl
  | [], _ :: _, h => by simp at h
  | _ :: _, [], h => by simp at h
  | n :: ns, x :: xs, h => by
    rw [List.map_cons, List.map_cons, List.cons.injEq] at h
    have h1 : n = (x : Int) := D.int.inj h.1
    rw [List.map_cons, nD_inv h.2, h1]
theorem exSumU {M : Hd} {p : Addr} {xs : List Nat} {R : List Int → Prop} : (∃ ns : List Int, LS (up M p (.lst (xs.map nD))) p (ns.map D.int) ∧ R ns) ↔ R (xs.map fun n : Nat => (n : Int)) := by
  constructor
  · rintro ⟨ns, a, b⟩
    rw [← nD_inv (LS_up.mp a)]
    exact b
  · exact fun h => ⟨_, by rw [nD_ints]; exact LS_up.mpr rfl, h⟩
theorem exSumH {M : Hd} {p : Addr} {xs : List Nat} (h : M p = some (.lst (xs.map nD))) {R : List Int → Prop} : (∃ ns : List Int, LS M p (ns.map D.int) ∧ R ns) ↔ R (xs.map fun n : Nat => (n : Int)) := by
  constructor
  · rintro ⟨ns, a, b⟩
    rw [← nD_inv ((ls_lst h).mp a)]
    exact b
  · exact fun z => ⟨_, by rw [nD_ints]; exact (ls_lst h).mpr rfl, z⟩
theorem down0 (n : Nat) : downD ((n : Int) - 1) (-1) = ((List.range n).reverse).map nD := by
  unfold downD
  have : ((n : Int) - 1 - -1).toNat = n := by omega
  rw [this]
  refine List.ext_getElem (by simp) fun i h1 h2 => ?_
  have hi : i < n := by simpa using h1
  simp only [List.getElem_map, List.getElem_range, List.getElem_reverse, List.length_range]
  show D.int _ = D.int _
  congr 1
  omega
theorem rng0 (n : Nat) : rngD 0 n = (List.range n).map nD := by
  unfold rngD
  have : ((n : Int) - 0).toNat = n := by omega
  rw [this]
  refine List.map_congr_left fun i _ => ?_
  show D.int (0 + (i : Int)) = D.int i
  rw [Int.zero_add]
theorem enum_map {α : Type} (f : α → D) (xs : List α) : enumD (xs.map f) = xs.zipIdx.map fun p => .tup [nD p.2, f p.1] := by
  unfold enumD
  rw [List.zipIdx_map, List.map_map]
  rfl
theorem snb {M : Hd} {p : Addr} {o : O} {Q : Hd → Prop} (h : M p = none) (b : Q M) (ho : ∀ c, o ≠ .own c := by intro _ z; cases z) : ∃ M2, Sub (up M p o) M2 ∧ Q M2 := ⟨M, Sub.new h ho, b⟩
theorem snb2 {M : Hd} {p q : Addr} {o u : O} {Q : Hd → Prop} (h : M p = none) (h2 : up M p o q = none) (b : Q M) (ho : ∀ c, o ≠ .own c := by intro _ z; cases z) (hu : ∀ c, u ≠ .own c := by intro _ z; cases z) : ∃ M2, Sub (up (up M p o) q u) M2 ∧ Q M2 := ⟨M, (Sub.new h2 hu).trans (Sub.new h ho), b⟩
theorem Sub.dn {K : PySem.W.Frag} {M M' : Hd} (a : Sub M M') {Q : Hd → Prop} (b : Q M') : ∃ M2, Fgt K M M2 ∧ Q M2 := ⟨M', a.fgt, b⟩
theorem dn0 {K : PySem.W.Frag} {M : Hd} {Q : Hd → Prop} (b : Q M) : ∃ M2, Fgt K M M2 ∧ Q M2 := ⟨M, Fgt.refl, b⟩
theorem sb0 {M : Hd} {Q : Hd → Prop} (b : Q M) : ∃ M2, Sub M M2 ∧ Q M2 := ⟨M, Sub.refl, b⟩
end T3
namespace T3
open PySem PySem.Spec PyProof.Rows L2
theorem drawn {k : Nat} {x : Int} (hk : 0 < k) : ∃ v, v < k ∧ D.int (x % (k : Int)) = nD v := by
  have h0 : 0 ≤ x % (k : Int) := Int.emod_nonneg _ (by omega)
  have h1 : x % (k : Int) < k := Int.emod_lt_of_pos _ (by omega)
  refine ⟨(x % (k : Int)).toNat, by omega, ?_⟩
  show D.int _ = D.int _
  rw [Int.toNat_of_nonneg h0]
theorem cm_l {i j : Int} (h0 : -(18446744073709551616) < i) (h1 : i < 18446744073709551616) : CMul i j := .inl ⟨h0, h1⟩
theorem cm_r {i j : Int} (h0 : -(18446744073709551616) < j) (h1 : j < 18446744073709551616) : CMul i j := .inr ⟨h0, h1⟩
theorem cd_k {i : Int} {k : Nat} (h : 0 < k) (h2 : k < 1073741824) : CDiv i k := ⟨by omega, by omega⟩
/-! ### what is drawn from: a list of numbers, or a list that holds one and numbers, hidden -/
def FlatI (p : Addr) (G : List Int → Prop) : Hp → Prop := fun H => ∃ ns, G ns ∧ H p = some (.lst (ns.map V.int))
def PairI (p r : Addr) (G : List Int → List Int → Prop) : Hp → Prop := fun H => ∃ ns ms, G ns ms ∧ H r = some (.lst (ns.map V.int)) ∧ H p = some (.lst (.ref r :: ms.map V.int))
def Flat (G : List Int → Prop) (M : Hd) (p : Addr) : Prop := M p = some (.ext (FlatI p G) [])
def Duo (G : List Int → List Int → Prop) (M : Hd) (p : Addr) : Prop := ∃ r, M p = some (.ext (PairI p r G) [r]) ∧ M r = some (.own p)
theorem Rs.ints' {K : PySem.W.Frag} {H : Hp} {ns : List Int} : Rs K H (ns.map D.int) (ns.map V.int) := Rs.of_ints ns
section
variable {K : PySem.W.Frag} {H : Hp} {M : Hd} {p r : Addr}
theorem flat_open {G : List Int → Prop} (rep : Rep K H M) (h : Flat G M p) : ∃ ns, G ns ∧ Rep K H (up M p (.lst (ns.map D.int))) := by
  obtain ⟨⟨ns, g, e⟩, _⟩ := rep p _ h
  refine ⟨ns, g, fun a o q => ?_⟩
  by_cases ha : a = p
  · subst ha
    rw [up_same] at q; cases q
    exact ⟨_, e, Rs.of_ints ns⟩
  · rw [up_ne ha] at q
    refine (rep a o q).stay Tx.refl (fun _ _ _ z => z) fun b c hb => ?_
    have : b ≠ p := by rintro rfl; rw [h] at hb; cases hb
    rw [up_ne this]; exact hb
theorem flat_close {G : List Int → Prop} {ns : List Int} (h : Flat G M p) (g : G ns) : Fgt K (up M p (.lst (ns.map D.int))) M := by
  refine ⟨fun H rep a o q => ?_, fun a e => ?_⟩
  · by_cases ha : a = p
    · subst ha
      have h' : M a = _ := h
      rw [h'] at q; cases q
      obtain ⟨vs, e, rs⟩ := rep a _ up_same
      have := rs.ints
      subst this
      exact ⟨⟨ns, g, e⟩, ⟨_, e, trivial⟩, fun b hb => by simp at hb, fun H2 _ hk => ⟨ns, g, hk a _ (.inl rfl) e⟩⟩
    · have q' : up M p (.lst (ns.map D.int)) a = some o := by rw [up_ne ha]; exact q
      refine (rep a o q').stay Tx.refl (fun _ _ _ z => z) fun b c hb => ?_
      by_cases hb' : b = p
      · subst hb'; rw [up_same] at hb; cases hb
      · rw [up_ne hb'] at hb; exact hb
  · by_cases ha : a = p
    · subst ha; rw [up_same] at e; cases e
    · rw [up_ne ha] at e; exact e
/-- a new one, hidden at once -/
theorem flat_new {G : List Int → Prop} {ns : List Int} (g : G ns) : Fgt K (up M p (.lst (ns.map D.int))) (up M p (.ext (FlatI p G) [])) := by
  have := flat_close (K := K) (M := up M p (.ext (FlatI p G) [])) (p := p) (G := G) (ns := ns) up_same g
  rwa [up_up] at this
theorem duo_open {G : List Int → List Int → Prop} (rep : Rep K H M) (h : Duo G M p) : ∃ r ns ms, r ≠ p ∧ M r = some (.own p) ∧ M p = some (.ext (PairI p r G) [r]) ∧ G ns ms ∧ Rep K H (up (up M r (.lst (ns.map D.int))) p (.lst (.ref r :: ms.map D.int))) := by
  obtain ⟨r, h1, h2⟩ := h
  obtain ⟨⟨ns, ms, g, e1, e2⟩, _⟩ := rep p _ h1
  have ne : r ≠ p := by rintro rfl; rw [h1] at h2; cases h2
  refine ⟨r, ns, ms, ne, h2, h1, g, fun a o q => ?_⟩
  by_cases ha : a = p
  · subst ha
    rw [up_same] at q; cases q
    exact ⟨_, e2, .cons R.ref' (Rs.of_ints ms)⟩
  · rw [up_ne ha] at q
    by_cases hr : a = r
    · subst hr
      rw [up_same] at q; cases q
      exact ⟨_, e1, Rs.of_ints ns⟩
    · rw [up_ne hr] at q
      cases o with
      | ext I own =>
        obtain ⟨i1, i2, i3, i4⟩ := rep a _ q
        refine ⟨i1, i2, fun b hb => ?_, i4⟩
        have mb := i3 b hb
        have n1 : b ≠ p := by rintro rfl; rw [h1] at mb; cases mb
        have n2 : b ≠ r := by
          rintro rfl
          rw [h2] at mb
          cases mb
          exact ha rfl
        rw [up_ne n1, up_ne n2]
        exact mb
      | lst xs => exact rep a _ q
      | fz xs => exact rep a _ q
      | dK xs => exact rep a _ q
      | dKz xs od ws => exact rep a _ q
      | dT xs => exact rep a _ q
      | own c => exact rep a _ q
theorem duo_close {G : List Int → List Int → Prop} {ns ms : List Int} (h1 : M p = some (.ext (PairI p r G) [r])) (h2 : M r = some (.own p)) (g : G ns ms) : Fgt K (up (up M r (.lst (ns.map D.int))) p (.lst (.ref r :: ms.map D.int))) M := by
  have ne : r ≠ p := by rintro rfl; rw [h1] at h2; cases h2
  refine ⟨fun H rep a o q => ?_, fun a e => ?_⟩
  · obtain ⟨vs, e1, rs1⟩ := rep p _ up_same
    obtain ⟨us, e2, rs2⟩ := rep r (.lst (ns.map D.int)) (by rw [up_ne ne, up_same])
    have := rs2.ints
    subst this
    obtain ⟨v, ws, rfl, rv, rs⟩ := rs1.ucons
    have := rs.ints
    subst this
    rw [rv.ref_] at e1
    by_cases ha : a = p
    · subst ha
      rw [h1] at q; cases q
      refine ⟨⟨ns, ms, g, e2, e1⟩, ⟨_, e1, trivial⟩, fun b hb => ?_, fun H2 _ hk => ⟨ns, ms, g, hk r _ (.inr (by simp)) e2, hk a _ (.inl rfl) e1⟩⟩
      have : b = r := by simpa using hb
      rw [this]; exact h2
    · by_cases hr : a = r
      · subst hr
        rw [h2] at q; cases q
        exact ⟨_, e2, trivial⟩
      · have q' : up (up M r (.lst (ns.map D.int))) p (.lst (.ref r :: ms.map D.int)) a = some o := by rw [up_ne ha, up_ne hr]; exact q
        refine (rep a o q').stay Tx.refl (fun _ _ _ z => z) fun b c hb => ?_
        by_cases n1 : b = p
        · subst n1; rw [up_same] at hb; cases hb
        · rw [up_ne n1] at hb
          by_cases n2 : b = r
          · subst n2; rw [up_same] at hb; cases hb
          · rw [up_ne n2] at hb; exact hb
  · by_cases ha : a = p
    · subst ha; rw [up_same] at e; cases e
    · rw [up_ne ha] at e
      by_cases hr : a = r
      · subst hr; rw [up_same] at e; cases e
      · rw [up_ne hr] at e; exact e
/-- a new one, hidden at once -/
theorem duo_new {G : List Int → List Int → Prop} {ns ms : List Int} (ne : r ≠ p) (g : G ns ms) : Fgt K (up (up M r (.lst (ns.map D.int))) p (.lst (.ref r :: ms.map D.int))) (up (up M r (.own p)) p (.ext (PairI p r G) [r])) := by
  have := duo_close (K := K) (M := up (up M r (.own p)) p (.ext (PairI p r G) [r])) (p := p) (r := r) (G := G) (ns := ns) (ms := ms) up_same (by rw [up_ne ne, up_same]) g
  rw [up_comm (M := up M r (.own p)) (fun z => ne z.symm), up_up] at this
  rwa [up_up] at this
end
end T3
namespace T3
open PySem PySem.Spec PyProof.Rows L2
section
variable {X : Cx} {B : Am} {e : Expr} {de : DE} {k : Nat} {p1 p2 p3 pos : Pos}
def dRevs (de : DE) : DE := fun δ M Q => de δ M fun x M1 => ∃ p, x = .ref p ∧ ∃ xs, LS M1 p xs ∧ ∀ q, M1 q = none → Q (.ref q) (up M1 q (.lst xs.reverse))
theorem e_revs (he : PE3 X B e de) : PE3 X B (.Subscript e (.Slice none none (some (.UnaryOp .USub (.Constant (.int 1) k p1) p2)) p3) pos) (dRevs de) := by
  obtain ⟨t, h1, h2⟩ := he.ex
  refine ⟨_, pe_revL h1, fun σ H δ M Q Qd sl rep bb h q => h2 σ H δ M _ _ sl rep bb h fun v H1 x M1 g rep1 r ⟨p, ex, xs, l, h⟩ => ?_⟩
  subst ex
  obtain ⟨vs, s, rs⟩ := rep1.ls l
  refine ⟨p, vs, r.ref_, s, fun a hp => ?_⟩
  obtain ⟨g', rep'⟩ := rep1.newL hp rs.rev
  exact q _ _ _ _ (g.trans g') rep' R.ref' (h a (rep1.free hp))
end
/-! ### what stands, behind new things -/
def Is (M : Hd) (a : Addr) : Prop := M a ≠ none
theorem Is.of {M : Hd} {a : Addr} {o : O} (h : M a = some o) : Is M a := by unfold Is; rw [h]; simp
section
variable {M : Hd} {a q : Addr} {o : O}
theorem is_up (h : Is M a) : Is (up M q o) a := by
  unfold Is up
  split
  · simp
  · exact h
theorem is_ne (h : Is M a) (hq : M q = none) : a ≠ q := by rintro rfl; exact h hq
theorem get_c (h : Is M a) (hq : M q = none) : up M q o a = M a := up_ne (is_ne h hq)
theorem dIxRc (h : Is M a) (hq : M q = none) {y : D} {Q : D → Prop} : dIxR a y (up M q o) Q ↔ dIxR a y M Q := dIxRn (is_ne h hq)
theorem exLSc (h : Is M a) (hq : M q = none) {R : List D → Prop} : (∃ xs, LS (up M q o) a xs ∧ R xs) ↔ ∃ xs, LS M a xs ∧ R xs := exLSn (is_ne h hq)
theorem exDKc (h : Is M a) (hq : M q = none) {R : List (Key × D) → Prop} : (∃ xs, DK_ (up M q o) a xs ∧ R xs) ↔ ∃ xs, DK_ M a xs ∧ R xs := exDKn (is_ne h hq)
theorem exLc (h : Is M a) (hq : M q = none) {R : List D → Prop} : (∃ xs, up M q o a = some (.lst xs) ∧ R xs) ↔ ∃ xs, M a = some (.lst xs) ∧ R xs := exLn (is_ne h hq)
theorem exSumC (h : Is M a) (hq : M q = none) {R : List Int → Prop} : (∃ ns : List Int, LS (up M q o) a (ns.map D.int) ∧ R ns) ↔ ∃ ns : List Int, LS M a (ns.map D.int) ∧ R ns := by
  constructor <;> rintro ⟨xs, x, y⟩
  · exact ⟨xs, (LS_ne (is_ne h hq)).mp x, y⟩
  · exact ⟨xs, (LS_ne (is_ne h hq)).mpr x, y⟩
end
end T3
/-! t[::-1] of a tuple -/
namespace HT
open PySem PyProof.Rows
section
open PySem.SeqAt
open PySem.AutoSeq1 (wpAny_loadPart')
open PySem.MeetsSeq PySem.MeetsSeq2 PySem.MeetsSeq3
variable {prog : Program} {w : World} {A : Around} {E : Value → Shared → Prop} {s : Shared}
theorem sliceApplied_rev {sl : Addr} {vs : Value} {n : Nat} {Q : Int × Int × Nat → Shared → Prop} (hs : s.heap.IsSliceOf sl .none .none vs) (ps : IsPart vs (some (-1)))
    (h : Q ((n : Int) - 1, -1, n) s) : wpAny (model prog w) A (Builtin.Slice.sliceApplied (.ref sl) (pure (n : Int))) Q E s := by
  obtain ⟨os, hos, hcs, hds⟩ := id hs
  unfold Builtin.Slice.sliceApplied Builtin.Slice.sliceFields
  refine wpAny_bind (wpAny_bind (wpAny_field hos hds (x := .none) rfl (wpAny_bind (wpAny_field hos hds (x := .none) rfl (wpAny_bind (wpAny_field hos hds (x := vs) rfl (wpAny_pure ?_)))))))
  refine wpAny_bind (slicePart_ ps ?_)
  show wpAny _ _ (if ((-1 : Int) == 0) = true then _ else _) _ _ s
  rw [if_neg (by decide)]
  refine wpAny_bind (slicePart_none (wpAny_bind (slicePart_none (wpAny_bind (wpAny_pure ?_)))))
  have e : Builtin.Slice.slicePlaces ((n : Int) - 1) (-1) (-1) = n := by
    unfold Builtin.Slice.slicePlaces
    have h1 : ¬ ((-1 : Int) > 0) := by omega
    simp only [h1, if_false, Int.neg_neg, Int.ediv_one]
    split <;> omega
  show wpAny _ _ (pure ((n : Int) - 1, (-1 : Int), Builtin.Slice.slicePlaces ((n : Int) - 1) (-1) (-1))) _ _ s
  rw [e]
  exact wpAny_pure h
theorem pick_rev (xs : Array Value) : ((List.range xs.size).filterMap fun (m : Nat) => xs[((xs.size : Int) - 1 + (m : Int) * (-1)).toNat]?).toArray = xs.toList.reverse.toArray := by
  have e : (fun (m : Nat) => xs[((xs.size : Int) - 1 + (m : Int) * (-1)).toNat]?) = (xs[·]?) ∘ fun m => xs.size - 1 - m := by
    funext m
    show _ = xs[xs.size - 1 - m]?
    have : ((xs.size : Int) - 1 + (m : Int) * (-1)).toNat = xs.size - 1 - m := by omega
    rw [this]
  rw [e, ← List.filterMap_map, PySem.W.krv_range, List.filterMap_reverse, PySem.W.krv_all]
theorem getItem_tuple_rev {t sl : Addr} {items : Array Value} {vs : Value} {Q : Value → Shared → Prop} (ht : IsTup s.heap t items) (hs : s.heap.IsSliceOf sl .none .none vs) (ps : IsPart vs (some (-1)))
    (h : Q (.ref s.heap.objs.size) { s with heap := s.heap.push { cls := .type "tuple", data := .seq items.toList.reverse.toArray } })
    (hsz : items.size ≤ sizeLine) : wpAny (model prog w) A (getItem (.ref t) (.ref sl)) Q E s := by
  have htake : sizeOk (.seq items.toList.reverse.toArray) := by
    show items.toList.reverse.toArray.size ≤ sizeLine
    rw [List.size_toArray, List.length_reverse, Array.length_toList]
    exact hsz
  obtain ⟨os, hos, hcs, hds⟩ := id hs
  have hTs : s.TypeIs (.ref sl) "slice" := ⟨os, hos, hcs⟩
  unfold getItem
  try with_reducible refine wpAny_holding ?_
  first | refine wpAny_bind (wpAny_pure ?_) | skip
  refine wpAny_bind (wpAny_sequenceKey ht.typeIs (by decide) ?_)
  refine wpAny_bind (wpAny_callSpecial?_slot (name := Str.ofString "__getitem__") ht.typeIs PyProof.Rows.slot_tuple_getitem
    (wpAny_call_entry PyProof.Rows.slot_tuple_getitem ht.typeIs entry_tuple_getitem ?_ (args_tuple_getitem _ _)))
  show wpAny _ _ (Builtin.Tuple.tupleItemsOf (.ref t) >>= _) _ _ s
  refine wpAny_bind (tupleItemsOf_ ht ?_)
  refine wpAny_bind (wpAny_typeOf hTs ?_)
  rw [if_pos (by decide)]
  refine wpAny_bind (sliceApplied_rev hs ps ?_)
  have hno : ¬ ((((items.size : Int) - 1 == 0) && (-1 : Int) == 1 && items.size == items.size) = true) := by
    intro q
    rw [Bool.and_eq_true, Bool.and_eq_true] at q
    exact absurd q.1.2 (by decide)
  show wpAny _ _ (if (((items.size : Int) - 1 == 0) && (-1 : Int) == 1 && items.size == items.size) = true then _ else _) _ _ s
  rw [if_neg hno, pick_rev]
  first
    | exact wpAny_bind (m := Builtin.Tuple.tupleExact _) (wpAny_newObj_type (wpAny_pure ⟨_, rfl, wpAny_pure h⟩) htake)
    | exact wpAny_bind (m := Builtin.Tuple.tupleExact _) (wpAny_newObj_type (wpAny_bind (wpAny_pure (wpAny_pure ⟨_, rfl, wpAny_pure h⟩))) htake)
    | exact wpAny_bind (wpAny_bind (m := Builtin.Tuple.tupleExact _) (wpAny_newObj_type (wpAny_pure (wpAny_pure ⟨_, rfl, wpAny_pure h⟩)) htake))
    | exact wpAny_bind (wpAny_bind (m := Builtin.Tuple.tupleExact _) (wpAny_newObj_type (wpAny_pure ⟨_, rfl, wpAny_pure h⟩) htake))
end
end HT
namespace L2
open PySem PySem.Spec PyProof.Rows
section
variable {X : Cx}
def tRevA (K : PySem.W.Frag) (te : TE) : TE := fun σ H Q => te σ H fun x H1 =>
  (∃ a xs, x = .ref a ∧ SqL K H1 a xs ∧ ∀ p, H1 p = none → Q (.ref p) (upd H1 p (.lst xs.reverse))) ∨
  (∃ a xs, x = .ref a ∧ SqT K H1 a xs ∧ ∀ p, H1 p = none → Q (.ref p) (upd H1 p (.tup xs.reverse)))
theorem pe_revA {e : Expr} {te : TE} {k : Nat} {p1 p2 p3 pos : Pos} (he : PE X e te) : PE X (.Subscript e (.Slice none none (some (.UnaryOp .USub (.Constant (.int 1) k p1) p2)) p3) pos) (tRevA X.K te) := by
  refine ⟨fun pins s σ H Q I h => ?_⟩
  refine Subscript_ (thn (he.run pins s σ H _ I h) fun v s1 ⟨x, H1, I1, r1, q1⟩ => ?_)
  have hst : PO X (some (.UnaryOp .USub (.Constant (.int 1) k p1) p2)) (tPart (tUn (rU fun i => .int (-i)) (tC (.int 1)))) := po_some (pe_un un_neg pe_int)
  refine wpAny_Slice (thn (po_none.run pins s1 σ H1 (fun o H2 => o = none ∧ H2 = H1) I1 ⟨rfl, rfl⟩) fun vl s2 ⟨l, H2, I2, pl, el, e2⟩ => ?_)
  subst el e2
  refine thn (po_none.run pins s2 σ H2 (fun o H3 => o = none ∧ H3 = H2) I2 ⟨rfl, rfl⟩) fun vu s3 ⟨u, H3, I3, pu, eu, e3⟩ => ?_
  subst eu e3
  refine thn (hst.run pins s3 σ H3 (fun o H4 => o = some (-1) ∧ H4 = H3) I3 ⟨1, rfl, -1, rfl, rfl, rfl⟩) fun vs s4 ⟨o, H4, I4, ps, eo, e4⟩ => ?_
  subst eo e4
  have I5 : Inv X pins σ H4 { s4 with heap := s4.heap.push { cls := .type "slice", data := .fields #[vl, vu, vs] } } := I4.kept (t' := s4.toks) fun b ob q => Heap.get?_push_of_some _ q
  rcases q1 with ⟨a, xs, ex, hx, q⟩ | ⟨a, xs, ex, hx, q⟩
  · subst ex
    cases r1
    obtain ⟨its, r, ht, hz⟩ := I5.list hx
    have hlen := r.length
    show wpAny (model X.prog X.w) X.A (subscriptTail e (.Slice none none (some (.UnaryOp .USub (.Constant (.int 1) k p1) p2)) p3) (.ref a) (.ref s4.heap.objs.size)) (EP X pins σ Q) X.xe { s4 with heap := s4.heap.push { cls := .type "slice", data := .fields #[vl, vu, vs] } }
    refine tail_any (ops := [.ref a, .ref s4.heap.objs.size]) ht.isList.typeIs (PySem.slot_list_getitem.lookup) ?_ (by with_unfolding_all rfl)
    refine wpAny_getItem_list_slice ht.isList (Heap.IsSliceOf.new _ vl vu vs) pl pu ps (by decide) ?_ (by rw [List.size_toArray]; omega)
    rw [PySem.W.krv_pick]
    refine ⟨.ref _, _, I5.laid (t' := s4.toks) (o := .lst xs.reverse) (fun b ob q => Heap.get?_push_of_some _ q) (Nat.le_refl _) ?_, rfl, q _ (I5.hok.fresh (Nat.le_refl _))⟩
    exact ⟨by rw [List.length_reverse]; exact hz, _, 0, r.reverse, Heap.get?_push_size _ rfl⟩
  · subst ex
    cases r1
    cases pl
    cases pu
    obtain ⟨its, r, ht, hz⟩ := I5.tuple hx
    have hlen := r.length
    show wpAny (model X.prog X.w) X.A (subscriptTail e (.Slice none none (some (.UnaryOp .USub (.Constant (.int 1) k p1) p2)) p3) (.ref a) (.ref s4.heap.objs.size)) (EP X pins σ Q) X.xe { s4 with heap := s4.heap.push { cls := .type "slice", data := .fields #[.none, .none, vs] } }
    refine tail_any (ops := [.ref a, .ref s4.heap.objs.size]) ht.typeIs (PyProof.Rows.slot_tuple_getitem.lookup) ?_ (by with_unfolding_all rfl)
    refine HT.getItem_tuple_rev ht (Heap.IsSliceOf.new _ .none .none vs) ps ?_ (by rw [List.size_toArray]; omega)
    refine ⟨.ref _, _, I5.laid (t' := s4.toks) (o := .tup xs.reverse) (fun b ob q => Heap.get?_push_of_some _ q) (Nat.le_refl _) ?_, rfl, q _ (I5.hok.fresh (Nat.le_refl _))⟩
    exact ⟨by rw [List.length_reverse]; exact hz, _, r.reverse, IsTup.new _ _⟩
end
end L2
namespace T3
open PySem PySem.Spec PyProof.Rows L2
section
variable {X : Cx} {B : Am} {e : Expr} {de : DE} {k : Nat} {p1 p2 p3 pos : Pos}
def dRevD : D → Hd → DK → Prop := fun x M Q => match x with
  | .tup xs => Q (.tup xs.reverse) M
  | .ref p => ∃ xs, LS M p xs ∧ ∀ q, M q = none → Q (.ref q) (up M q (.lst xs.reverse))
  | _ => False
def dRevA (de : DE) : DE := fun δ M Q => de δ M fun x M1 => dRevD x M1 Q
theorem e_revA (he : PE3 X B e de) : PE3 X B (.Subscript e (.Slice none none (some (.UnaryOp .USub (.Constant (.int 1) k p1) p2)) p3) pos) (dRevA de) := by
  obtain ⟨t, h1, h2⟩ := he.ex
  refine ⟨_, pe_revA h1, fun σ H δ M Q Qd sl rep bb h q => h2 σ H δ M _ _ sl rep bb h fun v H1 x M1 g rep1 r h => ?_⟩
  cases x with
  | tup xs =>
    obtain ⟨a, vs, rfl, s, rs⟩ := r.untup
    refine .inr ⟨a, vs, rfl, SqT.of s, fun p hp => ?_⟩
    obtain ⟨g', rep', r'⟩ := rep1.newT hp rs.rev
    exact q _ _ _ _ (g.trans g') rep' r' h
  | ref p =>
    obtain ⟨xs, l, h⟩ := h
    obtain ⟨vs, s, rs⟩ := rep1.ls l
    refine .inl ⟨p, vs, r.ref_, s, fun a hp => ?_⟩
    obtain ⟨g', rep'⟩ := rep1.newL hp rs.rev
    exact q _ _ _ _ (g.trans g') rep' R.ref' (h a (rep1.free hp))
  | _ => exact h.elim
end
end T3
namespace T3
open PySem PySem.Spec PyProof.Rows L2
section
variable {X : Cx}
/-- less, of ints and of tuples of ints -/
def dLtA : DR2 := fun x y M Q => match x, y with
  | .int i, .int j => Q (.bl (decide (i < j))) M
  | .tup xs, .tup ys => ∃ ns ms : List Int, xs = ns.map D.int ∧ ys = ms.map D.int ∧ Q (.bl (HT.lexLt ns ms)) M
  | _, _ => False
theorem od_ltA (hu : X.A.units + 1 < cLine) : OpD X (compareOp .Lt) dLtA := by
  refine ⟨_, op_lt.or (op_ltT (Nat.lt_of_succ_lt hu)), fun H M x y v u Q Qd rep r1 r2 h q => ?_⟩
  cases x with
  | int i =>
    cases y with
    | int j => exact .inl ⟨i, j, r1.int_, r2.int_, q _ _ _ M Go.refl rep R.bl' h⟩
    | _ => exact h.elim
  | tup xs =>
    cases y with
    | tup ys =>
      obtain ⟨ns, ms, e1, e2, hq⟩ := h
      obtain ⟨a, vs, rfl, s, rs⟩ := r1.untup
      obtain ⟨b, us, rfl, s', rs'⟩ := r2.untup
      rw [e1] at rs
      rw [e2] at rs'
      have ev := rs.ints
      have ew := rs'.ints
      subst ev
      subst ew
      exact .inr ⟨a, b, ns, ms, rfl, rfl, SqT.of s, SqT.of s', q _ _ _ M Go.refl rep R.bl' hq⟩
    | _ => exact h.elim
  | _ => exact h.elim
end
end T3
namespace T3
open PySem PySem.Spec PyProof.Rows L2
section
variable {X : Cx}
/-- is True, is False, of flags -/
def dIsB : DR2 := fun x y M Q => match x, y with
  | .bl a, .bl b => Q (.bl (a == b)) M
  | _, _ => False
theorem op_isB : OpR X (compareOp .Is) (fun x y H Q => ∃ a b, x = .bl a ∧ y = .bl b ∧ Q (.bl (a == b)) H) := by
  intro pins s σ H x y v u Q I rx ry h
  obtain ⟨a, b, rfl, rfl, q⟩ := h
  cases rx
  cases ry
  exact is_bool (fin_bl I q rfl)
theorem od_isB : OpD X (compareOp .Is) dIsB := by
  refine ⟨_, op_isB, fun H M x y v u Q Qd rep r1 r2 h q => ?_⟩
  cases x with
  | bl a =>
    cases y with
    | bl b => exact ⟨a, b, r1.bl_, r2.bl_, q _ _ _ M Go.refl rep R.bl' h⟩
    | _ => exact h.elim
  | _ => exact h.elim
end
end T3
/-! dicts keyed by texts or ints, walked while they are locked -/
namespace T3
open PySem PySem.Spec PyProof.Rows L2
section
variable {X : Cx} {B : Am}
/-- a statement while the dict at p is locked -/
def dLockS (d : DSt) : DSt := fun En δ M => ∃ p kvs, M p = some (.dK kvs) ∧ ∀ od ws, d ⟨fun δ' M' => M' p = some (.dKz kvs od ws) ∧ En.nx δ' (up M' p (.dK kvs)), fun v M' => M' p = some (.dKz kvs od ws) ∧ En.rt v (up M' p (.dK kvs)),
  fun δ' M' => M' p = some (.dKz kvs od ws) ∧ En.bk δ' (up M' p (.dK kvs)), fun δ' M' => M' p = some (.dKz kvs od ws) ∧ En.ct δ' (up M' p (.dK kvs))⟩ δ (up M p (.dKz kvs od ws))
/-- an expression, likewise -/
def dLockE (d : DE) : DE := fun δ M Q => ∃ p kvs, M p = some (.dK kvs) ∧ ∀ od ws, d δ (up M p (.dKz kvs od ws)) fun x M' => M' p = some (.dKz kvs od ws) ∧ Q x (up M' p (.dK kvs))
theorem lock_in {K : PySem.W.Frag} {H : Hp} {M : Hd} {p : Addr} {kvs : List (Key × D)} {ws : List (Key × V)} (rep : Rep K H M) (hM : M p = some (.dK kvs)) (e : H p = some (.dK ws)) (r : RK K H kvs ws) (od : Obj) :
    Go H M (upd H p (.frz od (.dK ws))) (up M p (.dKz kvs od ws)) ∧ Rep K (upd H p (.frz od (.dK ws))) (up M p (.dKz kvs od ws)) := by
  have t : Tx K H (upd H p (.frz od (.dK ws))) := tx_put e trivial
  exact ⟨go_put (by rw [hM]; exact fun z => nomatch z), rep.put t (by rw [hM]; exact fun _ z => nomatch z) (.inr (by rw [hM]; exact fun z => nomatch z)) ⟨upd_same, r.mono t⟩⟩
theorem lock_out {K : PySem.W.Frag} {H : Hp} {M : Hd} {p : Addr} {kvs : List (Key × D)} {ws : List (Key × V)} {od : Obj} (rep : Rep K H M) (hM : M p = some (.dKz kvs od ws)) :
    H p = some (.frz od (.dK ws)) ∧ Go H M (upd H p (.dK ws)) (up M p (.dK kvs)) ∧ Rep K (upd H p (.dK ws)) (up M p (.dK kvs)) ∧ Tx K H (upd H p (.dK ws)) := by
  obtain ⟨e, r⟩ := rep p _ hM
  have t : Tx K H (upd H p (.dK ws)) := tx_put e trivial
  exact ⟨e, go_put (by rw [hM]; exact fun z => nomatch z), rep.put t (by rw [hM]; exact fun _ z => nomatch z) (.inr (by rw [hM]; exact fun z => nomatch z)) ⟨ws, upd_same, r.mono t⟩, t⟩
theorem s_lock {st : Stmt} {d : DSt} (h : PS3 X B st d) : PS3 X B st (dLockS d) := by
  obtain ⟨t, h1, h2⟩ := h.ex
  refine ⟨_, ps_lock h1, fun σ H δ M D Dd sl rep bb hd en => ?_⟩
  obtain ⟨p, kvs, hM, hd⟩ := hd
  obtain ⟨ws, e, r⟩ := rep p _ hM
  refine ⟨p, .dK ws, e, trivial, fun od => ?_⟩
  obtain ⟨g, rep1⟩ := lock_in rep hM e r od
  refine h2 σ _ δ _ _ _ (sl.mono (tx_put e trivial)) rep1 (B.pres _ _ _ _ g bb) (hd od ws) ⟨fun σ' H' δ' M' g2 sl2 rep2 hz => ?_, fun v H' x M' g2 rep2 rr hz => ?_, fun σ' H' δ' M' g2 sl2 rep2 hz => ?_, fun σ' H' δ' M' g2 sl2 rep2 hz => ?_⟩
  · obtain ⟨e2, g3, rep3, t3⟩ := lock_out rep2 hz.1
    exact ⟨e2, en.nx _ _ _ _ ((g.trans g2).trans g3) (sl2.mono t3) rep3 hz.2⟩
  · obtain ⟨e2, g3, rep3, t3⟩ := lock_out rep2 hz.1
    exact ⟨e2, en.rt _ _ _ _ ((g.trans g2).trans g3) rep3 (rr.mono t3) hz.2⟩
  · obtain ⟨e2, g3, rep3, t3⟩ := lock_out rep2 hz.1
    exact ⟨e2, en.bk _ _ _ _ ((g.trans g2).trans g3) (sl2.mono t3) rep3 hz.2⟩
  · obtain ⟨e2, g3, rep3, t3⟩ := lock_out rep2 hz.1
    exact ⟨e2, en.ct _ _ _ _ ((g.trans g2).trans g3) (sl2.mono t3) rep3 hz.2⟩
theorem e_lock {e : Expr} {d : DE} (h : PE3 X B e d) : PE3 X B e (dLockE d) := by
  obtain ⟨t, h1, h2⟩ := h.ex
  refine ⟨_, pe_lock h1, fun σ H δ M Q Qd sl rep bb hd q => ?_⟩
  obtain ⟨p, kvs, hM, hd⟩ := hd
  obtain ⟨ws, e, r⟩ := rep p _ hM
  refine ⟨p, .dK ws, e, trivial, fun od => ?_⟩
  obtain ⟨g, rep1⟩ := lock_in rep hM e r od
  refine h2 σ _ δ _ _ _ (sl.mono (tx_put e trivial)) rep1 (B.pres _ _ _ _ g bb) (hd od ws) fun v H' x M' g2 rep2 rr hz => ?_
  obtain ⟨e2, g3, rep3, t3⟩ := lock_out rep2 hz.1
  exact ⟨e2, q _ _ _ _ ((g.trans g2).trans g3) rep3 (rr.mono t3) hz.2⟩
/-! keys, values, pairs of a locked dict -/
theorem rk_get {K : PySem.W.Frag} {H : Hp} : ∀ {kvs : List (Key × D)} {ws : List (Key × V)}, RK K H kvs ws → ∀ {i : Nat} {k : Key} {v : V}, ws[i]? = some (k, v) → ∃ d, kvs[i]? = some (k, d) ∧ R K H d v
  | _, _, .cons (a := (k0, d0)) ⟨e, r⟩ t, 0, k, v, h => by
    cases h
    cases e
    exact ⟨d0, rfl, r⟩
  | _, _, .cons _ t, i + 1, k, v, h => rk_get t (i := i) h
theorem rk_getD {K : PySem.W.Frag} {H : Hp} : ∀ {kvs : List (Key × D)} {ws : List (Key × V)}, RK K H kvs ws → ∀ {i : Nat} {k : Key} {d : D}, kvs[i]? = some (k, d) → ∃ v, ws[i]? = some (k, v) ∧ R K H d v
  | _, _, .cons (b := (k0, v0)) ⟨e, r⟩ t, 0, k, d, h => by
    cases h
    cases e
    exact ⟨v0, rfl, r⟩
  | _, _, .cons _ t, i + 1, k, d, h => rk_getD t (i := i) h
theorem itok_keys {K : PySem.W.Frag} {H0 : Hp} {p : Addr} {kvs : List (Key × D)} {od : Obj} {ws : List (Key × V)} : ItOk K H0 (Itk p od ws) ⟨kvs.map fun kv => T3.kD kv.1, fun M => M p = some (.dKz kvs od ws)⟩ := by
  intro i H M t rep g
  obtain ⟨e, r⟩ := rep p _ g
  have hl : kvs.length = ws.length := Paired.length r
  refine ⟨fun x ex => ?_, fun ei => ⟨e, by have ei : i = (kvs.map fun kv => T3.kD kv.1).length := ei; rw [List.length_map] at ei; omega⟩⟩
  rw [List.getElem?_map] at ex
  obtain ⟨⟨k, d⟩, hk, rfl⟩ := Option.map_eq_some_iff.mp ex
  have hi := (List.getElem?_eq_some_iff.mp hk).1
  refine ⟨⟨e, by omega⟩, fun v' H' ⟨eH, k', v, hw, hx⟩ => ?_⟩
  subst eH hx
  obtain ⟨d', hk', _⟩ := rk_get r hw
  rw [hk] at hk'
  cases hk'
  exact ⟨Go.refl, rep, R.of_kD k⟩
theorem itok_vals {K : PySem.W.Frag} {H0 : Hp} {p : Addr} {kvs : List (Key × D)} {od : Obj} {ws : List (Key × V)} : ItOk K H0 (Itd p od ws) ⟨kvs.map fun kv => kv.2, fun M => M p = some (.dKz kvs od ws)⟩ := by
  intro i H M t rep g
  obtain ⟨e, r⟩ := rep p _ g
  have hl : kvs.length = ws.length := Paired.length r
  refine ⟨fun x ex => ?_, fun ei => ⟨e, by have ei : i = (kvs.map fun kv => kv.2).length := ei; rw [List.length_map] at ei; omega⟩⟩
  rw [List.getElem?_map] at ex
  obtain ⟨⟨k, d⟩, hk, rfl⟩ := Option.map_eq_some_iff.mp ex
  have hi := (List.getElem?_eq_some_iff.mp hk).1
  refine ⟨⟨e, by omega⟩, fun v' H' ⟨eH, k', hw⟩ => ?_⟩
  subst eH
  obtain ⟨d', hk', rr⟩ := rk_get r hw
  rw [hk] at hk'
  cases hk'
  exact ⟨Go.refl, rep, rr⟩
theorem itok_items {K : PySem.W.Frag} {H0 : Hp} {p : Addr} {kvs : List (Key × D)} {od : Obj} {ws : List (Key × V)} : ItOk K H0 (Iti p od ws) ⟨kvs.map fun kv => .tup [T3.kD kv.1, kv.2], fun M => M p = some (.dKz kvs od ws)⟩ := by
  intro i H M t rep g
  obtain ⟨e, r⟩ := rep p _ g
  have hl : kvs.length = ws.length := Paired.length r
  refine ⟨fun x ex => ?_, fun ei => ⟨e, by have ei : i = (kvs.map fun kv => D.tup [T3.kD kv.1, kv.2]).length := ei; rw [List.length_map] at ei; omega⟩⟩
  rw [List.getElem?_map] at ex
  obtain ⟨⟨k, d⟩, hk, rfl⟩ := Option.map_eq_some_iff.mp ex
  have hi := (List.getElem?_eq_some_iff.mp hk).1
  refine ⟨⟨e, by omega⟩, fun v' H' ⟨T, k', v, hw, hx, hT, eH⟩ => ?_⟩
  subst eH hx
  obtain ⟨d', hk', rr⟩ := rk_get r hw
  rw [hk] at hk'
  cases hk'
  have tn : Tx K H (upd H T (.tup [kV k, v])) := tx_new hT
  exact ⟨go_tup hT, rep.tup hT, R.tup upd_same (.cons (R.of_kD k) (.cons (rr.mono tn) .nil))⟩
def dKeysI (de : DE) : DI := fun δ M Q => de δ M fun x M1 => match x with
  | .ref p => ∃ kvs od ws, M1 p = some (.dKz kvs od ws) ∧ Q ⟨kvs.map fun kv => T3.kD kv.1, fun M => M p = some (.dKz kvs od ws)⟩ M1
  | _ => False
def dValsI (de : DE) : DI := fun δ M Q => de δ M fun x M1 => match x with
  | .ref p => ∃ kvs od ws, M1 p = some (.dKz kvs od ws) ∧ Q ⟨kvs.map fun kv => kv.2, fun M => M p = some (.dKz kvs od ws)⟩ M1
  | _ => False
def dItemsI (de : DE) : DI := fun δ M Q => de δ M fun x M1 => match x with
  | .ref p => ∃ kvs od ws, M1 p = some (.dKz kvs od ws) ∧ Q ⟨kvs.map fun kv => .tup [T3.kD kv.1, kv.2], fun M => M p = some (.dKz kvs od ws)⟩ M1
  | _ => False
variable {tg e : Expr} {de : DE} {apos cpos : Pos}
theorem i_keys (h : PE3 X B e de) : PI3 X B tg e (dKeysI de) := by
  obtain ⟨t, h1, h2⟩ := h.ex
  refine ⟨_, pi_keys h1, fun σ H δ M Q Qd sl rep bb h q => h2 σ H δ M _ _ sl rep bb h fun v H1 x M1 g rep1 r h1 => ?_⟩
  cases x with
  | ref p =>
    obtain ⟨kvs, od, ws, l, h1⟩ := h1
    obtain ⟨e1, rk⟩ := rep1 p _ l
    exact ⟨p, od, r.ref_, .inl ⟨ws, e1, q _ _ _ _ g rep1 itok_keys h1⟩⟩
  | _ => exact h1.elim
theorem i_vals (h : PE3 X B e de) (hbase : attributeBase e "values" X.env (eval e X.env) = eval e X.env := by rfl) (hline : (apos.endLine == cpos.line) = true := by rfl) : PI3 X B tg (.Call (.Attribute e "values" apos) [] [] cpos) (dValsI de) := by
  obtain ⟨t, h1, h2⟩ := h.ex
  refine ⟨_, pi_values h1 hbase hline, fun σ H δ M Q Qd sl rep bb h q => h2 σ H δ M _ _ sl rep bb h fun v H1 x M1 g rep1 r h1 => ?_⟩
  cases x with
  | ref p =>
    obtain ⟨kvs, od, ws, l, h1⟩ := h1
    obtain ⟨e1, rk⟩ := rep1 p _ l
    exact ⟨p, od, ws, r.ref_, e1, q _ _ _ _ g rep1 itok_vals h1⟩
  | _ => exact h1.elim
theorem i_items {elts : List Expr} {kk : Nat} {tpos : Pos} (h : PE3 X B e de) (hbase : attributeBase e "items" X.env (eval e X.env) = eval e X.env := by rfl) (hline : (apos.endLine == cpos.line) = true := by rfl) : PI3 X B (.Tuple elts kk tpos) (.Call (.Attribute e "items" apos) [] [] cpos) (dItemsI de) := by
  obtain ⟨t, h1, h2⟩ := h.ex
  refine ⟨_, pi_items h1 hbase hline, fun σ H δ M Q Qd sl rep bb h q => h2 σ H δ M _ _ sl rep bb h fun v H1 x M1 g rep1 r h1 => ?_⟩
  cases x with
  | ref p =>
    obtain ⟨kvs, od, ws, l, h1⟩ := h1
    obtain ⟨e1, rk⟩ := rep1 p _ l
    exact ⟨p, od, ws, r.ref_, e1, q _ _ _ _ g rep1 itok_items h1⟩
  | _ => exact h1.elim
end
/-! dict(pairs), dict(d) -/
def mergeD (acc kvs : List (Key × D)) : List (Key × D) := kvs.foldl (fun acc kv => putKD acc kv.1 kv.2) acc
theorem RK.merge {K : PySem.W.Frag} {H : Hp} {more : List (Key × D)} {mw : List (Key × V)} (r : RK K H more mw) : ∀ {acc : List (Key × D)} {aw : List (Key × V)}, RK K H acc aw → RK K H (mergeD acc more) (mergeK aw mw) := by
  induction r with
  | nil => exact fun q => q
  | @cons p q ps qs h t ih =>
    intro acc aw ra
    unfold mergeD mergeK
    rw [List.foldl_cons, List.foldl_cons]
    refine ih ?_
    rw [h.1]
    exact ra.put q.1 h.2
theorem rs_pairs {K : PySem.W.Frag} {H : Hp} : ∀ {kvs : List (Key × D)} {vs : List V}, Rs K H (kvs.map fun kv => D.tup [T3.kD kv.1, kv.2]) vs → ∃ (ps : List Addr) (ws : List (Key × V)), vs = ps.map V.ref ∧ Paired (fun p kv => SqT K H p [kV kv.1, kv.2]) ps ws ∧ RK K H kvs ws
  | [], vs, r => by
    obtain rfl := r.unil
    exact ⟨[], [], rfl, .nil, .nil⟩
  | (k, d) :: kvs, vs, r => by
    obtain ⟨v, us, rfl, r1, r2⟩ := r.ucons
    obtain ⟨ps, ws, rfl, h1, h2⟩ := rs_pairs r2
    obtain ⟨a, xs, rfl, e, rx⟩ := r1.untup
    obtain ⟨x, y, rfl, rx1, rx2⟩ := rx.two_
    rw [rx1.kD] at e
    exact ⟨a :: ps, (k, y) :: ws, rfl, .cons (SqT.of e) h1, .cons ⟨rfl, rx2⟩ h2⟩
def dDictOf : D → Hd → DK → Prop := fun x M Q => ∃ a, x = .ref a ∧ ((∃ kvs, LS M a (kvs.map fun kv => .tup [T3.kD kv.1, kv.2]) ∧ ∀ q, M q = none → Q (.ref q) (up M q (.dK (mergeD [] kvs)))) ∨ ∃ kvs, DK_ M a kvs ∧ ∀ q, M q = none → Q (.ref q) (up M q (.dK kvs)))
section
variable {X : Cx}
theorem cd_dict (hc : X.calm = true) : CallD X (.type "dict") (d1 dDictOf) := by
  refine ⟨_, (call_dictP hc).or call_dictD, fun H M xs vs Q Qd rep rs h q => ?_⟩
  obtain ⟨x, rfl, h0⟩ := d1_inv h
  obtain ⟨a, rfl, hz⟩ := h0
  obtain ⟨v, rfl, r⟩ := rs.one_
  rw [r.ref_]
  have fin : ∀ (l : Addr) (kvs : List (Key × D)) (ws : List (Key × V)), H l = none → RK X.K H kvs ws → Qd (.ref l) (up M l (.dK kvs)) → Q (.ref l) (upd H l (.dK ws)) := fun l kvs ws hl rk hq =>
    q _ _ _ _ (go_new hl) (rep.put (o := .dK kvs) (tx_new hl) (by rw [rep.free hl]; exact fun _ z => nomatch z) (.inl hl) ⟨ws, upd_same, rk.mono (tx_new hl)⟩) R.ref' hq
  rcases hz with hz | hz
  · obtain ⟨kvs, hl, hq⟩ := hz
    obtain ⟨vs, s, rs2⟩ := rep.ls hl
    obtain ⟨ps, ws, rfl, h1, h2⟩ := rs_pairs rs2
    exact .inl ⟨a, ps, ws, rfl, s, h1, fun p hp => fin p _ _ hp (h2.merge .nil) (hq p (rep.free hp))⟩
  · obtain ⟨kvs, hl, hq⟩ := hz
    obtain ⟨ws, rd, rk⟩ := rep.dk hl
    exact .inr ⟨a, ws, rfl, rd, fun p hp => fin p _ _ hp rk (hq p (rep.free hp))⟩
end
end T3
namespace T3
open PySem PySem.Spec PyProof.Rows L2
/-! ### isinstance(x, (A, B)) -/
section
variable {X : Cx}
def isT2 (n m : String) : D → Hd → DK → Prop := fun x M Q => match x with
  | .non => Q (.bl false) M
  | .bl _ => Q (.bl (subT "bool" n || subT "bool" m)) M
  | .int _ => Q (.bl (subT "int" n || subT "int" m)) M
  | .str _ => Q (.bl (subT "str" n || subT "str" m)) M
  | .tup _ => Q (.bl (subT "tuple" n || subT "tuple" m)) M
  | .ref p => (∃ xs, M p = some (.lst xs) ∧ Q (.bl (subT "list" n || subT "list" m)) M) ∨ (∃ kvs, M p = some (.dK kvs) ∧ Q (.bl (subT "dict" n || subT "dict" m)) M)
  | _ => False
def dIsi2 : DRL := fun xs M Q => match xs with
  | [x, .tup [.ty n, .ty m]] => n ∈ ["int", "bool", "str", "tuple", "list", "dict"] ∧ m ∈ ["int", "bool", "str", "tuple", "list", "dict"] ∧ isT2 n m x M Q
  | _ => False
theorem cd_isi2 : CallD X (.builtin "isinstance") dIsi2 := by
  refine ⟨_, call_isiT, fun H M xs vs Q Qd rep rs h q => ?_⟩
  unfold dIsi2 at h
  split at h
  · rename_i x n m
    obtain ⟨v, u, rfl, r1, r2⟩ := rs.two_
    obtain ⟨hn, hm, h⟩ := h
    obtain ⟨tp, cs, rfl, hT, r3⟩ := r2.untup
    obtain ⟨c1, c2, rfl, q1, q2⟩ := r3.two_
    have e1 := q1.ty_
    have e2 := q2.ty_
    subst e1 e2
    have fin : ∀ t b, t ∈ ["int", "bool", "str", "tuple", "list", "dict", "NoneType"] → b = (subT t n || subT t m) → TyX X.K H v (.type t) → Qd (.bl b) M → rIsiT X.K [v, .ref tp] H Q := fun t b ht hb ty hq =>
      ⟨v, tp, _, .type t, [.type n, .type m], b, rfl, hT, .cons (.ty n) (.cons (.ty m) .nil), ty, kitAny_cons (b := subT t n) (kit_ty (kit_sub t ht n hn)) (fun z => by
        refine kitAny_cons (b := subT t m) (kit_ty (kit_sub t ht m hm)) (fun z2 => by rw [hb, z, z2]; exact kitAny_nil) fun z2 => by rw [hb, z2, Bool.or_true]) fun z => by rw [hb, z, Bool.true_or], q _ _ _ M Go.refl rep R.bl' hq⟩
    cases x with
    | non =>
      have : ∀ n ∈ ["int", "bool", "str", "tuple", "list", "dict"], subT "NoneType" n = false := by decide
      exact fin "NoneType" false (by decide) (by rw [this n hn, this m hm]; rfl) (by rw [r1.non_]; exact .base .non) h
    | bl b => exact fin "bool" _ (by decide) rfl (by rw [r1.bl_]; exact .base (.bl b)) h
    | int b => exact fin "int" _ (by decide) rfl (by rw [r1.int_]; exact .base (.int b)) h
    | str b => exact fin "str" _ (by decide) rfl (by rw [r1.str_]; exact .base (.str b)) h
    | tup xs =>
      obtain ⟨a, us, e, s, rs'⟩ := r1.untup
      exact fin "tuple" _ (by decide) rfl (by rw [e]; exact .base (.tup s)) h
    | ref p =>
      have e := r1.ref_
      rcases h with ⟨xs, l, h⟩ | ⟨kvs, d, h⟩
      · obtain ⟨us, s, rs'⟩ := rep.lst l
        exact fin "list" _ (by decide) rfl (by rw [e]; exact .base (.lst s)) h
      · obtain ⟨ws, s, rk⟩ := rep p _ d
        exact fin "dict" _ (by decide) rfl (by rw [e]; exact .base (.dK s)) h
    | ty n => exact h.elim
    | kl _ _ => exact h.elim
    | bt _ => exact h.elim
  · exact h.elim
end
end T3
/-! texts: sep.join(xs), str(int) -/
namespace T3
open PySem PySem.Spec PyProof.Rows L2
section
variable {X : Cx} {B : Am} {o e : Expr} {do_ de : DE}
def dJoin (do_ de : DE) : DE := fun δ M Q => do_ δ M fun x M1 => de δ M1 fun y M2 => ∃ a, ∃ ys : List Str, x = .str a ∧ Sq M2 y (ys.map D.str) ∧ (ys.map (·.length)).sum + ys.length * a.length ≤ 16777216 ∧ Q (.str (Txt.join a ys)) M2
theorem e_join {apos pos : Pos} (ho : PE3 X B o do_) (he : PE3 X B e de) (hs : starEach [e] X.env = [(false, eval e X.env)] := by rfl) (hbase : attributeBase o "join" X.env (eval o X.env) = eval o X.env := by rfl) (hline : (apos.endLine == pos.line) = true := by rfl) :
    PE3 X B (.Call (.Attribute o "join" apos) [e] [] pos) (dJoin (fun δ M Q => do_ δ M fun x M1 => ∃ a, x = .str a ∧ Q x M1) de) := by
  obtain ⟨to, o1, o2⟩ := ho.ex
  obtain ⟨te, a1, a2⟩ := he.ex
  refine ⟨_, pe_join o1 a1 hs hbase hline, fun σ H δ M Q Qd sl rep bb q k => ?_⟩
  refine o2 σ H δ M _ _ sl rep bb q fun v H1 x M1 g1 rep1 r1 ⟨a, ex, q1⟩ => ?_
  subst ex
  refine ⟨⟨a, r1.str_⟩, ?_⟩
  refine a2 σ H1 δ M1 _ _ (sl.mono (rep.tx g1)) rep1 (B.pres _ _ _ _ g1 bb) q1 fun u H2 y M2 g2 rep2 r2 ⟨a', ys, e1, hsq, hz, q2⟩ => ?_
  cases e1
  obtain ⟨p, vs, rfl, h, rs⟩ := rep2.sq hsq r2
  rw [rs.strs] at h
  exact ⟨a, p, ys, r1.str_, rfl, h, hz, k _ _ _ _ (g1.trans g2) rep2 R.str' q2⟩
def dStrI : D → Hd → DK → Prop := fun x M Q => match x with
  | .int i => i.natAbs.log2 < 1920 ∧ Q (.str (toString i)) M
  | _ => False
theorem cd_strI : CallD X (.type "str") (d1 dStrI) := by
  refine ⟨_, call_str_int, fun H M xs vs Q Qd rep rs h q => ?_⟩
  obtain ⟨x, rfl, h⟩ := d1_inv h
  obtain ⟨v, rfl, r⟩ := rs.one_
  cases x with
  | int i => exact ⟨i, by rw [r.int_], h.1, q _ _ _ M Go.refl rep R.str' h.2⟩
  | _ => exact h.elim
/-- a module's text -/
abbrev GS (mg : Str → Option Value) (x z : Str) : Prop := ∃ u, mg x = some u ∧ RelV (.str z) u
theorem gs_mk {K : PySem.W.Frag} {h : Heap} {mg : Str → Option Value} {x z : Str} {u : Value} (X : K.In h) (G : h.Ns mainGlobals mg) (a : PySem.W.nsIn K mainGlobals x = some (some u)) (r : RelV (.str z) u) : GS mg x z := ⟨u, PySem.W.mg_of X G a, r⟩
theorem e_gstrP {x z : Str} {pos : Pos} (h : GS X.mg x z) (hg : Gl X x) (hd : (x == ("__debug__" : Str)) = false := by decide) : PE3 X B (.Name x pos) (dC (.str z)) := by
  obtain ⟨u, hm, r⟩ := h
  exact e_gstr hg hm r hd
/-- s.index(t) -/
def dSIndex (do_ de : DE) : DE := fun δ M Q => do_ δ M fun x M1 => de δ M1 fun y M2 => ∃ a b i rest, x = .str a ∧ y = .str b ∧ Builtin.Str.occurrences a b 0 a.length 1 = i :: rest ∧ Q (.int (i : Nat)) M2
theorem mt_sindex : MtR X "str.index" (fun x xs H Q => ∃ (a b : Str) (i : Nat) (rest : List Nat), x = .str a ∧ xs = [.str b] ∧ Builtin.Str.occurrences a b 0 a.length 1 = i :: rest ∧ Q (.int (i : Nat)) H) := by
  intro pins s σ H x xs v us Q I rx rs h
  obtain ⟨a, b, i, rest, rfl, rfl, ho, h⟩ := h
  obtain ⟨t, rfl⟩ := rx
  cases rs with
  | cons r1 rs =>
    cases rs
    obtain ⟨u, rfl⟩ := r1
    exact PySem.SC.index ho ⟨.int (i : Nat), H, I.tok _, ⟨_, rfl⟩, h⟩
theorem e_sindex {apos pos : Pos} (ho : PE3 X B o do_) (he : PE3 X B e de) (hs : starEach [e] X.env = [(false, eval e X.env)] := by rfl) (hbase : attributeBase o "index" X.env (eval o X.env) = eval o X.env := by rfl) (hline : (apos.endLine == pos.line) = true := by rfl) :
    PE3 X B (.Call (.Attribute o "index" apos) [e] [] pos) (dSIndex (fun δ M Q => do_ δ M fun x M1 => ∃ a, x = .str a ∧ Q x M1) de) := by
  obtain ⟨to, o1, o2⟩ := ho.ex
  obtain ⟨te, a1, a2⟩ := he.ex
  refine ⟨_, pe_m1 PySem.F.slot_str_index PySem.F.type_str_index mt_sindex o1 a1 hs hbase hline, fun σ H δ M Q Qd sl rep bb q k => ?_⟩
  refine o2 σ H δ M _ _ sl rep bb q fun v H1 x M1 g1 rep1 r1 ⟨a, ex, q1⟩ => ?_
  subst ex
  refine ⟨⟨a, r1.str_⟩, ?_⟩
  refine a2 σ H1 δ M1 _ _ (sl.mono (rep.tx g1)) rep1 (B.pres _ _ _ _ g1 bb) q1 fun u H2 y M2 g2 rep2 r2 ⟨a', b, i, rest, e1, e2, ho, q2⟩ => ?_
  cases e1
  subst e2
  exact ⟨a, b, i, rest, r1.str_, by rw [r2.str_], ho, k _ _ _ _ (g1.trans g2) rep2 R.int' q2⟩
/-- order of texts, a sign in a text -/
def dLtS : DR2 := fun x y M Q => ∃ a b, x = .str a ∧ y = .str b ∧ Q (.bl (decide (a.cps.toList < b.cps.toList))) M
theorem od_ltS : OpD X (compareOp .Lt) dLtS := by
  refine ⟨_, op_lt_str, fun H M x y v u Q Qd rep r1 r2 h q => ?_⟩
  obtain ⟨a, b, rfl, rfl, h⟩ := h
  exact ⟨a, b, r1.str_, r2.str_, q _ _ _ _ Go.refl rep R.bl' h⟩
def dInS : DR2 := fun x y M Q => ∃ (c : Nat) (z : Str), x = .str ⟨#[c]⟩ ∧ y = .str z ∧ Q (.bl (decide (c ∈ z.cps.toList))) M
theorem od_inS : OpD X (compareOp .In) dInS := by
  refine ⟨_, op_in_sign, fun H M x y v u Q Qd rep r1 r2 h q => ?_⟩
  obtain ⟨c, z, rfl, rfl, h⟩ := h
  exact ⟨c, z, r1.str_, r2.str_, q _ _ _ _ Go.refl rep R.bl' h⟩
end
end T3
/-! list.index of ints; an expression that is not reached -/
namespace T3
open PySem PySem.Spec PyProof.Rows L2
section
variable {X : Cx} {B : Am} {e : Expr}
def dNoE : DE := fun _ _ _ => False
theorem e_never : PE3 X B e dNoE := ⟨fun _ _ _ => False, ⟨fun _ _ _ _ _ _ h => h.elim⟩, fun _ _ _ _ _ _ _ _ _ q => q.elim⟩
def dIndex : DM := fun x ys M Q => match x, ys with
  | .ref p, [.int k] => ∃ ns : List Int, LS M p (ns.map D.int) ∧ k ∈ ns ∧ Q (.int (ns.idxOf k)) M
  | _, _ => False
theorem idx_pre : ∀ (ns : List Int) (k : Int), k ∈ ns → (ns.map V.int)[ns.idxOf k]? = some (V.int k) ∧ ∀ (m : Nat) (z : V), m < ns.idxOf k → (ns.map V.int)[m]? = some z → ∃ i, z = V.int i ∧ i ≠ k
  | [], _, h => by cases h
  | a :: l, k, h => by
    rw [List.idxOf_cons]
    by_cases e : a = k
    · subst e
      rw [beq_self_eq_true]
      exact ⟨rfl, fun m z hm => absurd hm (Nat.not_lt_zero m)⟩
    · rw [beq_false_of_ne e]
      have hk : k ∈ l := by
        rcases List.mem_cons.mp h with z | z
        · exact absurd z.symm e
        · exact z
      obtain ⟨h1, h2⟩ := idx_pre l k hk
      refine ⟨h1, fun m z hm hz => ?_⟩
      cases m with
      | zero => cases hz; exact ⟨a, rfl, e⟩
      | succ m => exact h2 m z (Nat.lt_of_succ_lt_succ hm) hz
theorem m_index : MtD X "list.index" dIndex := by
  refine ⟨_, mt_index, fun H M x v xs vs Q Qd rep r rs h q => ?_⟩
  unfold dIndex at h
  split at h
  · rename_i p k
    obtain ⟨ns, l, hk, h⟩ := h
    obtain ⟨us, s, rs'⟩ := rep.ls l
    have e := rs'.ints
    subst e
    obtain ⟨h1, h2⟩ := idx_pre ns k hk
    obtain ⟨v2, rfl, r2⟩ := rs.one_
    cases r2.int_
    refine ⟨p, _, _, ns.idxOf k, _, r.ref_, rfl, s, rfl, ?_, h1, by simp [eqV], fun m z hm hz => ?_, q _ _ _ M Go.refl rep R.int' h⟩
    · rw [List.all_map]; exact List.all_eq_true.mpr fun _ _ => rfl
    · obtain ⟨i, rfl, ne⟩ := h2 m z hm hz
      simp [eqV, ne]
  · exact h.elim
end
end T3
namespace T3
open PySem PySem.Spec PyProof.Rows L2
/-! ### == of tuples of like things -/
structure Like {α : Type} [DecidableEq α] (f : α → D) (g : α → PyData) (k : Nat) : Prop where
  eqv : ∀ a b, PyData.eqv (g a) (g b) = decide (a = b)
  lay : ∀ a, (g a).canLay0 = true
  dep : ∀ a, (g a).depth ≤ k
  pd : ∀ M a, Pd M (f a) (g a)
theorem beq_dec (a b : Int) : (a == b) = decide (a = b) := by
  by_cases h : a = b
  · subst h; simp
  · simp [h]
theorem like_int : Like D.int PyData.int 0 := ⟨fun a b => by rw [PyData.eqv]; exact beq_dec a b, fun a => by simp [PyData.canLay0], fun a => by simp [PyData.depth], fun M a => .int a⟩
theorem like_n : Like nD (fun n : Nat => PyData.int n) 0 := ⟨fun a b => by rw [PyData.eqv]; exact (beq_dec a b).trans (decide_eq_decide.mpr Int.ofNat_inj), fun a => by simp [PyData.canLay0], fun a => by simp [PyData.depth], fun M a => .int a⟩
theorem Like.all {α : Type} [DecidableEq α] {f : α → D} {g : α → PyData} {k : Nat} (h : Like f g k) : ∀ l m : List α, PyData.eqvAll (l.map g) (m.map g) = decide (l = m)
  | [], [] => by simp [PyData.eqvAll]
  | [], _ :: _ => by simp [PyData.eqvAll]
  | _ :: _, [] => by simp [PyData.eqvAll]
  | a :: l, b :: m => by
    rw [List.map_cons, List.map_cons, PyData.eqvAll, h.eqv, h.all l m, ← Bool.decide_and]
    exact decide_eq_decide.mpr (by simp)
theorem Like.tup {α : Type} [DecidableEq α] {f : α → D} {g : α → PyData} {k : Nat} (h : Like f g k) : Like (fun l : List α => D.tup (l.map f)) (fun l => PyData.tuple (l.map g)) (k + 1) := by
  refine ⟨fun l m => ?_, fun l => ?_, fun l => ?_, fun M l => .tup ?_⟩
  · rw [PyData.eqv, h.all]
  · rw [PyData.canLay0]
    induction l with
    | nil => rfl
    | cons a l ih => rw [List.map_cons, PyData.canLayAll0, h.lay, ih]; rfl
  · rw [PyData.depth]
    have : PyData.depthAll (l.map g) ≤ k := by
      induction l with
      | nil => exact Nat.zero_le _
      | cons a l ih => rw [List.map_cons, PyData.depthAll]; have := h.dep a; omega
    omega
  · induction l with
    | nil => exact .nil
    | cons a l ih => exact .cons (h.pd M a) ih
theorem Like.dEq {α : Type} [DecidableEq α] {f : α → D} {g : α → PyData} {k : Nat} (h : Like f g k) (hk : k ≤ 64) {M : Hd} {a b : α} {Q : Bool → Prop} (q : Q (decide (a = b))) : dEqD (f a) (f b) M Q := by
  have sh : ∀ a, SeqAt.shaped (g a) = true := fun a => by
    unfold SeqAt.shaped
    rw [h.lay a, decide_eq_true (Nat.le_trans (h.dep a) hk)]; rfl
  exact ⟨g a, g b, h.pd M a, h.pd M b, sh a, sh b, by rw [h.eqv]; exact q⟩
theorem like_row : Like rwD (fun l : List Nat => PyData.tuple (l.map fun n : Nat => PyData.int n)) 1 := like_n.tup
theorem like_plan : Like plD (fun l : List (List Nat) => PyData.tuple (l.map fun r => PyData.tuple (r.map fun n : Nat => PyData.int n))) 2 := like_row.tup
theorem dEq_tup {xs ys : List D} {M : Hd} {Q : DK} : dEq (.tup xs) (.tup ys) M Q ↔ dEqD (.tup xs) (.tup ys) M fun b => Q (.bl b) M := Iff.rfl
theorem dNe_tup {xs ys : List D} {M : Hd} {Q : DK} : dNe (.tup xs) (.tup ys) M Q ↔ dEqD (.tup xs) (.tup ys) M fun b => Q (.bl (!b)) M := Iff.rfl
theorem dEq_ref {p q : Addr} {M : Hd} {Q : DK} : dEq (.ref p) (.ref q) M Q ↔ dEqD (.ref p) (.ref q) M fun b => Q (.bl b) M := Iff.rfl
theorem dNe_ref {p q : Addr} {M : Hd} {Q : DK} : dNe (.ref p) (.ref q) M Q ↔ dEqD (.ref p) (.ref q) M fun b => Q (.bl (!b)) M := Iff.rfl
/-- lists of like things -/
theorem Like.dEqL {α : Type} [DecidableEq α] {f : α → D} {g : α → PyData} {k : Nat} (h : Like f g k) (hk : k + 1 ≤ 64) {M : Hd} {p q : Addr} {l m : List α} {Q : Bool → Prop} (hp : LS M p (l.map f)) (hq : LS M q (m.map f)) (z : Q (decide (l = m))) : dEqD (.ref p) (.ref q) M Q := by
  have all : ∀ l : List α, PdAll M (l.map f) (l.map g) := fun l => by
    induction l with
    | nil => exact .nil
    | cons a l ih => exact .cons (h.pd M a) ih
  have lay : ∀ l : List α, PyData.canLayAll0 (l.map g) = true := fun l => by
    induction l with
    | nil => rfl
    | cons a l ih => rw [List.map_cons, PyData.canLayAll0, h.lay, ih]; rfl
  have dep : ∀ l : List α, PyData.depthAll (l.map g) ≤ k := fun l => by
    induction l with
    | nil => exact Nat.zero_le _
    | cons a l ih => rw [List.map_cons, PyData.depthAll]; have := h.dep a; omega
  have sh : ∀ l : List α, SeqAt.shaped (.list (l.map g)) = true := fun l => by
    unfold SeqAt.shaped
    rw [PyData.canLay0, lay, PyData.depth, decide_eq_true (by have := dep l; omega)]; rfl
  exact ⟨_, _, .lst hp (all l), .lst hq (all m), sh l, sh m, by rw [PyData.eqv, h.all]; exact z⟩
end T3
/-! a hidden list of two lists of ints and two ints -/
namespace T3
open PySem PySem.Spec PyProof.Rows L2
def DblI (p r1 r2 : Addr) (G : List Int → List Int → Int → Int → Prop) : Hp → Prop := fun H => ∃ ns ms s t, G ns ms s t ∧ H r1 = some (.lst (ns.map V.int)) ∧ H r2 = some (.lst (ms.map V.int)) ∧ H p = some (.lst [.ref r1, .ref r2, .int s, .int t])
structure DblAt (G : List Int → List Int → Int → Int → Prop) (M : Hd) (p r1 r2 : Addr) : Prop where
  at_ : M p = some (.ext (DblI p r1 r2 G) [r1, r2])
  o1 : M r1 = some (.own p)
  o2 : M r2 = some (.own p)
  ne : r1 ≠ r2
theorem DblAt.n1 {G : List Int → List Int → Int → Int → Prop} {M : Hd} {p r1 r2 : Addr} (h : DblAt G M p r1 r2) : r1 ≠ p := by
  rintro rfl
  have := h.at_
  rw [h.o1] at this; cases this
theorem DblAt.n2 {G : List Int → List Int → Int → Int → Prop} {M : Hd} {p r1 r2 : Addr} (h : DblAt G M p r1 r2) : r2 ≠ p := by
  rintro rfl
  have := h.at_
  rw [h.o2] at this; cases this
/-- what is seen inside -/
def dblM (M : Hd) (p r1 r2 : Addr) (ns ms : List Int) (s t : Int) : Hd := up (up (up M r1 (.lst (ns.map D.int))) r2 (.lst (ms.map D.int))) p (.lst [.ref r1, .ref r2, .int s, .int t])
section
variable {K : PySem.W.Frag} {H : Hp} {M : Hd} {p r1 r2 : Addr} {G : List Int → List Int → Int → Int → Prop}
theorem dbl_p {ns ms : List Int} {s t : Int} : dblM M p r1 r2 ns ms s t p = some (.lst [.ref r1, .ref r2, .int s, .int t]) := up_same
theorem dbl_2 {ns ms : List Int} {s t : Int} (n2 : r2 ≠ p) : dblM M p r1 r2 ns ms s t r2 = some (.lst (ms.map D.int)) := by
  unfold dblM; rw [up_ne n2, up_same]
theorem dbl_1 {ns ms : List Int} {s t : Int} (n1 : r1 ≠ p) (ne : r1 ≠ r2) : dblM M p r1 r2 ns ms s t r1 = some (.lst (ns.map D.int)) := by
  unfold dblM; rw [up_ne n1, up_ne ne, up_same]
theorem dbl_x {ns ms : List Int} {s t : Int} {a : Addr} (h0 : a ≠ p) (h1 : a ≠ r1) (h2 : a ≠ r2) : dblM M p r1 r2 ns ms s t a = M a := by
  unfold dblM; rw [up_ne h0, up_ne h2, up_ne h1]
theorem dbl_open (rep : Rep K H M) (h : DblAt G M p r1 r2) : ∃ ns ms s t, G ns ms s t ∧ Rep K H (dblM M p r1 r2 ns ms s t) := by
  obtain ⟨⟨ns, ms, s, t, g, e1, e2, e3⟩, _⟩ := rep p _ h.at_
  refine ⟨ns, ms, s, t, g, fun a o q => ?_⟩
  by_cases ha : a = p
  · subst ha
    rw [dbl_p] at q; cases q
    exact ⟨_, e3, .cons R.ref' (.cons R.ref' (.cons R.int' (.cons R.int' .nil)))⟩
  · by_cases hb : a = r1
    · subst hb
      rw [dbl_1 h.n1 h.ne] at q; cases q
      exact ⟨_, e1, Rs.of_ints ns⟩
    · by_cases hc : a = r2
      · subst hc
        rw [dbl_2 h.n2] at q; cases q
        exact ⟨_, e2, Rs.of_ints ms⟩
      · rw [dbl_x ha hb hc] at q
        cases o with
        | ext I own =>
          obtain ⟨i1, i2, i3, i4⟩ := rep a _ q
          refine ⟨i1, i2, fun b hb' => ?_, i4⟩
          have mb := i3 b hb'
          have m0 : b ≠ p := by rintro rfl; rw [h.at_] at mb; cases mb
          have m1 : b ≠ r1 := by rintro rfl; rw [h.o1] at mb; cases mb; exact ha rfl
          have m2 : b ≠ r2 := by rintro rfl; rw [h.o2] at mb; cases mb; exact ha rfl
          rw [dbl_x m0 m1 m2]
          exact mb
        | lst xs => exact rep a _ q
        | fz xs => exact rep a _ q
        | dK xs => exact rep a _ q
        | dKz xs od ws => exact rep a _ q
        | dT xs => exact rep a _ q
        | own c => exact rep a _ q
/-- hidden again; M0 may hold more own cells than M -/
theorem dbl_close {ns ms : List Int} {s t : Int} (h : DblAt G M p r1 r2) (g : G ns ms s t) : Fgt K (dblM M p r1 r2 ns ms s t) M := by
  refine ⟨fun H rep a o q => ?_, fun a e => ?_⟩
  · obtain ⟨vs, e1, rs1⟩ := rep p _ dbl_p
    obtain ⟨us, e2, rs2⟩ := rep r1 _ (dbl_1 h.n1 h.ne)
    obtain ⟨xs, e3, rs3⟩ := rep r2 _ (dbl_2 h.n2)
    have := rs2.ints
    subst this
    have := rs3.ints
    subst this
    obtain ⟨v, ws, rfl, rv, rs⟩ := rs1.ucons
    obtain ⟨v', ws', rfl, rv', rs'⟩ := rs.ucons
    obtain ⟨v2, ws2, rfl, rv2, rs4⟩ := rs'.ucons
    obtain ⟨v3, ws3, rfl, rv3, rs5⟩ := rs4.ucons
    have := rs5.unil
    subst this
    rw [rv.ref_, rv'.ref_, rv2.int_, rv3.int_] at e1
    by_cases ha : a = p
    · subst ha
      rw [h.at_] at q; cases q
      refine ⟨⟨ns, ms, s, t, g, e2, e3, e1⟩, ⟨_, e1, trivial⟩, fun b hb => ?_, fun H2 _ hk => ⟨ns, ms, s, t, g, hk r1 _ (.inr (by simp)) e2, hk r2 _ (.inr (by simp)) e3, hk a _ (.inl rfl) e1⟩⟩
      rcases List.mem_cons.mp hb with rfl | hb
      · exact h.o1
      · rw [List.mem_singleton] at hb; subst hb; exact h.o2
    · by_cases hb : a = r1
      · subst hb
        rw [h.o1] at q; cases q
        exact ⟨_, e2, trivial⟩
      · by_cases hc : a = r2
        · subst hc
          rw [h.o2] at q; cases q
          exact ⟨_, e3, trivial⟩
        · have q' : dblM M p r1 r2 ns ms s t a = some o := by rw [dbl_x ha hb hc]; exact q
          refine (rep a o q').stay Tx.refl (fun _ _ _ z => z) fun b c hb' => ?_
          by_cases m0 : b = p
          · subst m0; rw [dbl_p] at hb'; cases hb'
          · by_cases m1 : b = r1
            · subst m1; rw [dbl_1 h.n1 h.ne] at hb'; cases hb'
            · by_cases m2 : b = r2
              · subst m2; rw [dbl_2 h.n2] at hb'; cases hb'
              · rw [dbl_x m0 m1 m2] at hb'; exact hb'
  · by_cases ha : a = p
    · subst ha; rw [dbl_p] at e; cases e
    · by_cases hb : a = r1
      · subst hb; rw [dbl_1 h.n1 h.ne] at e; cases e
      · by_cases hc : a = r2
        · subst hc; rw [dbl_2 h.n2] at e; cases e
        · rw [dbl_x ha hb hc] at e; exact e
theorem own_fgt {X : Hd} {r c : Addr} {xs : List D} (h : X r = some (.lst xs)) : Fgt K X (up X r (.own c)) := by
  refine ⟨fun H rep a o q => ?_, fun a e => ?_⟩
  · by_cases ha : a = r
    · subst ha
      rw [up_same] at q; cases q
      obtain ⟨vs, e, _⟩ := rep a _ h
      exact ⟨_, e, trivial⟩
    · rw [up_ne ha] at q
      refine (rep a o q).stay Tx.refl (fun _ _ _ z => z) fun b d hb => ?_
      have nb : b ≠ r := by rintro rfl; rw [h] at hb; cases hb
      rw [up_ne nb]; exact hb
  · have nb : a ≠ r := by rintro rfl; rw [h] at e; cases e
    rw [up_ne nb]; exact e
/-- a new one, hidden at once -/
def dblN (M : Hd) (p r1 r2 : Addr) (G : List Int → List Int → Int → Int → Prop) : Hd := up (up (up M r1 (.own p)) r2 (.own p)) p (.ext (DblI p r1 r2 G) [r1, r2])
theorem dblN_at (n1 : r1 ≠ p) (n2 : r2 ≠ p) (ne : r1 ≠ r2) : DblAt G (dblN M p r1 r2 G) p r1 r2 := by
  unfold dblN
  exact ⟨up_same, by rw [up_ne n1, up_ne ne, up_same], by rw [up_ne n2, up_same], ne⟩
theorem dblN_x {a : Addr} (h0 : a ≠ p) (h1 : a ≠ r1) (h2 : a ≠ r2) : dblN M p r1 r2 G a = M a := by
  unfold dblN; rw [up_ne h0, up_ne h2, up_ne h1]
theorem dblM_N {ns ms : List Int} {s t : Int} : dblM (dblN M p r1 r2 G) p r1 r2 ns ms s t = dblM M p r1 r2 ns ms s t := by
  funext a
  by_cases h0 : a = p
  · subst h0; rw [dbl_p, dbl_p]
  · by_cases h2 : a = r2
    · subst h2; rw [dbl_2 h0, dbl_2 h0]
    · by_cases h1 : a = r1
      · subst h1; rw [dbl_1 h0 h2, dbl_1 h0 h2]
      · rw [dbl_x h0 h1 h2, dbl_x h0 h1 h2, dblN_x h0 h1 h2]
theorem dbl_new {ns ms : List Int} {s t : Int} (n1 : r1 ≠ p) (n2 : r2 ≠ p) (ne : r1 ≠ r2) (g : G ns ms s t) : Fgt K (dblM M p r1 r2 ns ms s t) (dblN M p r1 r2 G) := by
  have := dbl_close (K := K) (ns := ns) (ms := ms) (s := s) (t := t) (dblN_at (M := M) (G := G) n1 n2 ne) g
  rwa [dblM_N] at this
end
end T3
/-! text * int, of two or more -/
namespace T3
open PySem PySem.Spec PyProof.Rows L2
def repS (z : Str) (n : Nat) : Str := ⟨(List.replicate n z.cps).foldl (· ++ ·) #[]⟩
theorem fold_sz (a : Array Nat) : ∀ (n : Nat) (b : Array Nat), ((List.replicate n a).foldl (· ++ ·) b).toList = b.toList ++ (List.replicate n a.toList).flatten
  | 0, b => by simp
  | n + 1, b => by
    rw [List.replicate_succ, List.foldl_cons, fold_sz a n, List.replicate_succ, List.flatten_cons, Array.toList_append, List.append_assoc]
theorem repS_list (z : Str) (n : Nat) : (repS z n).cps.toList = (List.replicate n z.cps.toList).flatten := by
  unfold repS
  rw [fold_sz]; simp
theorem sum_rep (n a : Nat) : (List.replicate n a).sum = n * a := by
  induction n with
  | zero => simp
  | succ n ih => rw [List.replicate_succ, List.sum_cons, ih, Nat.succ_mul, Nat.add_comm]
def dMulS : DR2 := fun x y M Q => ∃ (z : Str) (n : Nat), x = .str z ∧ y = .int (n : Int) ∧ 1 ≤ z.length ∧ 2 ≤ n ∧ n ≤ 1000 ∧ z.length ≤ 1000 ∧ Q (.str (repS z n)) M
section
variable {X : Cx}
theorem op_mulS : OpR X (binaryOp .Mult) (fun x y H Q => ∃ (z : Str) (n : Nat), x = .str z ∧ y = .int (n : Int) ∧ 1 ≤ z.length ∧ 2 ≤ n ∧ n ≤ 1000 ∧ z.length ≤ 1000 ∧ Q (.str (repS z n)) H) := by
  intro pins s σ H x y v u Q I rx ry h
  obtain ⟨z, n, rfl, rfl, h0, h1, h2, h3, q⟩ := h
  obtain ⟨t, rfl⟩ := rx
  obtain ⟨t', rfl⟩ := ry
  have e1 : ¬ ((n : Int) < 1) := by omega
  have e2 : (((n : Int) == 1) || (z.length == 0)) = false := by
    rw [Bool.or_eq_false_iff]
    exact ⟨by rw [beq_eq_false_iff_ne]; omega, by rw [beq_eq_false_iff_ne]; omega⟩
  have hsz : z.length * n ≤ 1000 * 1000 := Nat.mul_le_mul h3 h2
  refine PySem.P.mul_str ?_ (fun _ _ => ?_) (fun _ _ => ?_) ?_
  · rw [decide_eq_false (by omega), decide_eq_false (by omega)]; rfl
  · have : (1000 : Int) ≤ (2 ^ 63 - 1) / (n : Int) := by
      rw [Int.le_ediv_iff_mul_le (by omega)]
      omega
    omega
  · rw [Int.toNat_natCast]
    exact decide_eq_false (show ¬ _ by have : (1000 * 1000 : Nat) ≤ sizeLine := by decide
                                       omega)
  · rw [if_neg e1, e2, if_neg (by decide), Int.toNat_natCast]
    have hl : (repS z n).length ≤ sizeLine := by
      have e3 : (repS z n).length = z.length * n := by
        show (repS z n).cps.size = z.cps.size * n
        rw [← Array.length_toList, repS_list, List.length_flatten, List.map_replicate, sum_rep, Array.length_toList, Nat.mul_comm]
      rw [e3]
      exact Nat.le_trans hsz (by decide)
    exact ⟨hl, ⟨.str (repS z n), H, I.tok _, ⟨_, rfl⟩, q⟩⟩
theorem od_mulS : OpD X (binaryOp .Mult) dMulS := by
  refine ⟨_, op_mulS, fun H M x y v u Q Qd rep r1 r2 h q => ?_⟩
  obtain ⟨z, n, rfl, rfl, h0, h1, h2, h3, h⟩ := h
  exact ⟨z, n, r1.str_, r2.int_, h0, h1, h2, h3, q _ _ _ M Go.refl rep R.str' h⟩
end
end T3
/-! dicts keyed by texts or ints: == of alike ones, clear(); list.count -/
namespace T3
open PySem PySem.Spec PyProof.Rows L2
def flatD : D → Prop
  | .int _ => True | .str _ => True | .bl _ => True | .non => True
  | _ => False
section
variable {K : PySem.W.Frag} {H : Hp}
theorem flat_uni {d : D} {v u : V} (h : flatD d) (r1 : R K H d v) (r2 : R K H d u) : v = u ∧ flatB u = true := by
  cases d with
  | int i => rw [r1.int_, r2.int_]; exact ⟨rfl, rfl⟩
  | str i => rw [r1.str_, r2.str_]; exact ⟨rfl, rfl⟩
  | bl i => rw [r1.bl_, r2.bl_]; exact ⟨rfl, rfl⟩
  | non => rw [r1.non_, r2.non_]; exact ⟨rfl, rfl⟩
  | _ => exact h.elim
theorem RK.of_mem {κ : Type} : ∀ {kvs : List (κ × D)} {ws : List (κ × V)}, RK K H kvs ws → ∀ {w : κ × V}, w ∈ ws → ∃ d, (w.1, d) ∈ kvs ∧ R K H d w.2
  | _, _, .cons (a := a) ⟨e, r⟩ t, w, hw => by
    rcases List.mem_cons.mp hw with rfl | hw
    · exact ⟨a.2, by rw [← e]; exact List.mem_cons_self .., r⟩
    · obtain ⟨d, hd, r⟩ := RK.of_mem t hw
      exact ⟨d, List.mem_cons_of_mem _ hd, r⟩
end
def SamK (M : Hd) (x y : D) : Prop := ∃ a b ks ls, x = .ref a ∧ y = .ref b ∧ M a = some (.dK ks) ∧ M b = some (.dK ls) ∧ ks.length = ls.length ∧ ∀ p ∈ ks, valD ls p.1 = some p.2 ∧ flatD p.2
def dEqK : DR2 := fun x y M Q => SamK M x y ∧ Q (.bl true) M
def dNeK : DR2 := fun x y M Q => SamK M x y ∧ Q (.bl false) M
section
variable {X : Cx}
theorem SamK.run {K : PySem.W.Frag} {H : Hp} {M : Hd} {x y : D} {v u : V} (rep : Rep K H M) (r1 : R K H x v) (r2 : R K H y u) (h : SamK M x y) : ∃ a b ks ls, v = .ref a ∧ u = .ref b ∧ H a = some (.dK ks) ∧ H b = some (.dK ls) ∧ ks.length = ls.length ∧ ∀ p ∈ ks, valV ls p.1 = some p.2 ∧ flatB p.2 = true := by
  obtain ⟨a, b, ks, ls, rfl, rfl, ha, hb, hl, hp⟩ := h
  obtain ⟨wa, ea, ra⟩ := rep a _ ha
  obtain ⟨wb, eb, rb⟩ := rep b _ hb
  refine ⟨a, b, wa, wb, r1.ref_, r2.ref_, ea, eb, by rw [ra.len, rb.len, hl], fun p hp' => ?_⟩
  obtain ⟨d, hd, rd⟩ := RK.of_mem ra hp'
  obtain ⟨e, f⟩ := hp _ hd
  obtain ⟨v', ev, rv⟩ := (RK.val p.1 rb).1 d e
  obtain ⟨e2, f2⟩ := flat_uni f rv rd
  exact ⟨by rw [ev, e2], f2⟩
theorem od_eqK (hu : X.A.units + 64 < cLine) : OpD X (compareOp .Eq) dEqK :=
  ⟨_, op_eq_dictA (by omega), fun H M x y v u Q Qd rep r1 r2 h q => by
    obtain ⟨a, b, ks, ls, h1, h2, h3, h4, h5, h6⟩ := h.1.run rep r1 r2
    exact ⟨a, b, ks, ls, h1, h2, h3, h4, h5, h6, q _ _ _ M Go.refl rep R.bl' h.2⟩⟩
theorem od_neK (hu : X.A.units + 64 < cLine) : OpD X (compareOp .NotEq) dNeK :=
  ⟨_, op_ne_dictA (by omega), fun H M x y v u Q Qd rep r1 r2 h q => by
    obtain ⟨a, b, ks, ls, h1, h2, h3, h4, h5, h6⟩ := h.1.run rep r1 r2
    exact ⟨a, b, ks, ls, h1, h2, h3, h4, h5, h6, q _ _ _ M Go.refl rep R.bl' h.2⟩⟩
end
/-! ### clear() -/
def rClearK : V → List V → Hp → VK → Prop := fun x vs H Q => ∃ (a : Addr) (kvs : List (Key × V)), x = .ref a ∧ vs = [] ∧ H a = some (.dK kvs) ∧ Q .non (upd H a (.dK []))
theorem mtd_clearK {X : Cx} : MtR X "dict.clear" rClearK := by
  intro pins s σ H x vs v us Q I rx rv h
  obtain ⟨a, kvs, ex, ev, e, q⟩ := h
  subst ex
  subst ev
  obtain rfl : v = Value.ref a := rx
  have hus := rv.zero
  subst hus
  obtain ⟨z, hd, xs, rel, o, es, ep, ho, hx, hdat, hes, hnd⟩ := I.hok a _ e
  have ty : s.TypeIs (.ref a) "dict" := ⟨o, ho, hx.1⟩
  have hl : es.size ≤ sizeLine := by
    have e1 := Paired.length rel
    have e2 := hnd.1.length
    have e3 : es.toList.length = es.size := by simp
    omega
  refine call_meetsIn PySem.F.slot_dict_clear ty PySem.F.entry_dict_clear (PySem.F.args_dict_clear_1 _) (PySem.meets_dict_clear_raw a) ⟨es, ep, ⟨o, ho, hx, hdat⟩, hl, fun h' raw hs => ?_⟩
  obtain ⟨o', ho', hx', hd'⟩ := raw
  refine ⟨.non, _, d_write (t' := s.toks) I (by rw [e]; exact True.intro) hs ⟨o', ho'⟩ ?_, rfl, q⟩
  refine ⟨Nat.zero_le _, hd, [], .nil, o', #[], ep + 1, ho', hx', hd', ?_⟩
  exact ⟨by intro e he; simp at he, .nil, List.nodup_nil⟩
section
variable {X : Cx} {B : Am} {o : Expr} {do_ : DE} {apos cpos : Pos}
def dClrK (do_ : DE) : DE := fun δ M Q => do_ δ M fun x M1 => ∃ p kvs, x = .ref p ∧ M1 p = some (.dK kvs) ∧ Q .non (up M1 p (.dK []))
theorem e_clearK (ho : PE3 X B o do_) (hbase : attributeBase o "clear" X.env (eval o X.env) = eval o X.env := by rfl) (hline : (apos.endLine == cpos.line) = true := by rfl) : PE3 X B (.Call (.Attribute o "clear" apos) [] [] cpos) (dClrK do_) := by
  obtain ⟨to, o1, o2⟩ := ho.ex
  refine ⟨_, pe_bm0 PySem.F.plainAttrs_dict PySem.F.slot_dict_clear PySem.F.type_dict_clear mtd_clearK o1 hbase hline, fun σ H δ M Q Qd sl rep bb h q => ?_⟩
  refine o2 σ H δ M _ _ sl rep bb h fun v H1 x M1 g1 rep1 r1 ⟨p, kvs, ex, e, q1⟩ => ?_
  subst ex
  rw [r1.ref_]
  obtain ⟨ws, e2, rk⟩ := rep1 _ _ e
  refine ⟨.inr (.inr (.inl ⟨rfl, .inl ⟨ws, e2⟩⟩)), p, ws, rfl, rfl, e2, ?_⟩
  have t : Tx X.K H1 (upd H1 p (.dK [])) := tx_put e2 trivial
  have rp : Rep X.K (upd H1 p (.dK [])) (up M1 p (.dK [])) := rep1.put t (by rw [e]; exact fun _ z => nomatch z) (.inr (by rw [e]; exact fun z => nomatch z)) ⟨[], upd_same, .nil⟩
  exact q _ _ _ _ (g1.trans (go_put (by rw [e]; exact fun z => nomatch z))) rp R.non' q1
end
/-! ### list.count of texts -/
def rCntS (K : PySem.W.Frag) : V → List V → Hp → VK → Prop := fun x xs H Q => ∃ (p : Addr) (ns : List Str) (k : Str), x = .ref p ∧ xs = [.str k] ∧ SqL K H p (ns.map V.str) ∧ Q (.int (ns.count k : Nat)) H
theorem reads_strs {h : Heap} : ∀ {ns : List Str} {us : List Value}, Vals (ns.map V.str) us → ReadsAll h us (ns.map PyData.str) []
  | [], us, r => by
    cases r
    exact .nil
  | n :: ns, us, r => by
    cases r with
    | cons r1 r2 =>
      obtain ⟨t, rfl⟩ := r1
      exact .cons (as := []) (bs := []) (.str n t) (reads_strs r2)
theorem plain_strs : ∀ ns : List Str, PyData.plainAll (ns.map PyData.str) = true
  | [] => rfl
  | n :: ns => by rw [List.map_cons, PyData.plainAll, plain_strs ns]; rfl
theorem depth_strs : ∀ ns : List Str, PyData.depthAll (ns.map PyData.str) = 0
  | [] => rfl
  | n :: ns => by rw [List.map_cons, PyData.depthAll, depth_strs ns]; rfl
theorem count_strs (k : Str) : ∀ ns : List Str, (ns.map PyData.str).countP (fun y => PyData.eqv y (.str k)) = ns.count k
  | [] => rfl
  | n :: ns => by
    rw [List.map_cons, List.countP_cons, count_strs k ns, List.count_cons]
    congr 1
section
variable {X : Cx}
theorem mt_lcountS (hu : X.A.units + 1 < cLine) : MtR X "list.count" (rCntS X.K) := by
  intro pins s σ H x xs v us Q I rx rxs h
  obtain ⟨p, ns, k, rfl, rfl, hs, q⟩ := h
  cases rx
  obtain ⟨u, rfl, ru⟩ := rxs.one
  obtain ⟨t, rfl⟩ := ru
  obtain ⟨its, rv, ⟨o, n, ho, hc, hdn, hd⟩, hlen⟩ := I.list hs
  have hl : s.heap.IsList p its.toArray := ⟨o, ho, hc, n, hd⟩
  refine PySem.SeqAt.count_list_data (bs := []) hl (by rw [show its.toArray.toList = its from rfl]; exact reads_strs rv) (.str k t) (plain_strs ns) rfl (by rw [depth_strs]; show X.A.units + 1 + 0 < cLine; omega) ?_
  refine ⟨.int (ns.count k : Nat), H, I.tok _, ⟨s.toks, ?_⟩, q⟩
  rw [count_strs]
def dCntS : DM := fun x ys M Q => match x, ys with
  | .ref p, [.str k] => ∃ ns : List Str, LS M p (ns.map D.str) ∧ Q (.int (ns.count k : Nat)) M
  | _, _ => False
theorem m_countS (hu : X.A.units + 1 < cLine) : MtD X "list.count" dCntS := by
  refine ⟨_, mt_lcountS hu, fun H M x v xs vs Q Qd rep r rs h q => ?_⟩
  unfold dCntS at h
  split at h
  · rename_i p k
    obtain ⟨ns, l, h⟩ := h
    obtain ⟨us, s, rs'⟩ := rep.ls l
    have e := rs'.strs
    subst e
    obtain ⟨v2, rfl, r2⟩ := rs.one_
    cases r2.str_
    exact ⟨p, ns, k, r.ref_, rfl, s, q _ _ _ M Go.refl rep R.int' h⟩
  · exact h.elim
end
end T3
/-! name = {k: v for ..} on one line, the name a local -/
namespace L2
open PySem PySem.Spec PyProof.Rows
section
variable {X : Cx}
theorem ps_setDc {i : Nat} {y : Str} {py : Pos} {kx vx tg iter : Expr} {ifs : List Expr} {scope : Scope} {own : List (Str × Nat)} {pos spos : Pos} {wi : TI} {g : TG} {tt : TT} {tk tv : TE} (hc : X.calm = true) (hN : X.N.Nodup) (hy : X.N[i]? = some y) (hyl : X.env.scope.names.lookup y = some .local)
    (hsw : swapsWith (.DictComp kx vx [⟨tg, iter, ifs, 0⟩] scope pos) (some (.Name y py)) spos.line X.env = pure true) (hi : PI X tg iter wi) (ok : BlkOk X.N X.env.scope scope own)
    (hg : ∀ (s : Shared) (H : Hp) (C : Addr) (cl : List (Str × Addr)) (fp : List Addr), PG (X.blk s H scope (compEnvC scope cl C X.env) fp) tg g) (ht : ∀ (s : Shared) (H : Hp) (C : Addr) (cl : List (Str × Addr)) (fp : List Addr), PTs (X.blk s H scope (compEnvC scope cl C X.env) fp) ifs tt)
    (hk : ∀ (s : Shared) (H : Hp) (C : Addr) (cl : List (Str × Addr)) (fp : List Addr), PE (X.blk s H scope (compEnvC scope cl C X.env) fp) kx tk)
    (he : ∀ (s : Shared) (H : Hp) (C : Addr) (cl : List (Str × Addr)) (fp : List Addr), PE (X.blk s H scope (compEnvC scope cl C X.env) fp) vx tv) (hs : ∀ x, foldedSetIterable iter X.env x = pure x := by intro _; rfl) :
    PS X (.Assign [.Name y py] (.DictComp kx vx [⟨tg, iter, ifs, 0⟩] scope pos) spos) (tAsg (tDc wi g tt tk tv (own.map (·.2))) (gName i)) := by
  refine ⟨fun pins s σ H D I h => ?_⟩
  rw [exec_Assign_Name_used _ _ _ _ hsw]
  refine wpAny_bind (wpAny_standAt (wpAny_bind ?_))
  show wpAny _ X.A (do let _ ← comprehension (.DictComp kx vx [⟨tg, iter, ifs, 0⟩] scope pos) scope X.env (firstIterPos [⟨tg, iter, ifs, 0⟩] pos) newDict false (eval iter X.env) (some (assign (.Name y py) X.env))) _ _ s
  have h : tDc wi g tt tk tv (own.map (·.2)) σ H (fun x H1 => gName i x σ H1 D.nx) := h
  refine wpAny_bind (thn (dc_core (Qf := fun _ s' => SP X pins D .next s') hc hN I hi ok hg ht hk he hs h fun L C s' m H' I' q hn f => ?_) fun _ s' hq => wpAny_pure (wpAny_pure hq))
  show wpAny _ _ (assign (.Name y py) X.env (.ref L)) _ _ _
  refine wpAny_assign_Name (store_ok2 (v := V.ref L) I' hN hy (.inl hyl) rfl (fun s2 I2 ⟨a, sb, ha⟩ => ?_) (.inr hyl))
  obtain ⟨f0, f1, f2, f3, f4, f5⟩ := f
  have haC : C ≠ a := by
    rcases ha with z | z
    · rw [z]; exact f1
    · exact fun e => f4 y a z e.symm
  refine ⟨m, hn.sameBut sb haC, fun h3 sb3 => ?_⟩
  exact ⟨_, H', I2.turned (t' := s2.toks) (fun b o hb e => (sb3.2 b hb).trans e) f0 f1 f3 f4 f5, q⟩
theorem swd_true {kx vx : Expr} {gs : List Comprehension} {scope : Scope} {pos py : Pos} {y : Str} {l : Nat} {env : Env} (hk : env.scope.kind = .function) (hy : env.scope.names.lookup y = some .local) (hl : (py.line == pos.line) = true)
    (ha : (scope.names.any fun (n, k) => n == y && (k == .local || k == .cell)) = false) : swapsWith (.DictComp kx vx gs scope pos) (some (.Name y py)) l env = pure true := by
  have ky : env.kindOf y = some .local := hy
  have hb : env.blockKind = .function := by unfold Env.blockKind; rw [hk]; rfl
  unfold swapsWith
  simp only [hb, ky, ha, Expr.pos, hl]
  rfl
end
end L2
namespace T3
open PySem PySem.Spec PyProof.Rows L2
section
variable {X : Cx} {B : Am} {pos : Pos}
theorem s_setDc (i : Nat) {y : Str} {py : Pos} {tg iter kx vx : Expr} {di : DI} {g : Tg} {ifs : List Expr} {scope : Scope} {own : List (Str × Nat)} {spos : Pos} {dt : DT} {dk dv : DE} (hc : X.calm = true) (hN : X.N.Nodup)
    (hsw : swapsWith (.DictComp kx vx [⟨tg, iter, ifs, 0⟩] scope pos) (some (.Name y py)) spos.line X.env = pure true) (hi : PI3 X B tg iter di) (ok : BlkOk X.N X.env.scope scope own)
    (hg : ∀ (s : Shared) (H : Hp) (C : Addr) (cl : List (Str × Addr)) (fp : List Addr), PG3 (X.blk s H scope (compEnvC scope cl C X.env) fp) tg g) (ht : ∀ (s : Shared) (H : Hp) (C : Addr) (cl : List (Str × Addr)) (fp : List Addr), PTs3 (X.blk s H scope (compEnvC scope cl C X.env) fp) B ifs dt)
    (hk : ∀ (s : Shared) (H : Hp) (C : Addr) (cl : List (Str × Addr)) (fp : List Addr), PE3 (X.blk s H scope (compEnvC scope cl C X.env) fp) B kx dk)
    (he : ∀ (s : Shared) (H : Hp) (C : Addr) (cl : List (Str × Addr)) (fp : List Addr), PE3 (X.blk s H scope (compEnvC scope cl C X.env) fp) B vx dv) (hy : X.N[i]? = some y := by rfl) (hyl : X.env.scope.names.lookup y = some .local := by rfl) (hv : ∀ i ∈ g.ix, i ∈ own.map (·.2) := by decide) (hs : ∀ x, foldedSetIterable iter X.env x = pure x := by intro _; rfl) :
    PS3 X B (.Assign [.Name y py] (.DictComp kx vx [⟨tg, iter, ifs, 0⟩] scope pos) spos) (dSet i (dDc di g dt dk dv (own.map (·.2)))) := by
  obtain ⟨ti, i1, i2⟩ := hi.ex
  refine ⟨_, ps_setDc (g := g.L X.K) (tt := tOfT X.K B dt) (tk := tOf X.K B dk) (tv := tOf X.K B dv) hc hN hy hyl hsw i1 ok (fun s H C cl fp => (hg s H C cl fp).ex) (fun s H C cl fp => (ht s H C cl fp).can) (fun s H C cl fp => (hk s H C cl fp).can) (fun s H C cl fp => (he s H C cl fp).can) hs, fun σ H δ M D Dd sl rep bb q eo => ?_⟩
  exact snd_dc i2 snd_tOfT snd_tOf snd_tOf hv σ H δ M _ _ sl rep bb q fun v H' x M' g rep' r q' => eo.nx _ _ _ _ g ((sl.mono (rep.tx g)).set i r) rep' q'
end
end T3
namespace Lw
open PySem PySem.Spec PyProof.Rows L2 T3
def topS (i : Nat) : Stmt := PySem.Challenge.pw_putbetween_k74_whole_gaps_round_by_round.main.body.getD i (.Pass ⟨0, 0, 0, 0⟩)
abbrev st_is_integer : Stmt := topS 6
theorem sc_is_integer : FnScope ["thing"] ["thing"] (defScope st_is_integer) := ⟨rfl, rfl, rfl, by decide +kernel, rfl, by decide +kernel, by decide +kernel⟩
theorem bi_is_integer {K : PySem.W.Frag} : Bi K "is_integer" st_is_integer ["thing"] := fun _ _ _ _ _ _ us hl => match us, hl with | [_], _ => rfl
abbrev st_is_within : Stmt := topS 7
theorem sc_is_within : FnScope ["thing", "least", "most"] ["thing", "least", "most"] (defScope st_is_within) := ⟨rfl, rfl, rfl, by decide +kernel, rfl, by decide +kernel, by decide +kernel⟩
theorem bi_is_within {K : PySem.W.Frag} : Bi K "is_within" st_is_within ["thing", "least", "most"] := fun _ _ _ _ _ _ us hl => match us, hl with | [_, _, _], _ => rfl
abbrev st_check_number : Stmt := topS 8
theorem sc_check_number : FnScope ["thing", "least", "most"] ["thing", "least", "most"] (defScope st_check_number) := ⟨rfl, rfl, rfl, by decide +kernel, rfl, by decide +kernel, by decide +kernel⟩
theorem bi_check_number {K : PySem.W.Frag} : Bi K "check_number" st_check_number ["thing", "least", "most"] := fun _ _ _ _ _ _ us hl => match us, hl with | [_, _, _], _ => rfl
abbrev st_is_small : Stmt := topS 15
theorem sc_is_small : FnScope ["thing", "sign"] ["thing"] (defScope st_is_small) := ⟨rfl, rfl, rfl, by decide +kernel, rfl, by decide +kernel, by decide +kernel⟩
theorem bi_is_small {K : PySem.W.Frag} : Bi K "is_small" st_is_small ["thing"] := fun _ _ _ _ _ _ us hl => match us, hl with | [_], _ => rfl
abbrev st_is_growth : Stmt := topS 16
theorem sc_is_growth : FnScope ["thing", "kind", "left", "other"] ["thing"] (defScope st_is_growth) := ⟨rfl, rfl, rfl, by decide +kernel, rfl, by decide +kernel, by decide +kernel⟩
theorem bi_is_growth {K : PySem.W.Frag} : Bi K "is_growth" st_is_growth ["thing"] := fun _ _ _ _ _ _ us hl => match us, hl with | [_], _ => rfl
abbrev st_check_growth : Stmt := topS 17
theorem sc_check_growth : FnScope ["growth", "kind"] ["growth", "kind"] (defScope st_check_growth) := ⟨rfl, rfl, rfl, by decide +kernel, rfl, by decide +kernel, by decide +kernel⟩
theorem bi_check_growth {K : PySem.W.Frag} : Bi K "check_growth" st_check_growth ["growth", "kind"] := fun _ _ _ _ _ _ us hl => match us, hl with | [_, _], _ => rfl
abbrev st_needed : Stmt := topS 18
theorem sc_needed : FnScope ["growth", "kind", "many", "found", "turn", "other", "goal"] ["growth", "kind", "many"] (defScope st_needed) := ⟨rfl, rfl, rfl, by decide +kernel, rfl, by decide +kernel, by decide +kernel⟩
theorem bi_needed {K : PySem.W.Frag} : Bi K "needed" st_needed ["growth", "kind", "many"] := fun _ _ _ _ _ _ us hl => match us, hl with | [_, _, _], _ => rfl
abbrev st_gaps : Stmt := topS 19
theorem sc_gaps : FnScope ["growth", "kind", "many", "found", "turn", "later", "other", "goal"] ["growth", "kind", "many"] (defScope st_gaps) := ⟨rfl, rfl, rfl, by decide +kernel, rfl, by decide +kernel, by decide +kernel⟩
theorem bi_gaps {K : PySem.W.Frag} : Bi K "gaps" st_gaps ["growth", "kind", "many"] := fun _ _ _ _ _ _ us hl => match us, hl with | [_, _, _], _ => rfl
abbrev st__law_pool : Stmt := topS 21
theorem sc__law_pool : FnScope ["_law_script", "_law_great", "_law_small", "_law_cell"] ["_law_script"] (defScope st__law_pool) := ⟨rfl, rfl, rfl, by decide +kernel, rfl, by decide +kernel, by decide +kernel⟩
theorem bi__law_pool {K : PySem.W.Frag} : Bi K "_law_pool" st__law_pool ["_law_script"] := fun _ _ _ _ _ _ us hl => match us, hl with | [_], _ => rfl
abbrev st__law_draw : Stmt := topS 22
theorem sc__law_draw : FnScope ["_law_pool_here", "_law_many", "_law_cell", "_law_number", "_law_digit"] ["_law_pool_here", "_law_many"] (defScope st__law_draw) := ⟨rfl, rfl, rfl, by decide +kernel, rfl, by decide +kernel, by decide +kernel⟩
theorem bi__law_draw {K : PySem.W.Frag} : Bi K "_law_draw" st__law_draw ["_law_pool_here", "_law_many"] := fun _ _ _ _ _ _ us hl => match us, hl with | [_, _], _ => rfl
abbrev st__law_pick : Stmt := topS 23
theorem sc__law_pick : FnScope ["_law_pool_here", "_law_things"] ["_law_pool_here", "_law_things"] (defScope st__law_pick) := ⟨rfl, rfl, rfl, by decide +kernel, rfl, by decide +kernel, by decide +kernel⟩
theorem bi__law_pick {K : PySem.W.Frag} : Bi K "_law_pick" st__law_pick ["_law_pool_here", "_law_things"] := fun _ _ _ _ _ _ us hl => match us, hl with | [_, _], _ => rfl
abbrev st__law_is_int : Stmt := topS 24
theorem sc__law_is_int : FnScope ["_law_thing"] ["_law_thing"] (defScope st__law_is_int) := ⟨rfl, rfl, rfl, by decide +kernel, rfl, by decide +kernel, by decide +kernel⟩
theorem bi__law_is_int {K : PySem.W.Frag} : Bi K "_law_is_int" st__law_is_int ["_law_thing"] := fun _ _ _ _ _ _ us hl => match us, hl with | [_], _ => rfl
abbrev st__law_growth : Stmt := topS 25
theorem sc__law_growth : FnScope ["_law_pool_here", "_law_many", "_law_letters", "_law_kinds", "_law_turn", "_law_dense", "_law_found", "_law_at", "_law_order", "_law_text", "_law_k", "_law_row", "_law_later", "_law_each"] ["_law_pool_here"] (defScope st__law_growth) := ⟨rfl, rfl, rfl, by decide +kernel, rfl, by decide +kernel, by decide +kernel⟩
theorem bi__law_growth {K : PySem.W.Frag} : Bi K "_law_growth" st__law_growth ["_law_pool_here"] := fun _ _ _ _ _ _ us hl => match us, hl with | [_], _ => rfl
abbrev st__law_grown : Stmt := topS 26
theorem sc__law_grown : FnScope ["_law_growth_here", "_law_row", "_law_found", "_law_kind"] ["_law_growth_here", "_law_row"] (defScope st__law_grown) := ⟨rfl, rfl, rfl, by decide +kernel, rfl, by decide +kernel, by decide +kernel⟩
theorem bi__law_grown {K : PySem.W.Frag} : Bi K "_law_grown" st__law_grown ["_law_growth_here", "_law_row"] := fun _ _ _ _ _ _ us hl => match us, hl with | [_, _], _ => rfl
abbrev st_law : Stmt := topS 27
theorem sc_law : FnScope ["_law_script", "_law_pool_here", "_law_growth_here", "_law_kind", "_law_row", "_law_count", "_law_total", "_law_last", "_law_many", "_law_later", "_law_each", "_law_told", "_law_other"] ["_law_script"] (defScope st_law) := ⟨rfl, rfl, rfl, by decide +kernel, rfl, by decide +kernel, by decide +kernel⟩
theorem bi_law {K : PySem.W.Frag} : Bi K "law" st_law ["_law_script"] := fun _ _ _ _ _ _ us hl => match us, hl with | [_], _ => rfl
structure Gv (K : PySem.W.Frag) (mg : Str → Option Value) : Prop where
  d_is_integer : Df K mg "is_integer" st_is_integer
  d_is_within : Df K mg "is_within" st_is_within
  d_check_number : Df K mg "check_number" st_check_number
  d_is_small : Df K mg "is_small" st_is_small
  d_is_growth : Df K mg "is_growth" st_is_growth
  d_check_growth : Df K mg "check_growth" st_check_growth
  d_needed : Df K mg "needed" st_needed
  d_gaps : Df K mg "gaps" st_gaps
  d__law_pool : Df K mg "_law_pool" st__law_pool
  d__law_draw : Df K mg "_law_draw" st__law_draw
  d__law_pick : Df K mg "_law_pick" st__law_pick
  d__law_is_int : Df K mg "_law_is_int" st__law_is_int
  d__law_growth : Df K mg "_law_growth" st__law_growth
  d__law_grown : Df K mg "_law_grown" st__law_grown
  d_law : Df K mg "law" st_law
  b_abs : mg "abs" = none
  b_all : mg "all" = none
  b_bool : mg "bool" = none
  b_dict : mg "dict" = none
  b_int : mg "int" = none
  b_isinstance : mg "isinstance" = none
  b_len : mg "len" = none
  b_list : mg "list" = none
  b_range : mg "range" = none
  b_str : mg "str" = none
  b_sum : mg "sum" = none
  b_tuple : mg "tuple" = none
  c_MOST_KINDS : GI mg "MOST_KINDS" 12
  c_MOST_LEFT : GI mg "MOST_LEFT" 4
  c_MOST_ROUNDS : GI mg "MOST_ROUNDS" 200
  c_MOST_SIGNS : GI mg "MOST_SIGNS" 8
  c_SIGNS : GS mg "SIGNS" "abcdefghijklmnopqrstuvwxyz"

/-! ### what is asked of what is passed: nothing amiss -/
structure Snd (p : List (List Nat)) : Prop where
  len : p.length ≤ 40
  asc : ∀ r ∈ p, r.Pairwise (· < ·)
  lt : ∀ (i : Nat) (r : List Nat), p[i]? = some r → ∀ x ∈ r, x < i
  tr : ∀ (i : Nat) (r : List Nat), p[i]? = some r → ∀ x ∈ r, ∀ s, p[x]? = some s → ∀ y ∈ s, y ∈ r
section
variable {P : Program} {w : World} {K : PySem.W.Frag} {mg : Str → Option Value} {base : Heap}
theorem pr_is_integer (G : Gv K mg) : Pr P w K mg base "is_integer" 1 ["thing"] (S1 fun x M Q => ∃ i, x = .int i ∧ Q (.bl true) M) := by
  refine (pr3 (k := 0) G.d_is_integer bi_is_integer sc_is_integer S1n (fun f cdv A outer s H E hr => (b_one (s_ret (e_and (e_callB cd_isi (by rfl) G.b_isinstance rfl (a_cons (e_var 0) (a_cons (e_ty (by rfl) G.b_int rfl) a_nil))) (e_one (e_not (e_callB cd_isi (by rfl) G.b_isinstance rfl (a_cons (e_var 0) (a_cons (e_ty (by rfl) G.b_bool rfl) a_nil)))))))))) ?_
  rintro _ M Q E ⟨_, rfl, i, rfl, h⟩ H rep
  refine ⟨M, rep, fun _ h => h, ?_⟩
  simp only [startD, List.map_cons, List.map_nil, List.length_cons, List.length_nil, Nat.reduceAdd, Nat.reduceSub, Nat.zero_add, List.replicate, List.cons_append, List.nil_append]; simp (config := {failIfUnchanged := false}) only [dC, dOp, dTest, dChain, dAnd, dOr, dNot, dAndV, dOrV, dNotV, dIf, dNil, dCons, dTup, dLst, dCB, d1, dIx, dNoPart, dPart, dSl, dCut, dNeg, dLen, dTupOf, dListOf, dSorted, dSum, dAll, dAny, dInt, dAbs, dMax, dMin, dIsi, isT, dNext, dSeq, dBrk, dCont, dNever, dExpr, dRet, dRetN, dIfS, dAsg, dPutI, dI0, dI, dIsN, dNotN, dSeqI, dRng1, dRng2, dRngDn, dEnumI, dZipI, dYes, dCall, dLM, dAppend, dExtend, dReverse, dInsert, dAugI, dRg1, dRg2, dTupRg, dLstRg, dNewK, dNewT, ↓S0_, ↓S1_, ↓S2_, ↓S3_, ↓S4_, ↓S5_, ↓S6_, List.map_cons, List.map_nil, List.length_cons, List.length_nil, List.replicate, List.cons_append, List.nil_append, Nat.reduceAdd, Nat.reduceSub, Nat.zero_add, List.getElem?_cons_zero, List.getElem?_cons_succ, Option.some.injEq, exists_eq_left, exists_eq_left', List.set_cons_zero, List.set_cons_succ, wipeD, D.int.injEq, D.bl.injEq, D.str.injEq, D.ref.injEq, D.tup.injEq, D.ty.injEq, true_and, and_true, forall_const, forall_eq', forall_eq, mt_int, mt_bool, mt_str, mt_tuple, mt_list, mt_dict, st_int_int, st_int_bool, st_int_str, st_int_tuple, st_int_list, st_int_dict, st_bool_int, st_bool_bool, st_bool_str, st_bool_tuple, st_bool_list, st_bool_dict, st_str_int, st_str_bool, st_str_str, st_str_tuple, st_str_list, st_str_dict, st_tuple_int, st_tuple_bool, st_tuple_str, st_tuple_tuple, st_tuple_list, st_tuple_dict, st_list_int, st_list_bool, st_list_str, st_list_tuple, st_list_list, st_list_dict, st_dict_int, st_dict_bool, st_dict_str, st_dict_tuple, st_dict_list, st_dict_dict, eq_self, Bool.true_eq_false, Bool.false_eq_true, false_implies, true_implies, implies_true, decide_eq_true_eq, decide_eq_false_iff_not, Bool.not_true, Bool.not_false, Bool.not_eq_true, Bool.not_eq_false, Bool.not_eq_true', Bool.not_eq_false', not_true_eq_false, not_false_eq_true, false_and, and_false, or_false, false_or, reduceCtorEq, ↓exLSu, ↓exDKu, ↓exDKd, ↓exLSd, ↓exLu, ↓dIxRu, ↓dPutu, ↓dGetAu, ↓dEq_int, ↓dNe_int, ↓dEq_bl, ↓dNe_bl, ↓dEq_str, ↓dNe_str, ↓dAdd_int, ↓exAt10, ↓exIx10, ↓exAt20, ↓exIx20, ↓exAt21, ↓exIx21, ↓exAt30, ↓exIx30, ↓exAt31, ↓exIx31, ↓exAt32, ↓exIx32, ↓exAt40, ↓exIx40, ↓exAt41, ↓exIx41, ↓exAt42, ↓exIx42, ↓exAt43, ↓exIx43, ↓exAt50, ↓exIx50, ↓exAt51, ↓exIx51, ↓exAt52, ↓exIx52, ↓exAt53, ↓exIx53, ↓exAt54, ↓exIx54, ↓exAt60, ↓exIx60, ↓exAt61, ↓exIx61, ↓exAt62, ↓exIx62, ↓exAt63, ↓exIx63, ↓exAt64, ↓exIx64, ↓exAt65, ↓exIx65, up_up, false_or, or_false, ↓exAtM, ↓dFlag_bl, ↓exBl, ↓exInt, ↓exRef, ↓dVar0, ↓dAug0, ↓dSet0, ↓dTgN0, ↓dTgW0, ↓dVar1, ↓dAug1, ↓dSet1, ↓dTgN1, ↓dTgW1, ↓dVar2, ↓dAug2, ↓dSet2, ↓dTgN2, ↓dTgW2, ↓dVar3, ↓dAug3, ↓dSet3, ↓dTgN3, ↓dTgW3, ↓dVar4, ↓dAug4, ↓dSet4, ↓dTgN4, ↓dTgW4, ↓dVar5, ↓dAug5, ↓dSet5, ↓dTgN5, ↓dTgW5, ↓dVar6, ↓dAug6, ↓dSet6, ↓dTgN6, ↓dTgW6, ↓dVar7, ↓dAug7, ↓dSet7, ↓dTgN7, ↓dTgW7, ↓dVar8, ↓dAug8, ↓dSet8, ↓dTgN8, ↓dTgW8, ↓dVar9, ↓dAug9, ↓dSet9, ↓dTgN9, ↓dTgW9, ↓dVar10, ↓dAug10, ↓dSet10, ↓dTgN10, ↓dTgW10, ↓dVar11, ↓dAug11, ↓dSet11, ↓dTgN11, ↓dTgW11, ↓dVar12, ↓dAug12, ↓dSet12, ↓dTgN12, ↓dTgW12, ↓dVar13, ↓dAug13, ↓dSet13, ↓dTgN13, ↓dTgW13, ↓dVar14, ↓dAug14, ↓dSet14, ↓dTgN14, ↓dTgW14, ↓dVar15, ↓dAug15, ↓dSet15, ↓dTgN15, ↓dTgW15, ↓dVar16, ↓dAug16, ↓dSet16, ↓dTgN16, ↓dTgW16, ↓dVar17, ↓dAug17, ↓dSet17, ↓dTgN17, ↓dTgW17, ↓dVar18, ↓dAug18, ↓dSet18, ↓dTgN18, ↓dTgW18, ↓dVar19, ↓dAug19, ↓dSet19, ↓dTgN19, ↓dTgW19, ↓dTg_t2, ↓dTg_t3, ↓exGetM, ↓exSumU, nD, plD, rwD, ↓dAdd_tup, ↓dAdd_ref, dSIndex, dInS, dKeysI, dValsI, dItemsI, dMulS, dEqK, dNeK, dClrK, dCntS]
  exact dn0 h
theorem pr_is_within (G : Gv K mg) : Pr P w K mg base "is_within" 2 ["thing", "least", "most"] (S3 fun x a b M Q => ∃ i j k, x = .int i ∧ a = .int j ∧ b = .int k ∧ Q (.bl (decide (j ≤ i) && decide (i ≤ k))) M) := by
  refine (pr3 (k := 1) G.d_is_within bi_is_within sc_is_within S3n (fun f cdv A outer s H E hr => (b_one (s_ret (e_and (e_callP (pr_is_integer G) (hr.mono (by decide)) (by rfl) pass0 (a_cons (e_var 0) a_nil)) (e_one (e_chain od_le od_le (e_var 1) (e_var 0) (e_var 2)))))))) ?_
  rintro _ M Q E ⟨_, _, _, rfl, i, j, k, rfl, rfl, rfl, h⟩ H rep
  refine ⟨M, rep, fun _ h => h, ?_⟩
  simp only [startD, List.map_cons, List.map_nil, List.length_cons, List.length_nil, Nat.reduceAdd, Nat.reduceSub, Nat.zero_add, List.replicate, List.cons_append, List.nil_append]; simp (config := {failIfUnchanged := false}) only [dC, dOp, dTest, dChain, dAnd, dOr, dNot, dAndV, dOrV, dNotV, dIf, dNil, dCons, dTup, dLst, dCB, d1, dIx, dNoPart, dPart, dSl, dCut, dNeg, dLen, dTupOf, dListOf, dSorted, dSum, dAll, dAny, dInt, dAbs, dMax, dMin, dIsi, isT, dNext, dSeq, dBrk, dCont, dNever, dExpr, dRet, dRetN, dIfS, dAsg, dPutI, dI0, dI, dIsN, dNotN, dSeqI, dRng1, dRng2, dRngDn, dEnumI, dZipI, dYes, dCall, dLM, dAppend, dExtend, dReverse, dInsert, dAugI, dRg1, dRg2, dTupRg, dLstRg, dNewK, dNewT, ↓S0_, ↓S1_, ↓S2_, ↓S3_, ↓S4_, ↓S5_, ↓S6_, List.map_cons, List.map_nil, List.length_cons, List.length_nil, List.replicate, List.cons_append, List.nil_append, Nat.reduceAdd, Nat.reduceSub, Nat.zero_add, List.getElem?_cons_zero, List.getElem?_cons_succ, Option.some.injEq, exists_eq_left, exists_eq_left', List.set_cons_zero, List.set_cons_succ, wipeD, D.int.injEq, D.bl.injEq, D.str.injEq, D.ref.injEq, D.tup.injEq, D.ty.injEq, true_and, and_true, forall_const, forall_eq', forall_eq, mt_int, mt_bool, mt_str, mt_tuple, mt_list, mt_dict, st_int_int, st_int_bool, st_int_str, st_int_tuple, st_int_list, st_int_dict, st_bool_int, st_bool_bool, st_bool_str, st_bool_tuple, st_bool_list, st_bool_dict, st_str_int, st_str_bool, st_str_str, st_str_tuple, st_str_list, st_str_dict, st_tuple_int, st_tuple_bool, st_tuple_str, st_tuple_tuple, st_tuple_list, st_tuple_dict, st_list_int, st_list_bool, st_list_str, st_list_tuple, st_list_list, st_list_dict, st_dict_int, st_dict_bool, st_dict_str, st_dict_tuple, st_dict_list, st_dict_dict, eq_self, Bool.true_eq_false, Bool.false_eq_true, false_implies, true_implies, implies_true, decide_eq_true_eq, decide_eq_false_iff_not, Bool.not_true, Bool.not_false, Bool.not_eq_true, Bool.not_eq_false, Bool.not_eq_true', Bool.not_eq_false', not_true_eq_false, not_false_eq_true, false_and, and_false, or_false, false_or, reduceCtorEq, ↓exLSu, ↓exDKu, ↓exDKd, ↓exLSd, ↓exLu, ↓dIxRu, ↓dPutu, ↓dGetAu, ↓dEq_int, ↓dNe_int, ↓dEq_bl, ↓dNe_bl, ↓dEq_str, ↓dNe_str, ↓dAdd_int, ↓exAt10, ↓exIx10, ↓exAt20, ↓exIx20, ↓exAt21, ↓exIx21, ↓exAt30, ↓exIx30, ↓exAt31, ↓exIx31, ↓exAt32, ↓exIx32, ↓exAt40, ↓exIx40, ↓exAt41, ↓exIx41, ↓exAt42, ↓exIx42, ↓exAt43, ↓exIx43, ↓exAt50, ↓exIx50, ↓exAt51, ↓exIx51, ↓exAt52, ↓exIx52, ↓exAt53, ↓exIx53, ↓exAt54, ↓exIx54, ↓exAt60, ↓exIx60, ↓exAt61, ↓exIx61, ↓exAt62, ↓exIx62, ↓exAt63, ↓exIx63, ↓exAt64, ↓exIx64, ↓exAt65, ↓exIx65, up_up, false_or, or_false, ↓exAtM, ↓dFlag_bl, ↓exBl, ↓exInt, ↓exRef, ↓dVar0, ↓dAug0, ↓dSet0, ↓dTgN0, ↓dTgW0, ↓dVar1, ↓dAug1, ↓dSet1, ↓dTgN1, ↓dTgW1, ↓dVar2, ↓dAug2, ↓dSet2, ↓dTgN2, ↓dTgW2, ↓dVar3, ↓dAug3, ↓dSet3, ↓dTgN3, ↓dTgW3, ↓dVar4, ↓dAug4, ↓dSet4, ↓dTgN4, ↓dTgW4, ↓dVar5, ↓dAug5, ↓dSet5, ↓dTgN5, ↓dTgW5, ↓dVar6, ↓dAug6, ↓dSet6, ↓dTgN6, ↓dTgW6, ↓dVar7, ↓dAug7, ↓dSet7, ↓dTgN7, ↓dTgW7, ↓dVar8, ↓dAug8, ↓dSet8, ↓dTgN8, ↓dTgW8, ↓dVar9, ↓dAug9, ↓dSet9, ↓dTgN9, ↓dTgW9, ↓dVar10, ↓dAug10, ↓dSet10, ↓dTgN10, ↓dTgW10, ↓dVar11, ↓dAug11, ↓dSet11, ↓dTgN11, ↓dTgW11, ↓dVar12, ↓dAug12, ↓dSet12, ↓dTgN12, ↓dTgW12, ↓dVar13, ↓dAug13, ↓dSet13, ↓dTgN13, ↓dTgW13, ↓dVar14, ↓dAug14, ↓dSet14, ↓dTgN14, ↓dTgW14, ↓dVar15, ↓dAug15, ↓dSet15, ↓dTgN15, ↓dTgW15, ↓dVar16, ↓dAug16, ↓dSet16, ↓dTgN16, ↓dTgW16, ↓dVar17, ↓dAug17, ↓dSet17, ↓dTgN17, ↓dTgW17, ↓dVar18, ↓dAug18, ↓dSet18, ↓dTgN18, ↓dTgW18, ↓dVar19, ↓dAug19, ↓dSet19, ↓dTgN19, ↓dTgW19, ↓dTg_t2, ↓dTg_t3, ↓exGetM, ↓exSumU, nD, plD, rwD, ↓dAdd_tup, ↓dAdd_ref, dSIndex, dInS, dKeysI, dValsI, dItemsI, dMulS, dEqK, dNeK, dClrK, dCntS]
  refine ⟨fun h1 => dn0 ?_, fun h1 => dn0 ?_⟩
  · rw [decide_eq_true h1] at h; exact h
  · rw [decide_eq_false h1] at h; exact h
theorem len_nodup : ∀ (n : Nat) (r : List Nat), r.Nodup → (∀ x ∈ r, x < n) → r.length ≤ n
  | 0, r, _, h => by
    cases r with
    | nil => exact Nat.le_refl _
    | cons a r => exact absurd (h a (by simp)) (by omega)
  | n + 1, r, nd, h => by
    have h1 := len_nodup n (r.erase n) (nd.erase n) fun x hx => by
      have h2 := h x (List.mem_of_mem_erase hx)
      have h3 : x ≠ n := fun e => by
        subst e
        exact (List.Nodup.not_mem_erase nd) hx
      omega
    have := List.length_erase (a := n) (l := r)
    split at this <;> omega
theorem len_rows {p : List (List Nat)} (S : Snd p) {r : List Nat} (h : r ∈ p) : r.length ≤ 40 := by
  obtain ⟨i, hi⟩ := List.getElem?_of_mem h
  have h1 := S.asc r h
  have h2 : ∀ x ∈ r, x < 40 := fun x hx => by
    have a := S.lt i r hi x hx
    have b := (List.getElem?_eq_some_iff.mp hi).1
    have := S.len
    omega
  have : r ⊆ List.range 40 := fun x hx => List.mem_range.mpr (h2 x hx)
  have nd : r.Nodup := h1.imp fun h => Nat.ne_of_lt h
  exact len_nodup 40 r nd h2
theorem fold_in (r : List Nat) (m : Nat) (h : m ∈ r) : (valD (r.foldl (fun acc (n : Nat) => putKD acc (.inl (n : Int) : Key) (D.bl true)) []) (.inl (m : Int))).isSome = true := by
  exact (valD_fold (fun n : Nat => (.inl (n : Int) : Key)) (fun _ => D.bl true) r [] (.inl (m : Int))).mpr (.inl ⟨m, h, rfl⟩)
end
theorem rgx {n i : Nat} {x : D} (h : ((List.range n).map nD)[i]? = some x) : i < n ∧ x = nD i := by
  rw [List.getElem?_map] at h
  obtain ⟨j, hj, rfl⟩ := Option.map_eq_some_iff.mp h
  obtain ⟨h1, h2⟩ := List.getElem?_eq_some_iff.mp hj
  rw [List.length_range] at h1
  rw [List.getElem_range] at h2
  exact ⟨h1, by rw [h2]⟩
theorem rg_len (n : Nat) : ((List.range n).map nD).length = n := by rw [List.length_map, List.length_range]
/-! ### growths: kinds are small words -/
structure Sml (s : Str) : Prop where
  pos : 1 ≤ s.length
  few : s.length ≤ 8
  low : ∀ c ∈ s.cps.toList, 97 ≤ c ∧ c ≤ 122
abbrev Gr := List (Str × List Str)
def gD (g : Gr) : List (Key × D) := g.map fun e => (.inr e.1, .tup (e.2.map D.str))
structure Grw (g : Gr) : Prop where
  pos : 1 ≤ g.length
  few : g.length ≤ 12
  nd : (g.map (·.1)).Nodup
  sml : ∀ e ∈ g, Sml e.1
  left : ∀ e ∈ g, e.2.length ≤ 4 ∧ ∀ o ∈ e.2, o ∈ g.map (·.1)
/-- what a kind leaves -/
def lf (g : Gr) (k : Str) : List Str := ((g.find? fun e => decide (e.1 = k)).map (·.2)).getD []
theorem gD_len (g : Gr) : (gD g).length = g.length := by unfold gD; rw [List.length_map]
theorem abc {c : Nat} (h : 97 ≤ c ∧ c ≤ 122) : c ∈ (Str.ofString "abcdefghijklmnopqrstuvwxyz").cps.toList := by
  have : ∀ i < 26, 97 + i ∈ (Str.ofString "abcdefghijklmnopqrstuvwxyz").cps.toList := by decide +kernel
  have h2 := this (c - 97) (by omega)
  rwa [show 97 + (c - 97) = c by omega] at h2
theorem gD_keys (g : Gr) : (gD g).map (fun kv => T3.kD kv.1) = (g.map (·.1)).map D.str := by
  unfold gD
  rw [List.map_map, List.map_map]; rfl
theorem find_of {g : Gr} (nd : (g.map (·.1)).Nodup) {e : Str × List Str} (h : e ∈ g) : g.find? (fun f => decide (f.1 = e.1)) = some e := by
  induction g with
  | nil => cases h
  | cons a g ih =>
    rw [List.map_cons, List.nodup_cons] at nd
    rw [List.find?_cons]
    rcases List.mem_cons.mp h with rfl | h
    · rw [decide_eq_true rfl]
    · have : ¬ a.1 = e.1 := fun z => nd.1 (List.mem_map.mpr ⟨e, h, z.symm⟩)
      rw [decide_eq_false this]
      exact ih nd.2 h
theorem lf_of {g : Gr} (G : Grw g) {e : Str × List Str} (h : e ∈ g) : lf g e.1 = e.2 := by
  unfold lf
  rw [find_of G.nd h]; rfl
theorem valD_map {α : Type} (f : α → Key) (v : α → D) : ∀ (l : List α) (k : Key), valD (l.map fun a => (f a, v a)) k = (l.find? fun a => decide (f a = k)).map v
  | [], _ => rfl
  | a :: l, k => by
    have ih := valD_map f v l k
    unfold valD at ih ⊢
    rw [List.map_cons, List.find?_cons, List.find?_cons]
    by_cases e : f a = k
    · simp [e]
    · simp only [e, decide_false]
      exact ih
theorem val_g {g : Gr} (G : Grw g) {k : Str} (h : k ∈ g.map (·.1)) : valD (gD g) (.inr k) = some (.tup ((lf g k).map D.str)) := by
  obtain ⟨e, he, rfl⟩ := List.mem_map.mp h
  have := valD_map (fun e : Str × List Str => (.inr e.1 : Key)) (fun e => D.tup (e.2.map D.str)) g (.inr e.1)
  have e2 : (g.find? fun a => decide ((.inr a.1 : Key) = .inr e.1)) = g.find? fun a => decide (a.1 = e.1) := by
    congr 1
    funext a
    exact decide_eq_decide.mpr ⟨fun z => by injection z, fun z => by rw [z]⟩
  rw [e2, find_of G.nd he] at this
  unfold gD
  rw [this, lf_of G he]; rfl
section
variable {P : Program} {w : World} {K : PySem.W.Frag} {mg : Str → Option Value} {base : Heap}
theorem pr_is_small (G : Gv K mg) : Pr P w K mg base "is_small" 1 ["thing"] (S1 fun x M Q => ∃ s, x = .str s ∧ Sml s ∧ Q (.bl true) M) := by
  refine (pr3 (k := 0) G.d_is_small bi_is_small sc_is_small S1n (fun f cdv A outer s H E hr => (b_cons (s_if (PW3.pt (w_or (t_not (t_val (e_callB cd_isi (by rfl) G.b_isinstance rfl (a_cons (e_var 0) (a_cons (e_ty (by rfl) G.b_str rfl) a_nil))))) (w_or1 (t_not (t_chain od_le od_le e_int (e_callB cd_len (by rfl) G.b_len rfl (a_cons (e_var 0) a_nil)) (e_gintP G.c_MOST_SIGNS (by rfl))))))) (b_one (s_ret e_bl)) b_nil)
      (b_one (s_ret (e_callB (cd_all rfl) (by rfl) G.b_all rfl (a_cons (e_lc (own := [("sign", 1)]) rfl sc_is_small.nd (i_seq (e_var 0)) (blkOk_by (by rfl)) (fun _ _ _ _ _ => (g_nm 1 sc_is_small.nd)) (fun _ _ _ _ _ => ts_nil) (fun _ _ _ _ _ => (e_cmp od_inS (e_var 1) (e_gstrP G.c_SIGNS (by rfl))))) a_nil))))))) ?_
  rintro _ M Q E ⟨_, rfl, s, rfl, hs, h⟩ H rep
  refine ⟨M, rep, fun _ h => h, ?_⟩
  simp only [startD, List.map_cons, List.map_nil, List.length_cons, List.length_nil, Nat.reduceAdd, Nat.reduceSub, Nat.zero_add, List.replicate, List.cons_append, List.nil_append]; simp (config := {failIfUnchanged := false}) only [dC, dOp, dTest, dChain, dAnd, dOr, dNot, dAndV, dOrV, dNotV, dIf, dNil, dCons, dTup, dLst, dCB, d1, dIx, dNoPart, dPart, dSl, dCut, dNeg, dLen, dTupOf, dListOf, dSorted, dSum, dAll, dAny, dInt, dAbs, dMax, dMin, dIsi, isT, dNext, dSeq, dBrk, dCont, dNever, dExpr, dRet, dRetN, dIfS, dAsg, dPutI, dI0, dI, dIsN, dNotN, dSeqI, dRng1, dRng2, dRngDn, dEnumI, dZipI, dYes, dCall, dLM, dAppend, dExtend, dReverse, dInsert, dAugI, dRg1, dRg2, dTupRg, dLstRg, dNewK, dNewT, ↓S0_, ↓S1_, ↓S2_, ↓S3_, ↓S4_, ↓S5_, ↓S6_, List.map_cons, List.map_nil, List.length_cons, List.length_nil, List.replicate, List.cons_append, List.nil_append, Nat.reduceAdd, Nat.reduceSub, Nat.zero_add, List.getElem?_cons_zero, List.getElem?_cons_succ, Option.some.injEq, exists_eq_left, exists_eq_left', List.set_cons_zero, List.set_cons_succ, wipeD, D.int.injEq, D.bl.injEq, D.str.injEq, D.ref.injEq, D.tup.injEq, D.ty.injEq, true_and, and_true, forall_const, forall_eq', forall_eq, mt_int, mt_bool, mt_str, mt_tuple, mt_list, mt_dict, st_int_int, st_int_bool, st_int_str, st_int_tuple, st_int_list, st_int_dict, st_bool_int, st_bool_bool, st_bool_str, st_bool_tuple, st_bool_list, st_bool_dict, st_str_int, st_str_bool, st_str_str, st_str_tuple, st_str_list, st_str_dict, st_tuple_int, st_tuple_bool, st_tuple_str, st_tuple_tuple, st_tuple_list, st_tuple_dict, st_list_int, st_list_bool, st_list_str, st_list_tuple, st_list_list, st_list_dict, st_dict_int, st_dict_bool, st_dict_str, st_dict_tuple, st_dict_list, st_dict_dict, eq_self, Bool.true_eq_false, Bool.false_eq_true, false_implies, true_implies, implies_true, decide_eq_true_eq, decide_eq_false_iff_not, Bool.not_true, Bool.not_false, Bool.not_eq_true, Bool.not_eq_false, Bool.not_eq_true', Bool.not_eq_false', not_true_eq_false, not_false_eq_true, false_and, and_false, or_false, false_or, reduceCtorEq, ↓exLSu, ↓exDKu, ↓exDKd, ↓exLSd, ↓exLu, ↓dIxRu, ↓dPutu, ↓dGetAu, ↓dEq_int, ↓dNe_int, ↓dEq_bl, ↓dNe_bl, ↓dEq_str, ↓dNe_str, ↓dAdd_int, ↓exAt10, ↓exIx10, ↓exAt20, ↓exIx20, ↓exAt21, ↓exIx21, ↓exAt30, ↓exIx30, ↓exAt31, ↓exIx31, ↓exAt32, ↓exIx32, ↓exAt40, ↓exIx40, ↓exAt41, ↓exIx41, ↓exAt42, ↓exIx42, ↓exAt43, ↓exIx43, ↓exAt50, ↓exIx50, ↓exAt51, ↓exIx51, ↓exAt52, ↓exIx52, ↓exAt53, ↓exIx53, ↓exAt54, ↓exIx54, ↓exAt60, ↓exIx60, ↓exAt61, ↓exIx61, ↓exAt62, ↓exIx62, ↓exAt63, ↓exIx63, ↓exAt64, ↓exIx64, ↓exAt65, ↓exIx65, up_up, false_or, or_false, ↓exAtM, ↓dFlag_bl, ↓exBl, ↓exInt, ↓exRef, ↓dVar0, ↓dAug0, ↓dSet0, ↓dTgN0, ↓dTgW0, ↓dVar1, ↓dAug1, ↓dSet1, ↓dTgN1, ↓dTgW1, ↓dVar2, ↓dAug2, ↓dSet2, ↓dTgN2, ↓dTgW2, ↓dVar3, ↓dAug3, ↓dSet3, ↓dTgN3, ↓dTgW3, ↓dVar4, ↓dAug4, ↓dSet4, ↓dTgN4, ↓dTgW4, ↓dVar5, ↓dAug5, ↓dSet5, ↓dTgN5, ↓dTgW5, ↓dVar6, ↓dAug6, ↓dSet6, ↓dTgN6, ↓dTgW6, ↓dVar7, ↓dAug7, ↓dSet7, ↓dTgN7, ↓dTgW7, ↓dVar8, ↓dAug8, ↓dSet8, ↓dTgN8, ↓dTgW8, ↓dVar9, ↓dAug9, ↓dSet9, ↓dTgN9, ↓dTgW9, ↓dVar10, ↓dAug10, ↓dSet10, ↓dTgN10, ↓dTgW10, ↓dVar11, ↓dAug11, ↓dSet11, ↓dTgN11, ↓dTgW11, ↓dVar12, ↓dAug12, ↓dSet12, ↓dTgN12, ↓dTgW12, ↓dVar13, ↓dAug13, ↓dSet13, ↓dTgN13, ↓dTgW13, ↓dVar14, ↓dAug14, ↓dSet14, ↓dTgN14, ↓dTgW14, ↓dVar15, ↓dAug15, ↓dSet15, ↓dTgN15, ↓dTgW15, ↓dVar16, ↓dAug16, ↓dSet16, ↓dTgN16, ↓dTgW16, ↓dVar17, ↓dAug17, ↓dSet17, ↓dTgN17, ↓dTgW17, ↓dVar18, ↓dAug18, ↓dSet18, ↓dTgN18, ↓dTgW18, ↓dVar19, ↓dAug19, ↓dSet19, ↓dTgN19, ↓dTgW19, ↓dTg_t2, ↓dTg_t3, ↓exGetM, ↓exSumU, nD, plD, rwD, ↓dAdd_tup, ↓dAdd_ref, dSIndex, dInS, dKeysI, dValsI, dItemsI, dMulS, dEqK, dNeK, dClrK, dCntS]
  have p1 := hs.pos
  have p2 := hs.few
  refine ⟨Nat.le_trans p2 (by decide), fun _ => ⟨fun z => by omega, fun _ => ?_⟩, fun z => by omega⟩
  refine dLc_g fun F1 T1 U1 h1 t1 u1 => ?_; simp only [dLc, dC, dOp, dTest, dChain, dAnd, dOr, dNot, dAndV, dOrV, dNotV, dIf, dNil, dCons, dTup, dLst, dCB, d1, dIx, dNoPart, dPart, dSl, dCut, dNeg, dLen, dTupOf, dListOf, dSorted, dSum, dAll, dAny, dInt, dAbs, dMax, dMin, dIsi, isT, dNext, dSeq, dBrk, dCont, dNever, dExpr, dRet, dRetN, dIfS, dAsg, dPutI, dI0, dI, dIsN, dNotN, dSeqI, dRng1, dRng2, dRngDn, dEnumI, dZipI, dYes, dCall, dLM, dAppend, dExtend, dReverse, dInsert, dAugI, dRg1, dRg2, dTupRg, dLstRg, dNewK, dNewT, ↓S0_, ↓S1_, ↓S2_, ↓S3_, ↓S4_, ↓S5_, ↓S6_, List.map_cons, List.map_nil, List.length_cons, List.length_nil, List.replicate, List.cons_append, List.nil_append, Nat.reduceAdd, Nat.reduceSub, Nat.zero_add, List.getElem?_cons_zero, List.getElem?_cons_succ, Option.some.injEq, exists_eq_left, exists_eq_left', List.set_cons_zero, List.set_cons_succ, wipeD, D.int.injEq, D.bl.injEq, D.str.injEq, D.ref.injEq, D.tup.injEq, D.ty.injEq, true_and, and_true, forall_const, forall_eq', forall_eq, mt_int, mt_bool, mt_str, mt_tuple, mt_list, mt_dict, st_int_int, st_int_bool, st_int_str, st_int_tuple, st_int_list, st_int_dict, st_bool_int, st_bool_bool, st_bool_str, st_bool_tuple, st_bool_list, st_bool_dict, st_str_int, st_str_bool, st_str_str, st_str_tuple, st_str_list, st_str_dict, st_tuple_int, st_tuple_bool, st_tuple_str, st_tuple_tuple, st_tuple_list, st_tuple_dict, st_list_int, st_list_bool, st_list_str, st_list_tuple, st_list_list, st_list_dict, st_dict_int, st_dict_bool, st_dict_str, st_dict_tuple, st_dict_list, st_dict_dict, eq_self, Bool.true_eq_false, Bool.false_eq_true, false_implies, true_implies, implies_true, decide_eq_true_eq, decide_eq_false_iff_not, Bool.not_true, Bool.not_false, Bool.not_eq_true, Bool.not_eq_false, Bool.not_eq_true', Bool.not_eq_false', not_true_eq_false, not_false_eq_true, false_and, and_false, or_false, false_or, reduceCtorEq, ↓exLSu, ↓exDKu, ↓exDKd, ↓exLSd, ↓exLu, ↓dIxRu, ↓dPutu, ↓dGetAu, ↓dEq_int, ↓dNe_int, ↓dEq_bl, ↓dNe_bl, ↓dEq_str, ↓dNe_str, ↓dAdd_int, ↓exAt10, ↓exIx10, ↓exAt20, ↓exIx20, ↓exAt21, ↓exIx21, ↓exAt30, ↓exIx30, ↓exAt31, ↓exIx31, ↓exAt32, ↓exIx32, ↓exAt40, ↓exIx40, ↓exAt41, ↓exIx41, ↓exAt42, ↓exIx42, ↓exAt43, ↓exIx43, ↓exAt50, ↓exIx50, ↓exAt51, ↓exIx51, ↓exAt52, ↓exIx52, ↓exAt53, ↓exIx53, ↓exAt54, ↓exIx54, ↓exAt60, ↓exIx60, ↓exAt61, ↓exIx61, ↓exAt62, ↓exIx62, ↓exAt63, ↓exIx63, ↓exAt64, ↓exIx64, ↓exAt65, ↓exIx65, up_up, false_or, or_false, ↓exAtM, ↓dFlag_bl, ↓exBl, ↓exInt, ↓exRef, ↓dVar0, ↓dAug0, ↓dSet0, ↓dTgN0, ↓dTgW0, ↓dVar1, ↓dAug1, ↓dSet1, ↓dTgN1, ↓dTgW1, ↓dVar2, ↓dAug2, ↓dSet2, ↓dTgN2, ↓dTgW2, ↓dVar3, ↓dAug3, ↓dSet3, ↓dTgN3, ↓dTgW3, ↓dVar4, ↓dAug4, ↓dSet4, ↓dTgN4, ↓dTgW4, ↓dVar5, ↓dAug5, ↓dSet5, ↓dTgN5, ↓dTgW5, ↓dVar6, ↓dAug6, ↓dSet6, ↓dTgN6, ↓dTgW6, ↓dVar7, ↓dAug7, ↓dSet7, ↓dTgN7, ↓dTgW7, ↓dVar8, ↓dAug8, ↓dSet8, ↓dTgN8, ↓dTgW8, ↓dVar9, ↓dAug9, ↓dSet9, ↓dTgN9, ↓dTgW9, ↓dVar10, ↓dAug10, ↓dSet10, ↓dTgN10, ↓dTgW10, ↓dVar11, ↓dAug11, ↓dSet11, ↓dTgN11, ↓dTgW11, ↓dVar12, ↓dAug12, ↓dSet12, ↓dTgN12, ↓dTgW12, ↓dVar13, ↓dAug13, ↓dSet13, ↓dTgN13, ↓dTgW13, ↓dVar14, ↓dAug14, ↓dSet14, ↓dTgN14, ↓dTgW14, ↓dVar15, ↓dAug15, ↓dSet15, ↓dTgN15, ↓dTgW15, ↓dVar16, ↓dAug16, ↓dSet16, ↓dTgN16, ↓dTgW16, ↓dVar17, ↓dAug17, ↓dSet17, ↓dTgN17, ↓dTgW17, ↓dVar18, ↓dAug18, ↓dSet18, ↓dTgN18, ↓dTgW18, ↓dVar19, ↓dAug19, ↓dSet19, ↓dTgN19, ↓dTgW19, ↓dTg_t2, ↓dTg_t3, ↓exGetM, ↓exSumU, nD, plD, rwD, ↓dAdd_tup, ↓dAdd_ref, dSIndex, dInS, dKeysI, dValsI, dItemsI, dMulS, dEqK, dNeK, dClrK, dCntS]
  have hl : s.cps.toList.length ≤ 8 := by rw [Array.length_toList]; exact p2
  refine ⟨by rw [List.length_map]; exact Nat.le_trans hl (by decide), lcM (fun c => D.str ⟨#[c]⟩) (fun _ => D.bl true) s.cps.toList rfl (fun l c t pre acc P2 e hP2 => ?_) (fun f hf => ?_)⟩
  · have hc := hs.low c (by rw [e]; simp)
    subst t1; subst u1
    simp (config := {failIfUnchanged := false}) only [dC, dOp, dTest, dChain, dAnd, dOr, dNot, dAndV, dOrV, dNotV, dIf, dNil, dCons, dTup, dLst, dCB, d1, dIx, dNoPart, dPart, dSl, dCut, dNeg, dLen, dTupOf, dListOf, dSorted, dSum, dAll, dAny, dInt, dAbs, dMax, dMin, dIsi, isT, dNext, dSeq, dBrk, dCont, dNever, dExpr, dRet, dRetN, dIfS, dAsg, dPutI, dI0, dI, dIsN, dNotN, dSeqI, dRng1, dRng2, dRngDn, dEnumI, dZipI, dYes, dCall, dLM, dAppend, dExtend, dReverse, dInsert, dAugI, dRg1, dRg2, dTupRg, dLstRg, dNewK, dNewT, ↓S0_, ↓S1_, ↓S2_, ↓S3_, ↓S4_, ↓S5_, ↓S6_, List.map_cons, List.map_nil, List.length_cons, List.length_nil, List.replicate, List.cons_append, List.nil_append, Nat.reduceAdd, Nat.reduceSub, Nat.zero_add, List.getElem?_cons_zero, List.getElem?_cons_succ, Option.some.injEq, exists_eq_left, exists_eq_left', List.set_cons_zero, List.set_cons_succ, wipeD, D.int.injEq, D.bl.injEq, D.str.injEq, D.ref.injEq, D.tup.injEq, D.ty.injEq, true_and, and_true, forall_const, forall_eq', forall_eq, mt_int, mt_bool, mt_str, mt_tuple, mt_list, mt_dict, st_int_int, st_int_bool, st_int_str, st_int_tuple, st_int_list, st_int_dict, st_bool_int, st_bool_bool, st_bool_str, st_bool_tuple, st_bool_list, st_bool_dict, st_str_int, st_str_bool, st_str_str, st_str_tuple, st_str_list, st_str_dict, st_tuple_int, st_tuple_bool, st_tuple_str, st_tuple_tuple, st_tuple_list, st_tuple_dict, st_list_int, st_list_bool, st_list_str, st_list_tuple, st_list_list, st_list_dict, st_dict_int, st_dict_bool, st_dict_str, st_dict_tuple, st_dict_list, st_dict_dict, eq_self, Bool.true_eq_false, Bool.false_eq_true, false_implies, true_implies, implies_true, decide_eq_true_eq, decide_eq_false_iff_not, Bool.not_true, Bool.not_false, Bool.not_eq_true, Bool.not_eq_false, Bool.not_eq_true', Bool.not_eq_false', not_true_eq_false, not_false_eq_true, false_and, and_false, or_false, false_or, reduceCtorEq, ↓exLSu, ↓exDKu, ↓exDKd, ↓exLSd, ↓exLu, ↓dIxRu, ↓dPutu, ↓dGetAu, ↓dEq_int, ↓dNe_int, ↓dEq_bl, ↓dNe_bl, ↓dEq_str, ↓dNe_str, ↓dAdd_int, ↓exAt10, ↓exIx10, ↓exAt20, ↓exIx20, ↓exAt21, ↓exIx21, ↓exAt30, ↓exIx30, ↓exAt31, ↓exIx31, ↓exAt32, ↓exIx32, ↓exAt40, ↓exIx40, ↓exAt41, ↓exIx41, ↓exAt42, ↓exIx42, ↓exAt43, ↓exIx43, ↓exAt50, ↓exIx50, ↓exAt51, ↓exIx51, ↓exAt52, ↓exIx52, ↓exAt53, ↓exIx53, ↓exAt54, ↓exIx54, ↓exAt60, ↓exIx60, ↓exAt61, ↓exIx61, ↓exAt62, ↓exIx62, ↓exAt63, ↓exIx63, ↓exAt64, ↓exIx64, ↓exAt65, ↓exIx65, up_up, false_or, or_false, ↓exAtM, ↓dFlag_bl, ↓exBl, ↓exInt, ↓exRef, ↓dVar0, ↓dAug0, ↓dSet0, ↓dTgN0, ↓dTgW0, ↓dVar1, ↓dAug1, ↓dSet1, ↓dTgN1, ↓dTgW1, ↓dVar2, ↓dAug2, ↓dSet2, ↓dTgN2, ↓dTgW2, ↓dVar3, ↓dAug3, ↓dSet3, ↓dTgN3, ↓dTgW3, ↓dVar4, ↓dAug4, ↓dSet4, ↓dTgN4, ↓dTgW4, ↓dVar5, ↓dAug5, ↓dSet5, ↓dTgN5, ↓dTgW5, ↓dVar6, ↓dAug6, ↓dSet6, ↓dTgN6, ↓dTgW6, ↓dVar7, ↓dAug7, ↓dSet7, ↓dTgN7, ↓dTgW7, ↓dVar8, ↓dAug8, ↓dSet8, ↓dTgN8, ↓dTgW8, ↓dVar9, ↓dAug9, ↓dSet9, ↓dTgN9, ↓dTgW9, ↓dVar10, ↓dAug10, ↓dSet10, ↓dTgN10, ↓dTgW10, ↓dVar11, ↓dAug11, ↓dSet11, ↓dTgN11, ↓dTgW11, ↓dVar12, ↓dAug12, ↓dSet12, ↓dTgN12, ↓dTgW12, ↓dVar13, ↓dAug13, ↓dSet13, ↓dTgN13, ↓dTgW13, ↓dVar14, ↓dAug14, ↓dSet14, ↓dTgN14, ↓dTgW14, ↓dVar15, ↓dAug15, ↓dSet15, ↓dTgN15, ↓dTgW15, ↓dVar16, ↓dAug16, ↓dSet16, ↓dTgN16, ↓dTgW16, ↓dVar17, ↓dAug17, ↓dSet17, ↓dTgN17, ↓dTgW17, ↓dVar18, ↓dAug18, ↓dSet18, ↓dTgN18, ↓dTgW18, ↓dVar19, ↓dAug19, ↓dSet19, ↓dTgN19, ↓dTgW19, ↓dTg_t2, ↓dTg_t3, ↓exGetM, ↓exSumU, nD, plD, rwD, ↓dAdd_tup, ↓dAdd_ref, dSIndex, dInS, dKeysI, dValsI, dItemsI, dMulS, dEqK, dNeK, dClrK, dCntS]
    refine ⟨c, _, rfl, rfl, ?_⟩
    rw [decide_eq_true (abc hc)]
    exact sb0 hP2
  · rw [h1]
    clear h1 t1 u1
    simp (config := {failIfUnchanged := false}) only [dC, dOp, dTest, dChain, dAnd, dOr, dNot, dAndV, dOrV, dNotV, dIf, dNil, dCons, dTup, dLst, dCB, d1, dIx, dNoPart, dPart, dSl, dCut, dNeg, dLen, dTupOf, dListOf, dSorted, dSum, dAll, dAny, dInt, dAbs, dMax, dMin, dIsi, isT, dNext, dSeq, dBrk, dCont, dNever, dExpr, dRet, dRetN, dIfS, dAsg, dPutI, dI0, dI, dIsN, dNotN, dSeqI, dRng1, dRng2, dRngDn, dEnumI, dZipI, dYes, dCall, dLM, dAppend, dExtend, dReverse, dInsert, dAugI, dRg1, dRg2, dTupRg, dLstRg, dNewK, dNewT, ↓S0_, ↓S1_, ↓S2_, ↓S3_, ↓S4_, ↓S5_, ↓S6_, List.map_cons, List.map_nil, List.length_cons, List.length_nil, List.replicate, List.cons_append, List.nil_append, Nat.reduceAdd, Nat.reduceSub, Nat.zero_add, List.getElem?_cons_zero, List.getElem?_cons_succ, Option.some.injEq, exists_eq_left, exists_eq_left', List.set_cons_zero, List.set_cons_succ, wipeD, D.int.injEq, D.bl.injEq, D.str.injEq, D.ref.injEq, D.tup.injEq, D.ty.injEq, true_and, and_true, forall_const, forall_eq', forall_eq, mt_int, mt_bool, mt_str, mt_tuple, mt_list, mt_dict, st_int_int, st_int_bool, st_int_str, st_int_tuple, st_int_list, st_int_dict, st_bool_int, st_bool_bool, st_bool_str, st_bool_tuple, st_bool_list, st_bool_dict, st_str_int, st_str_bool, st_str_str, st_str_tuple, st_str_list, st_str_dict, st_tuple_int, st_tuple_bool, st_tuple_str, st_tuple_tuple, st_tuple_list, st_tuple_dict, st_list_int, st_list_bool, st_list_str, st_list_tuple, st_list_list, st_list_dict, st_dict_int, st_dict_bool, st_dict_str, st_dict_tuple, st_dict_list, st_dict_dict, eq_self, Bool.true_eq_false, Bool.false_eq_true, false_implies, true_implies, implies_true, decide_eq_true_eq, decide_eq_false_iff_not, Bool.not_true, Bool.not_false, Bool.not_eq_true, Bool.not_eq_false, Bool.not_eq_true', Bool.not_eq_false', not_true_eq_false, not_false_eq_true, false_and, and_false, or_false, false_or, reduceCtorEq, ↓exLSu, ↓exDKu, ↓exDKd, ↓exLSd, ↓exLu, ↓dIxRu, ↓dPutu, ↓dGetAu, ↓dEq_int, ↓dNe_int, ↓dEq_bl, ↓dNe_bl, ↓dEq_str, ↓dNe_str, ↓dAdd_int, ↓exAt10, ↓exIx10, ↓exAt20, ↓exIx20, ↓exAt21, ↓exIx21, ↓exAt30, ↓exIx30, ↓exAt31, ↓exIx31, ↓exAt32, ↓exIx32, ↓exAt40, ↓exIx40, ↓exAt41, ↓exIx41, ↓exAt42, ↓exIx42, ↓exAt43, ↓exIx43, ↓exAt50, ↓exIx50, ↓exAt51, ↓exIx51, ↓exAt52, ↓exIx52, ↓exAt53, ↓exIx53, ↓exAt54, ↓exIx54, ↓exAt60, ↓exIx60, ↓exAt61, ↓exIx61, ↓exAt62, ↓exIx62, ↓exAt63, ↓exIx63, ↓exAt64, ↓exIx64, ↓exAt65, ↓exIx65, up_up, false_or, or_false, ↓exAtM, ↓dFlag_bl, ↓exBl, ↓exInt, ↓exRef, ↓dVar0, ↓dAug0, ↓dSet0, ↓dTgN0, ↓dTgW0, ↓dVar1, ↓dAug1, ↓dSet1, ↓dTgN1, ↓dTgW1, ↓dVar2, ↓dAug2, ↓dSet2, ↓dTgN2, ↓dTgW2, ↓dVar3, ↓dAug3, ↓dSet3, ↓dTgN3, ↓dTgW3, ↓dVar4, ↓dAug4, ↓dSet4, ↓dTgN4, ↓dTgW4, ↓dVar5, ↓dAug5, ↓dSet5, ↓dTgN5, ↓dTgW5, ↓dVar6, ↓dAug6, ↓dSet6, ↓dTgN6, ↓dTgW6, ↓dVar7, ↓dAug7, ↓dSet7, ↓dTgN7, ↓dTgW7, ↓dVar8, ↓dAug8, ↓dSet8, ↓dTgN8, ↓dTgW8, ↓dVar9, ↓dAug9, ↓dSet9, ↓dTgN9, ↓dTgW9, ↓dVar10, ↓dAug10, ↓dSet10, ↓dTgN10, ↓dTgW10, ↓dVar11, ↓dAug11, ↓dSet11, ↓dTgN11, ↓dTgW11, ↓dVar12, ↓dAug12, ↓dSet12, ↓dTgN12, ↓dTgW12, ↓dVar13, ↓dAug13, ↓dSet13, ↓dTgN13, ↓dTgW13, ↓dVar14, ↓dAug14, ↓dSet14, ↓dTgN14, ↓dTgW14, ↓dVar15, ↓dAug15, ↓dSet15, ↓dTgN15, ↓dTgW15, ↓dVar16, ↓dAug16, ↓dSet16, ↓dTgN16, ↓dTgW16, ↓dVar17, ↓dAug17, ↓dSet17, ↓dTgN17, ↓dTgW17, ↓dVar18, ↓dAug18, ↓dSet18, ↓dTgN18, ↓dTgW18, ↓dVar19, ↓dAug19, ↓dSet19, ↓dTgN19, ↓dTgW19, ↓dTg_t2, ↓dTg_t3, ↓exGetM, ↓exSumU, nD, plD, rwD, ↓dAdd_tup, ↓dAdd_ref, dSIndex, dInS, dKeysI, dValsI, dItemsI, dMulS, dEqK, dNeK, dClrK, dCntS, LS_up]
    refine ⟨s.cps.toList.map fun _ => true, by rw [List.map_map]; rfl, ?_⟩
    rw [show (s.cps.toList.map fun _ => true).all id = true by rw [List.all_map]; exact List.all_eq_true.mpr fun _ _ => rfl]
    exact (Sub.new hf (by intro _ z; cases z)).dn h
theorem pr_is_growth (G : Gv K mg) : Pr P w K mg base "is_growth" 2 ["thing"] (S1 fun x M Q => ∃ p g, x = .ref p ∧ M p = some (.dK (gD g)) ∧ Grw g ∧ Q (.bl true) M) := by
  refine (pr3 (k := 1) G.d_is_growth bi_is_growth sc_is_growth S1n (fun f cdv A outer s H E hr => (b_cons (s_if (PW3.pt (w_or (t_not (t_val (e_callB cd_isi (by rfl) G.b_isinstance rfl (a_cons (e_var 0) (a_cons (e_ty (by rfl) G.b_dict rfl) a_nil))))) (w_or1 (t_not (t_chain od_le od_le e_int (e_callB cd_len (by rfl) G.b_len rfl (a_cons (e_var 0) a_nil)) (e_gintP G.c_MOST_KINDS (by rfl))))))) (b_one (s_ret e_bl)) b_nil)
      (b_cons (s_lock (s_for PassesOwn.never rfl (i_items (e_var 0)) (g_t2 rfl (g_nm 1 sc_is_growth.nd) (g_nm 2 sc_is_growth.nd))
      (b_cons (s_if (PW3.pt (w_or (t_not (t_val (e_callP (pr_is_small G) (hr.mono (by decide)) (by rfl) pass0 (a_cons (e_var 1) a_nil)))) (w_or (t_not (t_val (e_callB cd_isi (by rfl) G.b_isinstance rfl (a_cons (e_var 2) (a_cons (e_ty (by rfl) G.b_tuple rfl) a_nil))))) (w_or1 (t_cmp od_gt (e_callB cd_len (by rfl) G.b_len rfl (a_cons (e_var 2) a_nil)) (e_gintP G.c_MOST_LEFT (by rfl))))))) (b_one (s_ret e_bl)) b_nil)
      (b_one (s_if (t_not (t_val (e_callB (cd_all rfl) (by rfl) G.b_all rfl (a_cons (e_lc (own := [("other", 3)]) rfl sc_is_growth.nd (i_seq (e_var 2)) (blkOk_by (by rfl)) (fun _ _ _ _ _ => (g_nm 3 sc_is_growth.nd)) (fun _ _ _ _ _ => ts_nil) (fun _ _ _ _ _ => (e_and (e_callB cd_isi (by rfl) G.b_isinstance rfl (a_cons (e_var 3) (a_cons (e_ty (by rfl) G.b_str rfl) a_nil))) (e_one (e_cmp (od_in (hu_of hr)) (e_var 3) (e_var 0)))))) a_nil)))) (b_one (s_ret e_bl)) b_nil)))))
      (b_one (s_ret e_bl)))))) ?_
  rintro _ M Q E ⟨_, rfl, p, g, rfl, hp, hg, h⟩ H rep
  refine ⟨M, rep, fun _ h => h, ?_⟩
  simp only [startD, List.map_cons, List.map_nil, List.length_cons, List.length_nil, Nat.reduceAdd, Nat.reduceSub, Nat.zero_add, List.replicate, List.cons_append, List.nil_append]; simp (config := {failIfUnchanged := false}) only [dC, dOp, dTest, dChain, dAnd, dOr, dNot, dAndV, dOrV, dNotV, dIf, dNil, dCons, dTup, dLst, dCB, d1, dIx, dNoPart, dPart, dSl, dCut, dNeg, dLen, dTupOf, dListOf, dSorted, dSum, dAll, dAny, dInt, dAbs, dMax, dMin, dIsi, isT, dNext, dSeq, dBrk, dCont, dNever, dExpr, dRet, dRetN, dIfS, dAsg, dPutI, dI0, dI, dIsN, dNotN, dSeqI, dRng1, dRng2, dRngDn, dEnumI, dZipI, dYes, dCall, dLM, dAppend, dExtend, dReverse, dInsert, dAugI, dRg1, dRg2, dTupRg, dLstRg, dNewK, dNewT, ↓S0_, ↓S1_, ↓S2_, ↓S3_, ↓S4_, ↓S5_, ↓S6_, List.map_cons, List.map_nil, List.length_cons, List.length_nil, List.replicate, List.cons_append, List.nil_append, Nat.reduceAdd, Nat.reduceSub, Nat.zero_add, List.getElem?_cons_zero, List.getElem?_cons_succ, Option.some.injEq, exists_eq_left, exists_eq_left', List.set_cons_zero, List.set_cons_succ, wipeD, D.int.injEq, D.bl.injEq, D.str.injEq, D.ref.injEq, D.tup.injEq, D.ty.injEq, true_and, and_true, forall_const, forall_eq', forall_eq, mt_int, mt_bool, mt_str, mt_tuple, mt_list, mt_dict, st_int_int, st_int_bool, st_int_str, st_int_tuple, st_int_list, st_int_dict, st_bool_int, st_bool_bool, st_bool_str, st_bool_tuple, st_bool_list, st_bool_dict, st_str_int, st_str_bool, st_str_str, st_str_tuple, st_str_list, st_str_dict, st_tuple_int, st_tuple_bool, st_tuple_str, st_tuple_tuple, st_tuple_list, st_tuple_dict, st_list_int, st_list_bool, st_list_str, st_list_tuple, st_list_list, st_list_dict, st_dict_int, st_dict_bool, st_dict_str, st_dict_tuple, st_dict_list, st_dict_dict, eq_self, Bool.true_eq_false, Bool.false_eq_true, false_implies, true_implies, implies_true, decide_eq_true_eq, decide_eq_false_iff_not, Bool.not_true, Bool.not_false, Bool.not_eq_true, Bool.not_eq_false, Bool.not_eq_true', Bool.not_eq_false', not_true_eq_false, not_false_eq_true, false_and, and_false, or_false, false_or, reduceCtorEq, ↓exLSu, ↓exDKu, ↓exDKd, ↓exLSd, ↓exLu, ↓dIxRu, ↓dPutu, ↓dGetAu, ↓dEq_int, ↓dNe_int, ↓dEq_bl, ↓dNe_bl, ↓dEq_str, ↓dNe_str, ↓dAdd_int, ↓exAt10, ↓exIx10, ↓exAt20, ↓exIx20, ↓exAt21, ↓exIx21, ↓exAt30, ↓exIx30, ↓exAt31, ↓exIx31, ↓exAt32, ↓exIx32, ↓exAt40, ↓exIx40, ↓exAt41, ↓exIx41, ↓exAt42, ↓exIx42, ↓exAt43, ↓exIx43, ↓exAt50, ↓exIx50, ↓exAt51, ↓exIx51, ↓exAt52, ↓exIx52, ↓exAt53, ↓exIx53, ↓exAt54, ↓exIx54, ↓exAt60, ↓exIx60, ↓exAt61, ↓exIx61, ↓exAt62, ↓exIx62, ↓exAt63, ↓exIx63, ↓exAt64, ↓exIx64, ↓exAt65, ↓exIx65, up_up, false_or, or_false, ↓exAtM, ↓dFlag_bl, ↓exBl, ↓exInt, ↓exRef, ↓dVar0, ↓dAug0, ↓dSet0, ↓dTgN0, ↓dTgW0, ↓dVar1, ↓dAug1, ↓dSet1, ↓dTgN1, ↓dTgW1, ↓dVar2, ↓dAug2, ↓dSet2, ↓dTgN2, ↓dTgW2, ↓dVar3, ↓dAug3, ↓dSet3, ↓dTgN3, ↓dTgW3, ↓dVar4, ↓dAug4, ↓dSet4, ↓dTgN4, ↓dTgW4, ↓dVar5, ↓dAug5, ↓dSet5, ↓dTgN5, ↓dTgW5, ↓dVar6, ↓dAug6, ↓dSet6, ↓dTgN6, ↓dTgW6, ↓dVar7, ↓dAug7, ↓dSet7, ↓dTgN7, ↓dTgW7, ↓dVar8, ↓dAug8, ↓dSet8, ↓dTgN8, ↓dTgW8, ↓dVar9, ↓dAug9, ↓dSet9, ↓dTgN9, ↓dTgW9, ↓dVar10, ↓dAug10, ↓dSet10, ↓dTgN10, ↓dTgW10, ↓dVar11, ↓dAug11, ↓dSet11, ↓dTgN11, ↓dTgW11, ↓dVar12, ↓dAug12, ↓dSet12, ↓dTgN12, ↓dTgW12, ↓dVar13, ↓dAug13, ↓dSet13, ↓dTgN13, ↓dTgW13, ↓dVar14, ↓dAug14, ↓dSet14, ↓dTgN14, ↓dTgW14, ↓dVar15, ↓dAug15, ↓dSet15, ↓dTgN15, ↓dTgW15, ↓dVar16, ↓dAug16, ↓dSet16, ↓dTgN16, ↓dTgW16, ↓dVar17, ↓dAug17, ↓dSet17, ↓dTgN17, ↓dTgW17, ↓dVar18, ↓dAug18, ↓dSet18, ↓dTgN18, ↓dTgW18, ↓dVar19, ↓dAug19, ↓dSet19, ↓dTgN19, ↓dTgW19, ↓dTg_t2, ↓dTg_t3, ↓exGetM, ↓exSumU, nD, plD, rwD, ↓dAdd_tup, ↓dAdd_ref, dSIndex, dInS, dKeysI, dValsI, dItemsI, dMulS, dEqK, dNeK, dClrK, dCntS]
  have q1 := hg.pos
  have q2 := hg.few
  refine .inr ⟨_, hp, .inr ⟨_, .inl hp, fun _ => ⟨fun z => by rw [gD_len] at z; omega, fun _ => ⟨p, _, hp, fun od ws => ?_⟩⟩, fun z => by rw [gD_len] at z; omega⟩⟩
  have hz : up M p (.dKz (gD g) od ws) p = some (.dKz (gD g) od ws) := up_same
  have hback : up (up M p (.dKz (gD g) od ws)) p (.dK (gD g)) = M := by rw [up_up]; exact up_self hp
  generalize up M p (.dKz (gD g) od ws) = Mz at *
  refine dFor_g fun F1 T1 h1 t1 => ?_; simp only [dFor, dC, dOp, dTest, dChain, dAnd, dOr, dNot, dAndV, dOrV, dNotV, dIf, dNil, dCons, dTup, dLst, dCB, d1, dIx, dNoPart, dPart, dSl, dCut, dNeg, dLen, dTupOf, dListOf, dSorted, dSum, dAll, dAny, dInt, dAbs, dMax, dMin, dIsi, isT, dNext, dSeq, dBrk, dCont, dNever, dExpr, dRet, dRetN, dIfS, dAsg, dPutI, dI0, dI, dIsN, dNotN, dSeqI, dRng1, dRng2, dRngDn, dEnumI, dZipI, dYes, dCall, dLM, dAppend, dExtend, dReverse, dInsert, dAugI, dRg1, dRg2, dTupRg, dLstRg, dNewK, dNewT, ↓S0_, ↓S1_, ↓S2_, ↓S3_, ↓S4_, ↓S5_, ↓S6_, List.map_cons, List.map_nil, List.length_cons, List.length_nil, List.replicate, List.cons_append, List.nil_append, Nat.reduceAdd, Nat.reduceSub, Nat.zero_add, List.getElem?_cons_zero, List.getElem?_cons_succ, Option.some.injEq, exists_eq_left, exists_eq_left', List.set_cons_zero, List.set_cons_succ, wipeD, D.int.injEq, D.bl.injEq, D.str.injEq, D.ref.injEq, D.tup.injEq, D.ty.injEq, true_and, and_true, forall_const, forall_eq', forall_eq, mt_int, mt_bool, mt_str, mt_tuple, mt_list, mt_dict, st_int_int, st_int_bool, st_int_str, st_int_tuple, st_int_list, st_int_dict, st_bool_int, st_bool_bool, st_bool_str, st_bool_tuple, st_bool_list, st_bool_dict, st_str_int, st_str_bool, st_str_str, st_str_tuple, st_str_list, st_str_dict, st_tuple_int, st_tuple_bool, st_tuple_str, st_tuple_tuple, st_tuple_list, st_tuple_dict, st_list_int, st_list_bool, st_list_str, st_list_tuple, st_list_list, st_list_dict, st_dict_int, st_dict_bool, st_dict_str, st_dict_tuple, st_dict_list, st_dict_dict, eq_self, Bool.true_eq_false, Bool.false_eq_true, false_implies, true_implies, implies_true, decide_eq_true_eq, decide_eq_false_iff_not, Bool.not_true, Bool.not_false, Bool.not_eq_true, Bool.not_eq_false, Bool.not_eq_true', Bool.not_eq_false', not_true_eq_false, not_false_eq_true, false_and, and_false, or_false, false_or, reduceCtorEq, ↓exLSu, ↓exDKu, ↓exDKd, ↓exLSd, ↓exLu, ↓dIxRu, ↓dPutu, ↓dGetAu, ↓dEq_int, ↓dNe_int, ↓dEq_bl, ↓dNe_bl, ↓dEq_str, ↓dNe_str, ↓dAdd_int, ↓exAt10, ↓exIx10, ↓exAt20, ↓exIx20, ↓exAt21, ↓exIx21, ↓exAt30, ↓exIx30, ↓exAt31, ↓exIx31, ↓exAt32, ↓exIx32, ↓exAt40, ↓exIx40, ↓exAt41, ↓exIx41, ↓exAt42, ↓exIx42, ↓exAt43, ↓exIx43, ↓exAt50, ↓exIx50, ↓exAt51, ↓exIx51, ↓exAt52, ↓exIx52, ↓exAt53, ↓exIx53, ↓exAt54, ↓exIx54, ↓exAt60, ↓exIx60, ↓exAt61, ↓exIx61, ↓exAt62, ↓exIx62, ↓exAt63, ↓exIx63, ↓exAt64, ↓exIx64, ↓exAt65, ↓exIx65, up_up, false_or, or_false, ↓exAtM, ↓dFlag_bl, ↓exBl, ↓exInt, ↓exRef, ↓dVar0, ↓dAug0, ↓dSet0, ↓dTgN0, ↓dTgW0, ↓dVar1, ↓dAug1, ↓dSet1, ↓dTgN1, ↓dTgW1, ↓dVar2, ↓dAug2, ↓dSet2, ↓dTgN2, ↓dTgW2, ↓dVar3, ↓dAug3, ↓dSet3, ↓dTgN3, ↓dTgW3, ↓dVar4, ↓dAug4, ↓dSet4, ↓dTgN4, ↓dTgW4, ↓dVar5, ↓dAug5, ↓dSet5, ↓dTgN5, ↓dTgW5, ↓dVar6, ↓dAug6, ↓dSet6, ↓dTgN6, ↓dTgW6, ↓dVar7, ↓dAug7, ↓dSet7, ↓dTgN7, ↓dTgW7, ↓dVar8, ↓dAug8, ↓dSet8, ↓dTgN8, ↓dTgW8, ↓dVar9, ↓dAug9, ↓dSet9, ↓dTgN9, ↓dTgW9, ↓dVar10, ↓dAug10, ↓dSet10, ↓dTgN10, ↓dTgW10, ↓dVar11, ↓dAug11, ↓dSet11, ↓dTgN11, ↓dTgW11, ↓dVar12, ↓dAug12, ↓dSet12, ↓dTgN12, ↓dTgW12, ↓dVar13, ↓dAug13, ↓dSet13, ↓dTgN13, ↓dTgW13, ↓dVar14, ↓dAug14, ↓dSet14, ↓dTgN14, ↓dTgW14, ↓dVar15, ↓dAug15, ↓dSet15, ↓dTgN15, ↓dTgW15, ↓dVar16, ↓dAug16, ↓dSet16, ↓dTgN16, ↓dTgW16, ↓dVar17, ↓dAug17, ↓dSet17, ↓dTgN17, ↓dTgW17, ↓dVar18, ↓dAug18, ↓dSet18, ↓dTgN18, ↓dTgW18, ↓dVar19, ↓dAug19, ↓dSet19, ↓dTgN19, ↓dTgW19, ↓dTg_t2, ↓dTg_t3, ↓exGetM, ↓exSumU, nD, plD, rwD, ↓dAdd_tup, ↓dAdd_ref, dSIndex, dInS, dKeysI, dValsI, dItemsI, dMulS, dEqK, dNeK, dClrK, dCntS]
  simp (config := {failIfUnchanged := false}) only [dC, dOp, dTest, dChain, dAnd, dOr, dNot, dAndV, dOrV, dNotV, dIf, dNil, dCons, dTup, dLst, dCB, d1, dIx, dNoPart, dPart, dSl, dCut, dNeg, dLen, dTupOf, dListOf, dSorted, dSum, dAll, dAny, dInt, dAbs, dMax, dMin, dIsi, isT, dNext, dSeq, dBrk, dCont, dNever, dExpr, dRet, dRetN, dIfS, dAsg, dPutI, dI0, dI, dIsN, dNotN, dSeqI, dRng1, dRng2, dRngDn, dEnumI, dZipI, dYes, dCall, dLM, dAppend, dExtend, dReverse, dInsert, dAugI, dRg1, dRg2, dTupRg, dLstRg, dNewK, dNewT, ↓S0_, ↓S1_, ↓S2_, ↓S3_, ↓S4_, ↓S5_, ↓S6_, List.map_cons, List.map_nil, List.length_cons, List.length_nil, List.replicate, List.cons_append, List.nil_append, Nat.reduceAdd, Nat.reduceSub, Nat.zero_add, List.getElem?_cons_zero, List.getElem?_cons_succ, Option.some.injEq, exists_eq_left, exists_eq_left', List.set_cons_zero, List.set_cons_succ, wipeD, D.int.injEq, D.bl.injEq, D.str.injEq, D.ref.injEq, D.tup.injEq, D.ty.injEq, true_and, and_true, forall_const, forall_eq', forall_eq, mt_int, mt_bool, mt_str, mt_tuple, mt_list, mt_dict, st_int_int, st_int_bool, st_int_str, st_int_tuple, st_int_list, st_int_dict, st_bool_int, st_bool_bool, st_bool_str, st_bool_tuple, st_bool_list, st_bool_dict, st_str_int, st_str_bool, st_str_str, st_str_tuple, st_str_list, st_str_dict, st_tuple_int, st_tuple_bool, st_tuple_str, st_tuple_tuple, st_tuple_list, st_tuple_dict, st_list_int, st_list_bool, st_list_str, st_list_tuple, st_list_list, st_list_dict, st_dict_int, st_dict_bool, st_dict_str, st_dict_tuple, st_dict_list, st_dict_dict, eq_self, Bool.true_eq_false, Bool.false_eq_true, false_implies, true_implies, implies_true, decide_eq_true_eq, decide_eq_false_iff_not, Bool.not_true, Bool.not_false, Bool.not_eq_true, Bool.not_eq_false, Bool.not_eq_true', Bool.not_eq_false', not_true_eq_false, not_false_eq_true, false_and, and_false, or_false, false_or, reduceCtorEq, ↓exLSu, ↓exDKu, ↓exDKd, ↓exLSd, ↓exLu, ↓dIxRu, ↓dPutu, ↓dGetAu, ↓dEq_int, ↓dNe_int, ↓dEq_bl, ↓dNe_bl, ↓dEq_str, ↓dNe_str, ↓dAdd_int, ↓exAt10, ↓exIx10, ↓exAt20, ↓exIx20, ↓exAt21, ↓exIx21, ↓exAt30, ↓exIx30, ↓exAt31, ↓exIx31, ↓exAt32, ↓exIx32, ↓exAt40, ↓exIx40, ↓exAt41, ↓exIx41, ↓exAt42, ↓exIx42, ↓exAt43, ↓exIx43, ↓exAt50, ↓exIx50, ↓exAt51, ↓exIx51, ↓exAt52, ↓exIx52, ↓exAt53, ↓exIx53, ↓exAt54, ↓exIx54, ↓exAt60, ↓exIx60, ↓exAt61, ↓exIx61, ↓exAt62, ↓exIx62, ↓exAt63, ↓exIx63, ↓exAt64, ↓exIx64, ↓exAt65, ↓exIx65, up_up, false_or, or_false, ↓exAtM, ↓dFlag_bl, ↓exBl, ↓exInt, ↓exRef, ↓dVar0, ↓dAug0, ↓dSet0, ↓dTgN0, ↓dTgW0, ↓dVar1, ↓dAug1, ↓dSet1, ↓dTgN1, ↓dTgW1, ↓dVar2, ↓dAug2, ↓dSet2, ↓dTgN2, ↓dTgW2, ↓dVar3, ↓dAug3, ↓dSet3, ↓dTgN3, ↓dTgW3, ↓dVar4, ↓dAug4, ↓dSet4, ↓dTgN4, ↓dTgW4, ↓dVar5, ↓dAug5, ↓dSet5, ↓dTgN5, ↓dTgW5, ↓dVar6, ↓dAug6, ↓dSet6, ↓dTgN6, ↓dTgW6, ↓dVar7, ↓dAug7, ↓dSet7, ↓dTgN7, ↓dTgW7, ↓dVar8, ↓dAug8, ↓dSet8, ↓dTgN8, ↓dTgW8, ↓dVar9, ↓dAug9, ↓dSet9, ↓dTgN9, ↓dTgW9, ↓dVar10, ↓dAug10, ↓dSet10, ↓dTgN10, ↓dTgW10, ↓dVar11, ↓dAug11, ↓dSet11, ↓dTgN11, ↓dTgW11, ↓dVar12, ↓dAug12, ↓dSet12, ↓dTgN12, ↓dTgW12, ↓dVar13, ↓dAug13, ↓dSet13, ↓dTgN13, ↓dTgW13, ↓dVar14, ↓dAug14, ↓dSet14, ↓dTgN14, ↓dTgW14, ↓dVar15, ↓dAug15, ↓dSet15, ↓dTgN15, ↓dTgW15, ↓dVar16, ↓dAug16, ↓dSet16, ↓dTgN16, ↓dTgW16, ↓dVar17, ↓dAug17, ↓dSet17, ↓dTgN17, ↓dTgW17, ↓dVar18, ↓dAug18, ↓dSet18, ↓dTgN18, ↓dTgW18, ↓dVar19, ↓dAug19, ↓dSet19, ↓dTgN19, ↓dTgW19, ↓dTg_t2, ↓dTg_t3, ↓exGetM, ↓exSumU, nD, plD, rwD, ↓dAdd_tup, ↓dAdd_ref, dSIndex, dInS, dKeysI, dValsI, dItemsI, dMulS, dEqK, dNeK, dClrK, dCntS]
  refine ⟨gD g, od, ws, hz, forL (fun e : Str × List Str => D.tup [D.str e.1, D.tup (e.2.map D.str)]) g (fun l δ M' => M' = Mz ∧ ∃ a b : Option D, δ = [some (.ref p), a, b, none]) (by unfold gD; rw [List.map_map]; rfl) ⟨rfl, _, _, rfl⟩ ?_ ?_⟩
  · rintro l e t δ' M' pre P' ee ⟨rfl, a, b, rfl⟩ hP
    have he : e ∈ g := by rw [ee]; simp
    obtain ⟨e4, eo⟩ := hg.left e he
    refine ⟨hz, ?_⟩
    subst t1
    simp (config := {failIfUnchanged := false}) only [dC, dOp, dTest, dChain, dAnd, dOr, dNot, dAndV, dOrV, dNotV, dIf, dNil, dCons, dTup, dLst, dCB, d1, dIx, dNoPart, dPart, dSl, dCut, dNeg, dLen, dTupOf, dListOf, dSorted, dSum, dAll, dAny, dInt, dAbs, dMax, dMin, dIsi, isT, dNext, dSeq, dBrk, dCont, dNever, dExpr, dRet, dRetN, dIfS, dAsg, dPutI, dI0, dI, dIsN, dNotN, dSeqI, dRng1, dRng2, dRngDn, dEnumI, dZipI, dYes, dCall, dLM, dAppend, dExtend, dReverse, dInsert, dAugI, dRg1, dRg2, dTupRg, dLstRg, dNewK, dNewT, ↓S0_, ↓S1_, ↓S2_, ↓S3_, ↓S4_, ↓S5_, ↓S6_, List.map_cons, List.map_nil, List.length_cons, List.length_nil, List.replicate, List.cons_append, List.nil_append, Nat.reduceAdd, Nat.reduceSub, Nat.zero_add, List.getElem?_cons_zero, List.getElem?_cons_succ, Option.some.injEq, exists_eq_left, exists_eq_left', List.set_cons_zero, List.set_cons_succ, wipeD, D.int.injEq, D.bl.injEq, D.str.injEq, D.ref.injEq, D.tup.injEq, D.ty.injEq, true_and, and_true, forall_const, forall_eq', forall_eq, mt_int, mt_bool, mt_str, mt_tuple, mt_list, mt_dict, st_int_int, st_int_bool, st_int_str, st_int_tuple, st_int_list, st_int_dict, st_bool_int, st_bool_bool, st_bool_str, st_bool_tuple, st_bool_list, st_bool_dict, st_str_int, st_str_bool, st_str_str, st_str_tuple, st_str_list, st_str_dict, st_tuple_int, st_tuple_bool, st_tuple_str, st_tuple_tuple, st_tuple_list, st_tuple_dict, st_list_int, st_list_bool, st_list_str, st_list_tuple, st_list_list, st_list_dict, st_dict_int, st_dict_bool, st_dict_str, st_dict_tuple, st_dict_list, st_dict_dict, eq_self, Bool.true_eq_false, Bool.false_eq_true, false_implies, true_implies, implies_true, decide_eq_true_eq, decide_eq_false_iff_not, Bool.not_true, Bool.not_false, Bool.not_eq_true, Bool.not_eq_false, Bool.not_eq_true', Bool.not_eq_false', not_true_eq_false, not_false_eq_true, false_and, and_false, or_false, false_or, reduceCtorEq, ↓exLSu, ↓exDKu, ↓exDKd, ↓exLSd, ↓exLu, ↓dIxRu, ↓dPutu, ↓dGetAu, ↓dEq_int, ↓dNe_int, ↓dEq_bl, ↓dNe_bl, ↓dEq_str, ↓dNe_str, ↓dAdd_int, ↓exAt10, ↓exIx10, ↓exAt20, ↓exIx20, ↓exAt21, ↓exIx21, ↓exAt30, ↓exIx30, ↓exAt31, ↓exIx31, ↓exAt32, ↓exIx32, ↓exAt40, ↓exIx40, ↓exAt41, ↓exIx41, ↓exAt42, ↓exIx42, ↓exAt43, ↓exIx43, ↓exAt50, ↓exIx50, ↓exAt51, ↓exIx51, ↓exAt52, ↓exIx52, ↓exAt53, ↓exIx53, ↓exAt54, ↓exIx54, ↓exAt60, ↓exIx60, ↓exAt61, ↓exIx61, ↓exAt62, ↓exIx62, ↓exAt63, ↓exIx63, ↓exAt64, ↓exIx64, ↓exAt65, ↓exIx65, up_up, false_or, or_false, ↓exAtM, ↓dFlag_bl, ↓exBl, ↓exInt, ↓exRef, ↓dVar0, ↓dAug0, ↓dSet0, ↓dTgN0, ↓dTgW0, ↓dVar1, ↓dAug1, ↓dSet1, ↓dTgN1, ↓dTgW1, ↓dVar2, ↓dAug2, ↓dSet2, ↓dTgN2, ↓dTgW2, ↓dVar3, ↓dAug3, ↓dSet3, ↓dTgN3, ↓dTgW3, ↓dVar4, ↓dAug4, ↓dSet4, ↓dTgN4, ↓dTgW4, ↓dVar5, ↓dAug5, ↓dSet5, ↓dTgN5, ↓dTgW5, ↓dVar6, ↓dAug6, ↓dSet6, ↓dTgN6, ↓dTgW6, ↓dVar7, ↓dAug7, ↓dSet7, ↓dTgN7, ↓dTgW7, ↓dVar8, ↓dAug8, ↓dSet8, ↓dTgN8, ↓dTgW8, ↓dVar9, ↓dAug9, ↓dSet9, ↓dTgN9, ↓dTgW9, ↓dVar10, ↓dAug10, ↓dSet10, ↓dTgN10, ↓dTgW10, ↓dVar11, ↓dAug11, ↓dSet11, ↓dTgN11, ↓dTgW11, ↓dVar12, ↓dAug12, ↓dSet12, ↓dTgN12, ↓dTgW12, ↓dVar13, ↓dAug13, ↓dSet13, ↓dTgN13, ↓dTgW13, ↓dVar14, ↓dAug14, ↓dSet14, ↓dTgN14, ↓dTgW14, ↓dVar15, ↓dAug15, ↓dSet15, ↓dTgN15, ↓dTgW15, ↓dVar16, ↓dAug16, ↓dSet16, ↓dTgN16, ↓dTgW16, ↓dVar17, ↓dAug17, ↓dSet17, ↓dTgN17, ↓dTgW17, ↓dVar18, ↓dAug18, ↓dSet18, ↓dTgN18, ↓dTgW18, ↓dVar19, ↓dAug19, ↓dSet19, ↓dTgN19, ↓dTgW19, ↓dTg_t2, ↓dTg_t3, ↓exGetM, ↓exSumU, nD, plD, rwD, ↓dAdd_tup, ↓dAdd_ref, dSIndex, dInS, dKeysI, dValsI, dItemsI, dMulS, dEqK, dNeK, dClrK, dCntS]
    refine ⟨hg.sml e he, fun z => by rw [List.length_map] at z; omega, fun _ => ?_⟩
    refine dLc_g fun F2 T2 U2 h2 t2 u2 => ?_; simp only [dLc, dC, dOp, dTest, dChain, dAnd, dOr, dNot, dAndV, dOrV, dNotV, dIf, dNil, dCons, dTup, dLst, dCB, d1, dIx, dNoPart, dPart, dSl, dCut, dNeg, dLen, dTupOf, dListOf, dSorted, dSum, dAll, dAny, dInt, dAbs, dMax, dMin, dIsi, isT, dNext, dSeq, dBrk, dCont, dNever, dExpr, dRet, dRetN, dIfS, dAsg, dPutI, dI0, dI, dIsN, dNotN, dSeqI, dRng1, dRng2, dRngDn, dEnumI, dZipI, dYes, dCall, dLM, dAppend, dExtend, dReverse, dInsert, dAugI, dRg1, dRg2, dTupRg, dLstRg, dNewK, dNewT, ↓S0_, ↓S1_, ↓S2_, ↓S3_, ↓S4_, ↓S5_, ↓S6_, List.map_cons, List.map_nil, List.length_cons, List.length_nil, List.replicate, List.cons_append, List.nil_append, Nat.reduceAdd, Nat.reduceSub, Nat.zero_add, List.getElem?_cons_zero, List.getElem?_cons_succ, Option.some.injEq, exists_eq_left, exists_eq_left', List.set_cons_zero, List.set_cons_succ, wipeD, D.int.injEq, D.bl.injEq, D.str.injEq, D.ref.injEq, D.tup.injEq, D.ty.injEq, true_and, and_true, forall_const, forall_eq', forall_eq, mt_int, mt_bool, mt_str, mt_tuple, mt_list, mt_dict, st_int_int, st_int_bool, st_int_str, st_int_tuple, st_int_list, st_int_dict, st_bool_int, st_bool_bool, st_bool_str, st_bool_tuple, st_bool_list, st_bool_dict, st_str_int, st_str_bool, st_str_str, st_str_tuple, st_str_list, st_str_dict, st_tuple_int, st_tuple_bool, st_tuple_str, st_tuple_tuple, st_tuple_list, st_tuple_dict, st_list_int, st_list_bool, st_list_str, st_list_tuple, st_list_list, st_list_dict, st_dict_int, st_dict_bool, st_dict_str, st_dict_tuple, st_dict_list, st_dict_dict, eq_self, Bool.true_eq_false, Bool.false_eq_true, false_implies, true_implies, implies_true, decide_eq_true_eq, decide_eq_false_iff_not, Bool.not_true, Bool.not_false, Bool.not_eq_true, Bool.not_eq_false, Bool.not_eq_true', Bool.not_eq_false', not_true_eq_false, not_false_eq_true, false_and, and_false, or_false, false_or, reduceCtorEq, ↓exLSu, ↓exDKu, ↓exDKd, ↓exLSd, ↓exLu, ↓dIxRu, ↓dPutu, ↓dGetAu, ↓dEq_int, ↓dNe_int, ↓dEq_bl, ↓dNe_bl, ↓dEq_str, ↓dNe_str, ↓dAdd_int, ↓exAt10, ↓exIx10, ↓exAt20, ↓exIx20, ↓exAt21, ↓exIx21, ↓exAt30, ↓exIx30, ↓exAt31, ↓exIx31, ↓exAt32, ↓exIx32, ↓exAt40, ↓exIx40, ↓exAt41, ↓exIx41, ↓exAt42, ↓exIx42, ↓exAt43, ↓exIx43, ↓exAt50, ↓exIx50, ↓exAt51, ↓exIx51, ↓exAt52, ↓exIx52, ↓exAt53, ↓exIx53, ↓exAt54, ↓exIx54, ↓exAt60, ↓exIx60, ↓exAt61, ↓exIx61, ↓exAt62, ↓exIx62, ↓exAt63, ↓exIx63, ↓exAt64, ↓exIx64, ↓exAt65, ↓exIx65, up_up, false_or, or_false, ↓exAtM, ↓dFlag_bl, ↓exBl, ↓exInt, ↓exRef, ↓dVar0, ↓dAug0, ↓dSet0, ↓dTgN0, ↓dTgW0, ↓dVar1, ↓dAug1, ↓dSet1, ↓dTgN1, ↓dTgW1, ↓dVar2, ↓dAug2, ↓dSet2, ↓dTgN2, ↓dTgW2, ↓dVar3, ↓dAug3, ↓dSet3, ↓dTgN3, ↓dTgW3, ↓dVar4, ↓dAug4, ↓dSet4, ↓dTgN4, ↓dTgW4, ↓dVar5, ↓dAug5, ↓dSet5, ↓dTgN5, ↓dTgW5, ↓dVar6, ↓dAug6, ↓dSet6, ↓dTgN6, ↓dTgW6, ↓dVar7, ↓dAug7, ↓dSet7, ↓dTgN7, ↓dTgW7, ↓dVar8, ↓dAug8, ↓dSet8, ↓dTgN8, ↓dTgW8, ↓dVar9, ↓dAug9, ↓dSet9, ↓dTgN9, ↓dTgW9, ↓dVar10, ↓dAug10, ↓dSet10, ↓dTgN10, ↓dTgW10, ↓dVar11, ↓dAug11, ↓dSet11, ↓dTgN11, ↓dTgW11, ↓dVar12, ↓dAug12, ↓dSet12, ↓dTgN12, ↓dTgW12, ↓dVar13, ↓dAug13, ↓dSet13, ↓dTgN13, ↓dTgW13, ↓dVar14, ↓dAug14, ↓dSet14, ↓dTgN14, ↓dTgW14, ↓dVar15, ↓dAug15, ↓dSet15, ↓dTgN15, ↓dTgW15, ↓dVar16, ↓dAug16, ↓dSet16, ↓dTgN16, ↓dTgW16, ↓dVar17, ↓dAug17, ↓dSet17, ↓dTgN17, ↓dTgW17, ↓dVar18, ↓dAug18, ↓dSet18, ↓dTgN18, ↓dTgW18, ↓dVar19, ↓dAug19, ↓dSet19, ↓dTgN19, ↓dTgW19, ↓dTg_t2, ↓dTg_t3, ↓exGetM, ↓exSumU, nD, plD, rwD, ↓dAdd_tup, ↓dAdd_ref, dSIndex, dInS, dKeysI, dValsI, dItemsI, dMulS, dEqK, dNeK, dClrK, dCntS]
    refine ⟨by rw [List.length_map]; exact Nat.le_trans e4 (by decide), lcM D.str (fun _ => D.bl true) e.2 rfl (fun l2 o t2' pre2 acc P2 e2 hP2 => ?_) (fun f hf => ?_)⟩
    · have ho := eo o (by rw [e2]; simp)
      subst t2; subst u2
      simp (config := {failIfUnchanged := false}) only [dC, dOp, dTest, dChain, dAnd, dOr, dNot, dAndV, dOrV, dNotV, dIf, dNil, dCons, dTup, dLst, dCB, d1, dIx, dNoPart, dPart, dSl, dCut, dNeg, dLen, dTupOf, dListOf, dSorted, dSum, dAll, dAny, dInt, dAbs, dMax, dMin, dIsi, isT, dNext, dSeq, dBrk, dCont, dNever, dExpr, dRet, dRetN, dIfS, dAsg, dPutI, dI0, dI, dIsN, dNotN, dSeqI, dRng1, dRng2, dRngDn, dEnumI, dZipI, dYes, dCall, dLM, dAppend, dExtend, dReverse, dInsert, dAugI, dRg1, dRg2, dTupRg, dLstRg, dNewK, dNewT, ↓S0_, ↓S1_, ↓S2_, ↓S3_, ↓S4_, ↓S5_, ↓S6_, List.map_cons, List.map_nil, List.length_cons, List.length_nil, List.replicate, List.cons_append, List.nil_append, Nat.reduceAdd, Nat.reduceSub, Nat.zero_add, List.getElem?_cons_zero, List.getElem?_cons_succ, Option.some.injEq, exists_eq_left, exists_eq_left', List.set_cons_zero, List.set_cons_succ, wipeD, D.int.injEq, D.bl.injEq, D.str.injEq, D.ref.injEq, D.tup.injEq, D.ty.injEq, true_and, and_true, forall_const, forall_eq', forall_eq, mt_int, mt_bool, mt_str, mt_tuple, mt_list, mt_dict, st_int_int, st_int_bool, st_int_str, st_int_tuple, st_int_list, st_int_dict, st_bool_int, st_bool_bool, st_bool_str, st_bool_tuple, st_bool_list, st_bool_dict, st_str_int, st_str_bool, st_str_str, st_str_tuple, st_str_list, st_str_dict, st_tuple_int, st_tuple_bool, st_tuple_str, st_tuple_tuple, st_tuple_list, st_tuple_dict, st_list_int, st_list_bool, st_list_str, st_list_tuple, st_list_list, st_list_dict, st_dict_int, st_dict_bool, st_dict_str, st_dict_tuple, st_dict_list, st_dict_dict, eq_self, Bool.true_eq_false, Bool.false_eq_true, false_implies, true_implies, implies_true, decide_eq_true_eq, decide_eq_false_iff_not, Bool.not_true, Bool.not_false, Bool.not_eq_true, Bool.not_eq_false, Bool.not_eq_true', Bool.not_eq_false', not_true_eq_false, not_false_eq_true, false_and, and_false, or_false, false_or, reduceCtorEq, ↓exLSu, ↓exDKu, ↓exDKd, ↓exLSd, ↓exLu, ↓dIxRu, ↓dPutu, ↓dGetAu, ↓dEq_int, ↓dNe_int, ↓dEq_bl, ↓dNe_bl, ↓dEq_str, ↓dNe_str, ↓dAdd_int, ↓exAt10, ↓exIx10, ↓exAt20, ↓exIx20, ↓exAt21, ↓exIx21, ↓exAt30, ↓exIx30, ↓exAt31, ↓exIx31, ↓exAt32, ↓exIx32, ↓exAt40, ↓exIx40, ↓exAt41, ↓exIx41, ↓exAt42, ↓exIx42, ↓exAt43, ↓exIx43, ↓exAt50, ↓exIx50, ↓exAt51, ↓exIx51, ↓exAt52, ↓exIx52, ↓exAt53, ↓exIx53, ↓exAt54, ↓exIx54, ↓exAt60, ↓exIx60, ↓exAt61, ↓exIx61, ↓exAt62, ↓exIx62, ↓exAt63, ↓exIx63, ↓exAt64, ↓exIx64, ↓exAt65, ↓exIx65, up_up, false_or, or_false, ↓exAtM, ↓dFlag_bl, ↓exBl, ↓exInt, ↓exRef, ↓dVar0, ↓dAug0, ↓dSet0, ↓dTgN0, ↓dTgW0, ↓dVar1, ↓dAug1, ↓dSet1, ↓dTgN1, ↓dTgW1, ↓dVar2, ↓dAug2, ↓dSet2, ↓dTgN2, ↓dTgW2, ↓dVar3, ↓dAug3, ↓dSet3, ↓dTgN3, ↓dTgW3, ↓dVar4, ↓dAug4, ↓dSet4, ↓dTgN4, ↓dTgW4, ↓dVar5, ↓dAug5, ↓dSet5, ↓dTgN5, ↓dTgW5, ↓dVar6, ↓dAug6, ↓dSet6, ↓dTgN6, ↓dTgW6, ↓dVar7, ↓dAug7, ↓dSet7, ↓dTgN7, ↓dTgW7, ↓dVar8, ↓dAug8, ↓dSet8, ↓dTgN8, ↓dTgW8, ↓dVar9, ↓dAug9, ↓dSet9, ↓dTgN9, ↓dTgW9, ↓dVar10, ↓dAug10, ↓dSet10, ↓dTgN10, ↓dTgW10, ↓dVar11, ↓dAug11, ↓dSet11, ↓dTgN11, ↓dTgW11, ↓dVar12, ↓dAug12, ↓dSet12, ↓dTgN12, ↓dTgW12, ↓dVar13, ↓dAug13, ↓dSet13, ↓dTgN13, ↓dTgW13, ↓dVar14, ↓dAug14, ↓dSet14, ↓dTgN14, ↓dTgW14, ↓dVar15, ↓dAug15, ↓dSet15, ↓dTgN15, ↓dTgW15, ↓dVar16, ↓dAug16, ↓dSet16, ↓dTgN16, ↓dTgW16, ↓dVar17, ↓dAug17, ↓dSet17, ↓dTgN17, ↓dTgW17, ↓dVar18, ↓dAug18, ↓dSet18, ↓dTgN18, ↓dTgW18, ↓dVar19, ↓dAug19, ↓dSet19, ↓dTgN19, ↓dTgW19, ↓dTg_t2, ↓dTg_t3, ↓exGetM, ↓exSumU, nD, plD, rwD, ↓dAdd_tup, ↓dAdd_ref, dSIndex, dInS, dKeysI, dValsI, dItemsI, dMulS, dEqK, dNeK, dClrK, dCntS]
      refine .inr (.inr (.inl ⟨p, gD g, .inr o, rfl, rfl, .inr ⟨od, ws, hz⟩, ?_⟩))
      rw [val_g hg ho]
      exact sb0 hP2
    · rw [h2]
      clear h2 t2 u2
      simp (config := {failIfUnchanged := false}) only [dC, dOp, dTest, dChain, dAnd, dOr, dNot, dAndV, dOrV, dNotV, dIf, dNil, dCons, dTup, dLst, dCB, d1, dIx, dNoPart, dPart, dSl, dCut, dNeg, dLen, dTupOf, dListOf, dSorted, dSum, dAll, dAny, dInt, dAbs, dMax, dMin, dIsi, isT, dNext, dSeq, dBrk, dCont, dNever, dExpr, dRet, dRetN, dIfS, dAsg, dPutI, dI0, dI, dIsN, dNotN, dSeqI, dRng1, dRng2, dRngDn, dEnumI, dZipI, dYes, dCall, dLM, dAppend, dExtend, dReverse, dInsert, dAugI, dRg1, dRg2, dTupRg, dLstRg, dNewK, dNewT, ↓S0_, ↓S1_, ↓S2_, ↓S3_, ↓S4_, ↓S5_, ↓S6_, List.map_cons, List.map_nil, List.length_cons, List.length_nil, List.replicate, List.cons_append, List.nil_append, Nat.reduceAdd, Nat.reduceSub, Nat.zero_add, List.getElem?_cons_zero, List.getElem?_cons_succ, Option.some.injEq, exists_eq_left, exists_eq_left', List.set_cons_zero, List.set_cons_succ, wipeD, D.int.injEq, D.bl.injEq, D.str.injEq, D.ref.injEq, D.tup.injEq, D.ty.injEq, true_and, and_true, forall_const, forall_eq', forall_eq, mt_int, mt_bool, mt_str, mt_tuple, mt_list, mt_dict, st_int_int, st_int_bool, st_int_str, st_int_tuple, st_int_list, st_int_dict, st_bool_int, st_bool_bool, st_bool_str, st_bool_tuple, st_bool_list, st_bool_dict, st_str_int, st_str_bool, st_str_str, st_str_tuple, st_str_list, st_str_dict, st_tuple_int, st_tuple_bool, st_tuple_str, st_tuple_tuple, st_tuple_list, st_tuple_dict, st_list_int, st_list_bool, st_list_str, st_list_tuple, st_list_list, st_list_dict, st_dict_int, st_dict_bool, st_dict_str, st_dict_tuple, st_dict_list, st_dict_dict, eq_self, Bool.true_eq_false, Bool.false_eq_true, false_implies, true_implies, implies_true, decide_eq_true_eq, decide_eq_false_iff_not, Bool.not_true, Bool.not_false, Bool.not_eq_true, Bool.not_eq_false, Bool.not_eq_true', Bool.not_eq_false', not_true_eq_false, not_false_eq_true, false_and, and_false, or_false, false_or, reduceCtorEq, ↓exLSu, ↓exDKu, ↓exDKd, ↓exLSd, ↓exLu, ↓dIxRu, ↓dPutu, ↓dGetAu, ↓dEq_int, ↓dNe_int, ↓dEq_bl, ↓dNe_bl, ↓dEq_str, ↓dNe_str, ↓dAdd_int, ↓exAt10, ↓exIx10, ↓exAt20, ↓exIx20, ↓exAt21, ↓exIx21, ↓exAt30, ↓exIx30, ↓exAt31, ↓exIx31, ↓exAt32, ↓exIx32, ↓exAt40, ↓exIx40, ↓exAt41, ↓exIx41, ↓exAt42, ↓exIx42, ↓exAt43, ↓exIx43, ↓exAt50, ↓exIx50, ↓exAt51, ↓exIx51, ↓exAt52, ↓exIx52, ↓exAt53, ↓exIx53, ↓exAt54, ↓exIx54, ↓exAt60, ↓exIx60, ↓exAt61, ↓exIx61, ↓exAt62, ↓exIx62, ↓exAt63, ↓exIx63, ↓exAt64, ↓exIx64, ↓exAt65, ↓exIx65, up_up, false_or, or_false, ↓exAtM, ↓dFlag_bl, ↓exBl, ↓exInt, ↓exRef, ↓dVar0, ↓dAug0, ↓dSet0, ↓dTgN0, ↓dTgW0, ↓dVar1, ↓dAug1, ↓dSet1, ↓dTgN1, ↓dTgW1, ↓dVar2, ↓dAug2, ↓dSet2, ↓dTgN2, ↓dTgW2, ↓dVar3, ↓dAug3, ↓dSet3, ↓dTgN3, ↓dTgW3, ↓dVar4, ↓dAug4, ↓dSet4, ↓dTgN4, ↓dTgW4, ↓dVar5, ↓dAug5, ↓dSet5, ↓dTgN5, ↓dTgW5, ↓dVar6, ↓dAug6, ↓dSet6, ↓dTgN6, ↓dTgW6, ↓dVar7, ↓dAug7, ↓dSet7, ↓dTgN7, ↓dTgW7, ↓dVar8, ↓dAug8, ↓dSet8, ↓dTgN8, ↓dTgW8, ↓dVar9, ↓dAug9, ↓dSet9, ↓dTgN9, ↓dTgW9, ↓dVar10, ↓dAug10, ↓dSet10, ↓dTgN10, ↓dTgW10, ↓dVar11, ↓dAug11, ↓dSet11, ↓dTgN11, ↓dTgW11, ↓dVar12, ↓dAug12, ↓dSet12, ↓dTgN12, ↓dTgW12, ↓dVar13, ↓dAug13, ↓dSet13, ↓dTgN13, ↓dTgW13, ↓dVar14, ↓dAug14, ↓dSet14, ↓dTgN14, ↓dTgW14, ↓dVar15, ↓dAug15, ↓dSet15, ↓dTgN15, ↓dTgW15, ↓dVar16, ↓dAug16, ↓dSet16, ↓dTgN16, ↓dTgW16, ↓dVar17, ↓dAug17, ↓dSet17, ↓dTgN17, ↓dTgW17, ↓dVar18, ↓dAug18, ↓dSet18, ↓dTgN18, ↓dTgW18, ↓dVar19, ↓dAug19, ↓dSet19, ↓dTgN19, ↓dTgW19, ↓dTg_t2, ↓dTg_t3, ↓exGetM, ↓exSumU, nD, plD, rwD, ↓dAdd_tup, ↓dAdd_ref, dSIndex, dInS, dKeysI, dValsI, dItemsI, dMulS, dEqK, dNeK, dClrK, dCntS, LS_up]
      refine ⟨e.2.map fun _ => true, by rw [List.map_map]; rfl, ?_⟩
      rw [show (e.2.map fun _ => true).all id = true by rw [List.all_map]; exact List.all_eq_true.mpr fun _ _ => rfl]
      exact ⟨nofun, fun _ => snb hf (hP _ _ ⟨rfl, _, _, rfl⟩)⟩
  · rintro δ' M' ⟨rfl, a, b, rfl⟩
    rw [h1]
    clear h1 t1
    simp (config := {failIfUnchanged := false}) only [dC, dOp, dTest, dChain, dAnd, dOr, dNot, dAndV, dOrV, dNotV, dIf, dNil, dCons, dTup, dLst, dCB, d1, dIx, dNoPart, dPart, dSl, dCut, dNeg, dLen, dTupOf, dListOf, dSorted, dSum, dAll, dAny, dInt, dAbs, dMax, dMin, dIsi, isT, dNext, dSeq, dBrk, dCont, dNever, dExpr, dRet, dRetN, dIfS, dAsg, dPutI, dI0, dI, dIsN, dNotN, dSeqI, dRng1, dRng2, dRngDn, dEnumI, dZipI, dYes, dCall, dLM, dAppend, dExtend, dReverse, dInsert, dAugI, dRg1, dRg2, dTupRg, dLstRg, dNewK, dNewT, ↓S0_, ↓S1_, ↓S2_, ↓S3_, ↓S4_, ↓S5_, ↓S6_, List.map_cons, List.map_nil, List.length_cons, List.length_nil, List.replicate, List.cons_append, List.nil_append, Nat.reduceAdd, Nat.reduceSub, Nat.zero_add, List.getElem?_cons_zero, List.getElem?_cons_succ, Option.some.injEq, exists_eq_left, exists_eq_left', List.set_cons_zero, List.set_cons_succ, wipeD, D.int.injEq, D.bl.injEq, D.str.injEq, D.ref.injEq, D.tup.injEq, D.ty.injEq, true_and, and_true, forall_const, forall_eq', forall_eq, mt_int, mt_bool, mt_str, mt_tuple, mt_list, mt_dict, st_int_int, st_int_bool, st_int_str, st_int_tuple, st_int_list, st_int_dict, st_bool_int, st_bool_bool, st_bool_str, st_bool_tuple, st_bool_list, st_bool_dict, st_str_int, st_str_bool, st_str_str, st_str_tuple, st_str_list, st_str_dict, st_tuple_int, st_tuple_bool, st_tuple_str, st_tuple_tuple, st_tuple_list, st_tuple_dict, st_list_int, st_list_bool, st_list_str, st_list_tuple, st_list_list, st_list_dict, st_dict_int, st_dict_bool, st_dict_str, st_dict_tuple, st_dict_list, st_dict_dict, eq_self, Bool.true_eq_false, Bool.false_eq_true, false_implies, true_implies, implies_true, decide_eq_true_eq, decide_eq_false_iff_not, Bool.not_true, Bool.not_false, Bool.not_eq_true, Bool.not_eq_false, Bool.not_eq_true', Bool.not_eq_false', not_true_eq_false, not_false_eq_true, false_and, and_false, or_false, false_or, reduceCtorEq, ↓exLSu, ↓exDKu, ↓exDKd, ↓exLSd, ↓exLu, ↓dIxRu, ↓dPutu, ↓dGetAu, ↓dEq_int, ↓dNe_int, ↓dEq_bl, ↓dNe_bl, ↓dEq_str, ↓dNe_str, ↓dAdd_int, ↓exAt10, ↓exIx10, ↓exAt20, ↓exIx20, ↓exAt21, ↓exIx21, ↓exAt30, ↓exIx30, ↓exAt31, ↓exIx31, ↓exAt32, ↓exIx32, ↓exAt40, ↓exIx40, ↓exAt41, ↓exIx41, ↓exAt42, ↓exIx42, ↓exAt43, ↓exIx43, ↓exAt50, ↓exIx50, ↓exAt51, ↓exIx51, ↓exAt52, ↓exIx52, ↓exAt53, ↓exIx53, ↓exAt54, ↓exIx54, ↓exAt60, ↓exIx60, ↓exAt61, ↓exIx61, ↓exAt62, ↓exIx62, ↓exAt63, ↓exIx63, ↓exAt64, ↓exIx64, ↓exAt65, ↓exIx65, up_up, false_or, or_false, ↓exAtM, ↓dFlag_bl, ↓exBl, ↓exInt, ↓exRef, ↓dVar0, ↓dAug0, ↓dSet0, ↓dTgN0, ↓dTgW0, ↓dVar1, ↓dAug1, ↓dSet1, ↓dTgN1, ↓dTgW1, ↓dVar2, ↓dAug2, ↓dSet2, ↓dTgN2, ↓dTgW2, ↓dVar3, ↓dAug3, ↓dSet3, ↓dTgN3, ↓dTgW3, ↓dVar4, ↓dAug4, ↓dSet4, ↓dTgN4, ↓dTgW4, ↓dVar5, ↓dAug5, ↓dSet5, ↓dTgN5, ↓dTgW5, ↓dVar6, ↓dAug6, ↓dSet6, ↓dTgN6, ↓dTgW6, ↓dVar7, ↓dAug7, ↓dSet7, ↓dTgN7, ↓dTgW7, ↓dVar8, ↓dAug8, ↓dSet8, ↓dTgN8, ↓dTgW8, ↓dVar9, ↓dAug9, ↓dSet9, ↓dTgN9, ↓dTgW9, ↓dVar10, ↓dAug10, ↓dSet10, ↓dTgN10, ↓dTgW10, ↓dVar11, ↓dAug11, ↓dSet11, ↓dTgN11, ↓dTgW11, ↓dVar12, ↓dAug12, ↓dSet12, ↓dTgN12, ↓dTgW12, ↓dVar13, ↓dAug13, ↓dSet13, ↓dTgN13, ↓dTgW13, ↓dVar14, ↓dAug14, ↓dSet14, ↓dTgN14, ↓dTgW14, ↓dVar15, ↓dAug15, ↓dSet15, ↓dTgN15, ↓dTgW15, ↓dVar16, ↓dAug16, ↓dSet16, ↓dTgN16, ↓dTgW16, ↓dVar17, ↓dAug17, ↓dSet17, ↓dTgN17, ↓dTgW17, ↓dVar18, ↓dAug18, ↓dSet18, ↓dTgN18, ↓dTgW18, ↓dVar19, ↓dAug19, ↓dSet19, ↓dTgN19, ↓dTgW19, ↓dTg_t2, ↓dTg_t3, ↓exGetM, ↓exSumU, nD, plD, rwD, ↓dAdd_tup, ↓dAdd_ref, dSIndex, dInS, dKeysI, dValsI, dItemsI, dMulS, dEqK, dNeK, dClrK, dCntS]
    refine ⟨hz, hz, ?_⟩
    rw [hback]
    exact dn0 h
theorem pr_check_growth (G : Gv K mg) : Pr P w K mg base "check_growth" 3 ["growth", "kind"] (S2 fun x y M Q => ∃ p g k, x = .ref p ∧ y = .str k ∧ M p = some (.dK (gD g)) ∧ Grw g ∧ k ∈ g.map (·.1) ∧ Q .non M) := by
  refine (pr3 (k := 2) G.d_check_growth bi_check_growth sc_check_growth S2n (fun f cdv A outer s H E hr => (b_cons (s_if (t_not (t_val (e_callP (pr_is_growth G) (hr.mono (by decide)) (by rfl) pass0 (a_cons (e_var 0) a_nil)))) (b_one s_never) b_nil)
      (b_one (s_if (PW3.pt (w_or (t_not (t_val (e_callB cd_isi (by rfl) G.b_isinstance rfl (a_cons (e_var 1) (a_cons (e_ty (by rfl) G.b_str rfl) a_nil))))) (w_or1 (t_cmp (od_notin (hu_of hr)) (e_var 1) (e_var 0))))) (b_one s_never) b_nil))))) ?_
  rintro _ M Q E ⟨_, _, rfl, p, g, k, rfl, rfl, hp, hg, hk, h⟩ H rep
  refine ⟨M, rep, fun _ h => h, ?_⟩
  simp only [startD, List.map_cons, List.map_nil, List.length_cons, List.length_nil, Nat.reduceAdd, Nat.reduceSub, Nat.zero_add, List.replicate, List.cons_append, List.nil_append]; simp (config := {failIfUnchanged := false}) only [dC, dOp, dTest, dChain, dAnd, dOr, dNot, dAndV, dOrV, dNotV, dIf, dNil, dCons, dTup, dLst, dCB, d1, dIx, dNoPart, dPart, dSl, dCut, dNeg, dLen, dTupOf, dListOf, dSorted, dSum, dAll, dAny, dInt, dAbs, dMax, dMin, dIsi, isT, dNext, dSeq, dBrk, dCont, dNever, dExpr, dRet, dRetN, dIfS, dAsg, dPutI, dI0, dI, dIsN, dNotN, dSeqI, dRng1, dRng2, dRngDn, dEnumI, dZipI, dYes, dCall, dLM, dAppend, dExtend, dReverse, dInsert, dAugI, dRg1, dRg2, dTupRg, dLstRg, dNewK, dNewT, ↓S0_, ↓S1_, ↓S2_, ↓S3_, ↓S4_, ↓S5_, ↓S6_, List.map_cons, List.map_nil, List.length_cons, List.length_nil, List.replicate, List.cons_append, List.nil_append, Nat.reduceAdd, Nat.reduceSub, Nat.zero_add, List.getElem?_cons_zero, List.getElem?_cons_succ, Option.some.injEq, exists_eq_left, exists_eq_left', List.set_cons_zero, List.set_cons_succ, wipeD, D.int.injEq, D.bl.injEq, D.str.injEq, D.ref.injEq, D.tup.injEq, D.ty.injEq, true_and, and_true, forall_const, forall_eq', forall_eq, mt_int, mt_bool, mt_str, mt_tuple, mt_list, mt_dict, st_int_int, st_int_bool, st_int_str, st_int_tuple, st_int_list, st_int_dict, st_bool_int, st_bool_bool, st_bool_str, st_bool_tuple, st_bool_list, st_bool_dict, st_str_int, st_str_bool, st_str_str, st_str_tuple, st_str_list, st_str_dict, st_tuple_int, st_tuple_bool, st_tuple_str, st_tuple_tuple, st_tuple_list, st_tuple_dict, st_list_int, st_list_bool, st_list_str, st_list_tuple, st_list_list, st_list_dict, st_dict_int, st_dict_bool, st_dict_str, st_dict_tuple, st_dict_list, st_dict_dict, eq_self, Bool.true_eq_false, Bool.false_eq_true, false_implies, true_implies, implies_true, decide_eq_true_eq, decide_eq_false_iff_not, Bool.not_true, Bool.not_false, Bool.not_eq_true, Bool.not_eq_false, Bool.not_eq_true', Bool.not_eq_false', not_true_eq_false, not_false_eq_true, false_and, and_false, or_false, false_or, reduceCtorEq, ↓exLSu, ↓exDKu, ↓exDKd, ↓exLSd, ↓exLu, ↓dIxRu, ↓dPutu, ↓dGetAu, ↓dEq_int, ↓dNe_int, ↓dEq_bl, ↓dNe_bl, ↓dEq_str, ↓dNe_str, ↓dAdd_int, ↓exAt10, ↓exIx10, ↓exAt20, ↓exIx20, ↓exAt21, ↓exIx21, ↓exAt30, ↓exIx30, ↓exAt31, ↓exIx31, ↓exAt32, ↓exIx32, ↓exAt40, ↓exIx40, ↓exAt41, ↓exIx41, ↓exAt42, ↓exIx42, ↓exAt43, ↓exIx43, ↓exAt50, ↓exIx50, ↓exAt51, ↓exIx51, ↓exAt52, ↓exIx52, ↓exAt53, ↓exIx53, ↓exAt54, ↓exIx54, ↓exAt60, ↓exIx60, ↓exAt61, ↓exIx61, ↓exAt62, ↓exIx62, ↓exAt63, ↓exIx63, ↓exAt64, ↓exIx64, ↓exAt65, ↓exIx65, up_up, false_or, or_false, ↓exAtM, ↓dFlag_bl, ↓exBl, ↓exInt, ↓exRef, ↓dVar0, ↓dAug0, ↓dSet0, ↓dTgN0, ↓dTgW0, ↓dVar1, ↓dAug1, ↓dSet1, ↓dTgN1, ↓dTgW1, ↓dVar2, ↓dAug2, ↓dSet2, ↓dTgN2, ↓dTgW2, ↓dVar3, ↓dAug3, ↓dSet3, ↓dTgN3, ↓dTgW3, ↓dVar4, ↓dAug4, ↓dSet4, ↓dTgN4, ↓dTgW4, ↓dVar5, ↓dAug5, ↓dSet5, ↓dTgN5, ↓dTgW5, ↓dVar6, ↓dAug6, ↓dSet6, ↓dTgN6, ↓dTgW6, ↓dVar7, ↓dAug7, ↓dSet7, ↓dTgN7, ↓dTgW7, ↓dVar8, ↓dAug8, ↓dSet8, ↓dTgN8, ↓dTgW8, ↓dVar9, ↓dAug9, ↓dSet9, ↓dTgN9, ↓dTgW9, ↓dVar10, ↓dAug10, ↓dSet10, ↓dTgN10, ↓dTgW10, ↓dVar11, ↓dAug11, ↓dSet11, ↓dTgN11, ↓dTgW11, ↓dVar12, ↓dAug12, ↓dSet12, ↓dTgN12, ↓dTgW12, ↓dVar13, ↓dAug13, ↓dSet13, ↓dTgN13, ↓dTgW13, ↓dVar14, ↓dAug14, ↓dSet14, ↓dTgN14, ↓dTgW14, ↓dVar15, ↓dAug15, ↓dSet15, ↓dTgN15, ↓dTgW15, ↓dVar16, ↓dAug16, ↓dSet16, ↓dTgN16, ↓dTgW16, ↓dVar17, ↓dAug17, ↓dSet17, ↓dTgN17, ↓dTgW17, ↓dVar18, ↓dAug18, ↓dSet18, ↓dTgN18, ↓dTgW18, ↓dVar19, ↓dAug19, ↓dSet19, ↓dTgN19, ↓dTgW19, ↓dTg_t2, ↓dTg_t3, ↓exGetM, ↓exSumU, nD, plD, rwD, ↓dAdd_tup, ↓dAdd_ref, dSIndex, dInS, dKeysI, dValsI, dItemsI, dMulS, dEqK, dNeK, dClrK, dCntS]
  refine ⟨p, g, rfl, hp, hg, .inr (.inr (.inl ⟨p, gD g, .inr k, rfl, rfl, .inl hp, ?_⟩))⟩
  rw [val_g hg hk]
  exact ⟨nofun, fun _ => dn0 h⟩
theorem pr_check_number (G : Gv K mg) : Pr P w K mg base "check_number" 3 ["thing", "least", "most"] (S3 fun x a b M Q => ∃ i, x = .int i ∧ ∃ j, a = .int j ∧ ∃ k, b = .int k ∧ j ≤ i ∧ i ≤ k ∧ Q .non M) := by
  refine (pr3 (k := 2) G.d_check_number bi_check_number sc_check_number S3n (fun f cdv A outer s H E hr => (b_one (s_if (t_not (t_val (e_callP (pr_is_within G) (hr.mono (by decide)) (by rfl) pass0 (a_cons (e_var 0) (a_cons (e_var 1) (a_cons (e_var 2) a_nil)))))) (b_one s_never) b_nil)))) ?_
  rintro _ M Q E ⟨_, _, _, rfl, i, rfl, j, rfl, k, rfl, h1, h2, h⟩ H rep
  refine ⟨M, rep, fun _ h => h, ?_⟩
  simp only [startD, List.map_cons, List.map_nil, List.length_cons, List.length_nil, Nat.reduceAdd, Nat.reduceSub, Nat.zero_add, List.replicate, List.cons_append, List.nil_append]; simp (config := {failIfUnchanged := false}) only [dC, dOp, dTest, dChain, dAnd, dOr, dNot, dAndV, dOrV, dNotV, dIf, dNil, dCons, dTup, dLst, dCB, d1, dIx, dNoPart, dPart, dSl, dCut, dNeg, dLen, dTupOf, dListOf, dSorted, dSum, dAll, dAny, dInt, dAbs, dMax, dMin, dIsi, isT, dNext, dSeq, dBrk, dCont, dNever, dExpr, dRet, dRetN, dIfS, dAsg, dPutI, dI0, dI, dIsN, dNotN, dSeqI, dRng1, dRng2, dRngDn, dEnumI, dZipI, dYes, dCall, dLM, dAppend, dExtend, dReverse, dInsert, dAugI, dRg1, dRg2, dTupRg, dLstRg, dNewK, dNewT, ↓S0_, ↓S1_, ↓S2_, ↓S3_, ↓S4_, ↓S5_, ↓S6_, List.map_cons, List.map_nil, List.length_cons, List.length_nil, List.replicate, List.cons_append, List.nil_append, Nat.reduceAdd, Nat.reduceSub, Nat.zero_add, List.getElem?_cons_zero, List.getElem?_cons_succ, Option.some.injEq, exists_eq_left, exists_eq_left', List.set_cons_zero, List.set_cons_succ, wipeD, D.int.injEq, D.bl.injEq, D.str.injEq, D.ref.injEq, D.tup.injEq, D.ty.injEq, true_and, and_true, forall_const, forall_eq', forall_eq, mt_int, mt_bool, mt_str, mt_tuple, mt_list, mt_dict, st_int_int, st_int_bool, st_int_str, st_int_tuple, st_int_list, st_int_dict, st_bool_int, st_bool_bool, st_bool_str, st_bool_tuple, st_bool_list, st_bool_dict, st_str_int, st_str_bool, st_str_str, st_str_tuple, st_str_list, st_str_dict, st_tuple_int, st_tuple_bool, st_tuple_str, st_tuple_tuple, st_tuple_list, st_tuple_dict, st_list_int, st_list_bool, st_list_str, st_list_tuple, st_list_list, st_list_dict, st_dict_int, st_dict_bool, st_dict_str, st_dict_tuple, st_dict_list, st_dict_dict, eq_self, Bool.true_eq_false, Bool.false_eq_true, false_implies, true_implies, implies_true, decide_eq_true_eq, decide_eq_false_iff_not, Bool.not_true, Bool.not_false, Bool.not_eq_true, Bool.not_eq_false, Bool.not_eq_true', Bool.not_eq_false', not_true_eq_false, not_false_eq_true, false_and, and_false, or_false, false_or, reduceCtorEq, ↓exLSu, ↓exDKu, ↓exDKd, ↓exLSd, ↓exLu, ↓dIxRu, ↓dPutu, ↓dGetAu, ↓dEq_int, ↓dNe_int, ↓dEq_bl, ↓dNe_bl, ↓dEq_str, ↓dNe_str, ↓dAdd_int, ↓exAt10, ↓exIx10, ↓exAt20, ↓exIx20, ↓exAt21, ↓exIx21, ↓exAt30, ↓exIx30, ↓exAt31, ↓exIx31, ↓exAt32, ↓exIx32, ↓exAt40, ↓exIx40, ↓exAt41, ↓exIx41, ↓exAt42, ↓exIx42, ↓exAt43, ↓exIx43, ↓exAt50, ↓exIx50, ↓exAt51, ↓exIx51, ↓exAt52, ↓exIx52, ↓exAt53, ↓exIx53, ↓exAt54, ↓exIx54, ↓exAt60, ↓exIx60, ↓exAt61, ↓exIx61, ↓exAt62, ↓exIx62, ↓exAt63, ↓exIx63, ↓exAt64, ↓exIx64, ↓exAt65, ↓exIx65, up_up, false_or, or_false, ↓exAtM, ↓dFlag_bl, ↓exBl, ↓exInt, ↓exRef, ↓dVar0, ↓dAug0, ↓dSet0, ↓dTgN0, ↓dTgW0, ↓dVar1, ↓dAug1, ↓dSet1, ↓dTgN1, ↓dTgW1, ↓dVar2, ↓dAug2, ↓dSet2, ↓dTgN2, ↓dTgW2, ↓dVar3, ↓dAug3, ↓dSet3, ↓dTgN3, ↓dTgW3, ↓dVar4, ↓dAug4, ↓dSet4, ↓dTgN4, ↓dTgW4, ↓dVar5, ↓dAug5, ↓dSet5, ↓dTgN5, ↓dTgW5, ↓dVar6, ↓dAug6, ↓dSet6, ↓dTgN6, ↓dTgW6, ↓dVar7, ↓dAug7, ↓dSet7, ↓dTgN7, ↓dTgW7, ↓dVar8, ↓dAug8, ↓dSet8, ↓dTgN8, ↓dTgW8, ↓dVar9, ↓dAug9, ↓dSet9, ↓dTgN9, ↓dTgW9, ↓dVar10, ↓dAug10, ↓dSet10, ↓dTgN10, ↓dTgW10, ↓dVar11, ↓dAug11, ↓dSet11, ↓dTgN11, ↓dTgW11, ↓dVar12, ↓dAug12, ↓dSet12, ↓dTgN12, ↓dTgW12, ↓dVar13, ↓dAug13, ↓dSet13, ↓dTgN13, ↓dTgW13, ↓dVar14, ↓dAug14, ↓dSet14, ↓dTgN14, ↓dTgW14, ↓dVar15, ↓dAug15, ↓dSet15, ↓dTgN15, ↓dTgW15, ↓dVar16, ↓dAug16, ↓dSet16, ↓dTgN16, ↓dTgW16, ↓dVar17, ↓dAug17, ↓dSet17, ↓dTgN17, ↓dTgW17, ↓dVar18, ↓dAug18, ↓dSet18, ↓dTgN18, ↓dTgW18, ↓dVar19, ↓dAug19, ↓dSet19, ↓dTgN19, ↓dTgW19, ↓dTg_t2, ↓dTg_t3, ↓exGetM, ↓exSumU, nD, plD, rwD, ↓dAdd_tup, ↓dAdd_ref, dSIndex, dInS, dKeysI, dValsI, dItemsI, dMulS, dEqK, dNeK, dClrK, dCntS]
  refine ⟨i, j, k, rfl, rfl, rfl, ?_⟩
  rw [decide_eq_true h1, decide_eq_true h2]
  exact ⟨fun z => absurd z (by decide), fun _ => dn0 h⟩
end
/-- how many names are needed -/
def nd_ (g : Gr) : Nat → Str → Nat
  | 0, _ => 0
  | t + 1, k => 1 + ((lf g k).map fun o => nd_ g t o).sum
def ndK (g : Gr) (t : Nat) : List (Key × D) := g.map fun e => (.inr e.1, nD (nd_ g t e.1))
theorem put_new {kvs : List (Key × D)} {k : Key} {v : D} (h : k ∉ kvs.map (·.1)) : putKD kvs k v = kvs ++ [(k, v)] := by
  unfold putKD
  have ha : (kvs.any fun kv => decide (kv.1 = k)) = false := by
    rw [List.any_eq_false]
    rintro kv hk z
    exact h (List.mem_map.mpr ⟨kv, hk, of_decide_eq_true z⟩)
  rw [ha, if_neg (by decide)]
theorem fold_put {α : Type} {kf : α → Key} {v : α → D} : ∀ (xs : List α) (acc : List (Key × D)), ((acc.map (·.1)) ++ xs.map kf).Nodup → xs.foldl (fun acc a => putKD acc (kf a) (v a)) acc = acc ++ xs.map fun a => (kf a, v a)
  | [], acc, _ => by simp
  | x :: xs, acc, h => by
    have h2 := h
    rw [List.map_cons, List.nodup_append] at h2
    have hx : kf x ∉ acc.map (·.1) := fun z => h2.2.2 _ z _ (List.mem_cons_self ..) rfl
    rw [List.foldl_cons, put_new hx, fold_put xs _ (by rw [List.map_append, List.append_assoc]; exact h), List.append_assoc]; rfl
theorem val_nd {g : Gr} (G : Grw g) (t : Nat) {k : Str} (h : k ∈ g.map (·.1)) : valD (ndK g t) (.inr k) = some (nD (nd_ g t k)) := by
  obtain ⟨e, he, rfl⟩ := List.mem_map.mp h
  have := valD_map (fun e : Str × List Str => (.inr e.1 : Key)) (fun e => nD (nd_ g t e.1)) g (.inr e.1)
  have e2 : (g.find? fun a => decide ((.inr a.1 : Key) = .inr e.1)) = g.find? fun a => decide (a.1 = e.1) := by
    congr 1
    funext a
    exact decide_eq_decide.mpr ⟨fun z => by injection z, fun z => by rw [z]⟩
  rw [e2, find_of G.nd he] at this
  exact this
theorem keys_nd {g : Gr} (G : Grw g) : (g.map fun e => (.inr e.1 : Key)).Nodup := by
  have : (g.map fun e => (.inr e.1 : Key)) = (g.map (·.1)).map fun s => (.inr s : Key) := by rw [List.map_map]; rfl
  rw [this]
  exact List.Pairwise.map _ (fun a b h z => h (by injection z)) G.nd
section
variable {P : Program} {w : World} {K : PySem.W.Frag} {mg : Str → Option Value} {base : Heap}
theorem pr_needed (G : Gv K mg) : Pr P w K mg base "needed" 4 ["growth", "kind", "many"] (S3 fun x y z M Q => ∃ p g k m, x = .ref p ∧ y = .str k ∧ z = nD m ∧ M p = some (.dK (gD g)) ∧ Grw g ∧ k ∈ g.map (·.1) ∧ m ≤ 200 ∧ Q (nD (nd_ g m k)) M) := by
  refine (pr3 (k := 3) G.d_needed bi_needed sc_needed S3n (fun f cdv A outer s H E hr => (b_cons (s_expr (e_callP (pr_check_growth G) (hr.mono (by decide)) (by rfl) pass0 (a_cons (e_var 0) (a_cons (e_var 1) a_nil))))
      (b_cons (s_expr (e_callP (pr_check_number G) (hr.mono (by decide)) (by rfl) pass0 (a_cons (e_var 2) (a_cons e_int (a_cons (e_gintP G.c_MOST_ROUNDS (by rfl)) a_nil)))))
      (b_cons (s_set 3 sc_needed.nd (e_lock (e_dc (own := [("other", 5)]) rfl sc_needed.nd (i_keys (e_var 0)) (blkOk_by (by rfl)) (fun _ _ _ _ _ => (g_nm 5 sc_needed.nd)) (fun _ _ _ _ _ => ts_nil) (fun _ _ _ _ _ => (e_var 5)) (fun _ _ _ _ _ => e_int))))
      (b_cons (s_for PassesOwn.never rfl (i_rng1 (by rfl) G.b_range (a_cons (e_var 2) a_nil)) (g_nm 4 sc_needed.nd)
      (b_one (s_set 3 sc_needed.nd (e_lock (e_dc (own := [("other", 5)]) rfl sc_needed.nd (i_keys (e_var 0)) (blkOk_by (by rfl)) (fun _ _ _ _ _ => (g_nm 5 sc_needed.nd)) (fun _ _ _ _ _ => ts_nil) (fun _ _ _ _ _ => (e_var 5)) (fun _ _ _ _ _ => (e_op od_add e_int (e_callB (cd_sum rfl) (by rfl) G.b_sum rfl (a_cons (e_lc (own := [("goal", 6)]) rfl sc_needed.nd (i_seq (e_ix (ixd (hu_of hr)) (e_var 0) (e_var 5))) (blkOk_by (by rfl)) (fun _ _ _ _ _ => (g_nm 6 sc_needed.nd)) (fun _ _ _ _ _ => ts_nil) (fun _ _ _ _ _ => (e_ix (ixd (hu_of hr)) (e_var 3) (e_var 6)))) a_nil)))))))))
      (b_one (s_ret (e_ix (ixd (hu_of hr)) (e_var 3) (e_var 1)))))))))) ?_
  rintro _ M Q E ⟨_, _, _, rfl, p, g, k, m, rfl, rfl, rfl, hp, hg, hk, hm, h⟩ H rep
  refine ⟨M, rep, fun _ h => h, ?_⟩
  simp only [startD, List.map_cons, List.map_nil, List.length_cons, List.length_nil, Nat.reduceAdd, Nat.reduceSub, Nat.zero_add, List.replicate, List.cons_append, List.nil_append]; simp (config := {failIfUnchanged := false}) only [dC, dOp, dTest, dChain, dAnd, dOr, dNot, dAndV, dOrV, dNotV, dIf, dNil, dCons, dTup, dLst, dCB, d1, dIx, dNoPart, dPart, dSl, dCut, dNeg, dLen, dTupOf, dListOf, dSorted, dSum, dAll, dAny, dInt, dAbs, dMax, dMin, dIsi, isT, dNext, dSeq, dBrk, dCont, dNever, dExpr, dRet, dRetN, dIfS, dAsg, dPutI, dI0, dI, dIsN, dNotN, dSeqI, dRng1, dRng2, dRngDn, dEnumI, dZipI, dYes, dCall, dLM, dAppend, dExtend, dReverse, dInsert, dAugI, dRg1, dRg2, dTupRg, dLstRg, dNewK, dNewT, ↓S0_, ↓S1_, ↓S2_, ↓S3_, ↓S4_, ↓S5_, ↓S6_, List.map_cons, List.map_nil, List.length_cons, List.length_nil, List.replicate, List.cons_append, List.nil_append, Nat.reduceAdd, Nat.reduceSub, Nat.zero_add, List.getElem?_cons_zero, List.getElem?_cons_succ, Option.some.injEq, exists_eq_left, exists_eq_left', List.set_cons_zero, List.set_cons_succ, wipeD, D.int.injEq, D.bl.injEq, D.str.injEq, D.ref.injEq, D.tup.injEq, D.ty.injEq, true_and, and_true, forall_const, forall_eq', forall_eq, mt_int, mt_bool, mt_str, mt_tuple, mt_list, mt_dict, st_int_int, st_int_bool, st_int_str, st_int_tuple, st_int_list, st_int_dict, st_bool_int, st_bool_bool, st_bool_str, st_bool_tuple, st_bool_list, st_bool_dict, st_str_int, st_str_bool, st_str_str, st_str_tuple, st_str_list, st_str_dict, st_tuple_int, st_tuple_bool, st_tuple_str, st_tuple_tuple, st_tuple_list, st_tuple_dict, st_list_int, st_list_bool, st_list_str, st_list_tuple, st_list_list, st_list_dict, st_dict_int, st_dict_bool, st_dict_str, st_dict_tuple, st_dict_list, st_dict_dict, eq_self, Bool.true_eq_false, Bool.false_eq_true, false_implies, true_implies, implies_true, decide_eq_true_eq, decide_eq_false_iff_not, Bool.not_true, Bool.not_false, Bool.not_eq_true, Bool.not_eq_false, Bool.not_eq_true', Bool.not_eq_false', not_true_eq_false, not_false_eq_true, false_and, and_false, or_false, false_or, reduceCtorEq, ↓exLSu, ↓exDKu, ↓exDKd, ↓exLSd, ↓exLu, ↓dIxRu, ↓dPutu, ↓dGetAu, ↓dEq_int, ↓dNe_int, ↓dEq_bl, ↓dNe_bl, ↓dEq_str, ↓dNe_str, ↓dAdd_int, ↓exAt10, ↓exIx10, ↓exAt20, ↓exIx20, ↓exAt21, ↓exIx21, ↓exAt30, ↓exIx30, ↓exAt31, ↓exIx31, ↓exAt32, ↓exIx32, ↓exAt40, ↓exIx40, ↓exAt41, ↓exIx41, ↓exAt42, ↓exIx42, ↓exAt43, ↓exIx43, ↓exAt50, ↓exIx50, ↓exAt51, ↓exIx51, ↓exAt52, ↓exIx52, ↓exAt53, ↓exIx53, ↓exAt54, ↓exIx54, ↓exAt60, ↓exIx60, ↓exAt61, ↓exIx61, ↓exAt62, ↓exIx62, ↓exAt63, ↓exIx63, ↓exAt64, ↓exIx64, ↓exAt65, ↓exIx65, up_up, false_or, or_false, ↓exAtM, ↓dFlag_bl, ↓exBl, ↓exInt, ↓exRef, ↓dVar0, ↓dAug0, ↓dSet0, ↓dTgN0, ↓dTgW0, ↓dVar1, ↓dAug1, ↓dSet1, ↓dTgN1, ↓dTgW1, ↓dVar2, ↓dAug2, ↓dSet2, ↓dTgN2, ↓dTgW2, ↓dVar3, ↓dAug3, ↓dSet3, ↓dTgN3, ↓dTgW3, ↓dVar4, ↓dAug4, ↓dSet4, ↓dTgN4, ↓dTgW4, ↓dVar5, ↓dAug5, ↓dSet5, ↓dTgN5, ↓dTgW5, ↓dVar6, ↓dAug6, ↓dSet6, ↓dTgN6, ↓dTgW6, ↓dVar7, ↓dAug7, ↓dSet7, ↓dTgN7, ↓dTgW7, ↓dVar8, ↓dAug8, ↓dSet8, ↓dTgN8, ↓dTgW8, ↓dVar9, ↓dAug9, ↓dSet9, ↓dTgN9, ↓dTgW9, ↓dVar10, ↓dAug10, ↓dSet10, ↓dTgN10, ↓dTgW10, ↓dVar11, ↓dAug11, ↓dSet11, ↓dTgN11, ↓dTgW11, ↓dVar12, ↓dAug12, ↓dSet12, ↓dTgN12, ↓dTgW12, ↓dVar13, ↓dAug13, ↓dSet13, ↓dTgN13, ↓dTgW13, ↓dVar14, ↓dAug14, ↓dSet14, ↓dTgN14, ↓dTgW14, ↓dVar15, ↓dAug15, ↓dSet15, ↓dTgN15, ↓dTgW15, ↓dVar16, ↓dAug16, ↓dSet16, ↓dTgN16, ↓dTgW16, ↓dVar17, ↓dAug17, ↓dSet17, ↓dTgN17, ↓dTgW17, ↓dVar18, ↓dAug18, ↓dSet18, ↓dTgN18, ↓dTgW18, ↓dVar19, ↓dAug19, ↓dSet19, ↓dTgN19, ↓dTgW19, ↓dTg_t2, ↓dTg_t3, ↓exGetM, ↓exSumU, nD, plD, rwD, ↓dAdd_tup, ↓dAdd_ref, dSIndex, dInS, dKeysI, dValsI, dItemsI, dMulS, dEqK, dNeK, dClrK, dCntS]
  refine ⟨p, g, k, rfl, rfl, hp, hg, hk, by omega, by omega, p, gD g, hp, fun od ws => ?_⟩
  have hz : up M p (.dKz (gD g) od ws) p = some (.dKz (gD g) od ws) := up_same
  have hback : up (up M p (.dKz (gD g) od ws)) p (.dK (gD g)) = M := by rw [up_up]; exact up_self hp
  have hkl : (gD g).map (fun kv => T3.kD kv.1) = g.map fun e => D.str e.1 := by rw [gD_keys, List.map_map]; rfl
  have hlen : ((gD g).map fun kv => T3.kD kv.1).length ≤ sizeLine := by rw [List.length_map, gD_len]; exact Nat.le_trans hg.few (by decide)
  have fin0 : ∀ t, g.foldl (fun acc a => putKD acc (.inr a.1) (nD (nd_ g t a.1))) [] = ndK g t := fun t => by
    rw [fold_put g [] (by rw [List.map_nil, List.nil_append]; exact keys_nd hg), List.nil_append]; rfl
  have swap : ∀ (M' : Hd) (od : Obj) (ws : List (Key × V)) (q : Addr) (o : O), q ≠ p → M' p = some (.dK (gD g)) → up (up (up M' p (.dKz (gD g) od ws)) q o) p (.dK (gD g)) = up M' q o := fun M' od ws q o nq h => by rw [up_comm nq, up_up, up_self h]
  generalize hMz : up M p (.dKz (gD g) od ws) = Mz at *
  refine dDc_g fun F1 T1 U1 V1 h1 t1 u1 v1 => ?_; simp only [dDc, dC, dOp, dTest, dChain, dAnd, dOr, dNot, dAndV, dOrV, dNotV, dIf, dNil, dCons, dTup, dLst, dCB, d1, dIx, dNoPart, dPart, dSl, dCut, dNeg, dLen, dTupOf, dListOf, dSorted, dSum, dAll, dAny, dInt, dAbs, dMax, dMin, dIsi, isT, dNext, dSeq, dBrk, dCont, dNever, dExpr, dRet, dRetN, dIfS, dAsg, dPutI, dI0, dI, dIsN, dNotN, dSeqI, dRng1, dRng2, dRngDn, dEnumI, dZipI, dYes, dCall, dLM, dAppend, dExtend, dReverse, dInsert, dAugI, dRg1, dRg2, dTupRg, dLstRg, dNewK, dNewT, ↓S0_, ↓S1_, ↓S2_, ↓S3_, ↓S4_, ↓S5_, ↓S6_, List.map_cons, List.map_nil, List.length_cons, List.length_nil, List.replicate, List.cons_append, List.nil_append, Nat.reduceAdd, Nat.reduceSub, Nat.zero_add, List.getElem?_cons_zero, List.getElem?_cons_succ, Option.some.injEq, exists_eq_left, exists_eq_left', List.set_cons_zero, List.set_cons_succ, wipeD, D.int.injEq, D.bl.injEq, D.str.injEq, D.ref.injEq, D.tup.injEq, D.ty.injEq, true_and, and_true, forall_const, forall_eq', forall_eq, mt_int, mt_bool, mt_str, mt_tuple, mt_list, mt_dict, st_int_int, st_int_bool, st_int_str, st_int_tuple, st_int_list, st_int_dict, st_bool_int, st_bool_bool, st_bool_str, st_bool_tuple, st_bool_list, st_bool_dict, st_str_int, st_str_bool, st_str_str, st_str_tuple, st_str_list, st_str_dict, st_tuple_int, st_tuple_bool, st_tuple_str, st_tuple_tuple, st_tuple_list, st_tuple_dict, st_list_int, st_list_bool, st_list_str, st_list_tuple, st_list_list, st_list_dict, st_dict_int, st_dict_bool, st_dict_str, st_dict_tuple, st_dict_list, st_dict_dict, eq_self, Bool.true_eq_false, Bool.false_eq_true, false_implies, true_implies, implies_true, decide_eq_true_eq, decide_eq_false_iff_not, Bool.not_true, Bool.not_false, Bool.not_eq_true, Bool.not_eq_false, Bool.not_eq_true', Bool.not_eq_false', not_true_eq_false, not_false_eq_true, false_and, and_false, or_false, false_or, reduceCtorEq, ↓exLSu, ↓exDKu, ↓exDKd, ↓exLSd, ↓exLu, ↓dIxRu, ↓dPutu, ↓dGetAu, ↓dEq_int, ↓dNe_int, ↓dEq_bl, ↓dNe_bl, ↓dEq_str, ↓dNe_str, ↓dAdd_int, ↓exAt10, ↓exIx10, ↓exAt20, ↓exIx20, ↓exAt21, ↓exIx21, ↓exAt30, ↓exIx30, ↓exAt31, ↓exIx31, ↓exAt32, ↓exIx32, ↓exAt40, ↓exIx40, ↓exAt41, ↓exIx41, ↓exAt42, ↓exIx42, ↓exAt43, ↓exIx43, ↓exAt50, ↓exIx50, ↓exAt51, ↓exIx51, ↓exAt52, ↓exIx52, ↓exAt53, ↓exIx53, ↓exAt54, ↓exIx54, ↓exAt60, ↓exIx60, ↓exAt61, ↓exIx61, ↓exAt62, ↓exIx62, ↓exAt63, ↓exIx63, ↓exAt64, ↓exIx64, ↓exAt65, ↓exIx65, up_up, false_or, or_false, ↓exAtM, ↓dFlag_bl, ↓exBl, ↓exInt, ↓exRef, ↓dVar0, ↓dAug0, ↓dSet0, ↓dTgN0, ↓dTgW0, ↓dVar1, ↓dAug1, ↓dSet1, ↓dTgN1, ↓dTgW1, ↓dVar2, ↓dAug2, ↓dSet2, ↓dTgN2, ↓dTgW2, ↓dVar3, ↓dAug3, ↓dSet3, ↓dTgN3, ↓dTgW3, ↓dVar4, ↓dAug4, ↓dSet4, ↓dTgN4, ↓dTgW4, ↓dVar5, ↓dAug5, ↓dSet5, ↓dTgN5, ↓dTgW5, ↓dVar6, ↓dAug6, ↓dSet6, ↓dTgN6, ↓dTgW6, ↓dVar7, ↓dAug7, ↓dSet7, ↓dTgN7, ↓dTgW7, ↓dVar8, ↓dAug8, ↓dSet8, ↓dTgN8, ↓dTgW8, ↓dVar9, ↓dAug9, ↓dSet9, ↓dTgN9, ↓dTgW9, ↓dVar10, ↓dAug10, ↓dSet10, ↓dTgN10, ↓dTgW10, ↓dVar11, ↓dAug11, ↓dSet11, ↓dTgN11, ↓dTgW11, ↓dVar12, ↓dAug12, ↓dSet12, ↓dTgN12, ↓dTgW12, ↓dVar13, ↓dAug13, ↓dSet13, ↓dTgN13, ↓dTgW13, ↓dVar14, ↓dAug14, ↓dSet14, ↓dTgN14, ↓dTgW14, ↓dVar15, ↓dAug15, ↓dSet15, ↓dTgN15, ↓dTgW15, ↓dVar16, ↓dAug16, ↓dSet16, ↓dTgN16, ↓dTgW16, ↓dVar17, ↓dAug17, ↓dSet17, ↓dTgN17, ↓dTgW17, ↓dVar18, ↓dAug18, ↓dSet18, ↓dTgN18, ↓dTgW18, ↓dVar19, ↓dAug19, ↓dSet19, ↓dTgN19, ↓dTgW19, ↓dTg_t2, ↓dTg_t3, ↓exGetM, ↓exSumU, nD, plD, rwD, ↓dAdd_tup, ↓dAdd_ref, dSIndex, dInS, dKeysI, dValsI, dItemsI, dMulS, dEqK, dNeK, dClrK, dCntS]
  simp (config := {failIfUnchanged := false}) only [dC, dOp, dTest, dChain, dAnd, dOr, dNot, dAndV, dOrV, dNotV, dIf, dNil, dCons, dTup, dLst, dCB, d1, dIx, dNoPart, dPart, dSl, dCut, dNeg, dLen, dTupOf, dListOf, dSorted, dSum, dAll, dAny, dInt, dAbs, dMax, dMin, dIsi, isT, dNext, dSeq, dBrk, dCont, dNever, dExpr, dRet, dRetN, dIfS, dAsg, dPutI, dI0, dI, dIsN, dNotN, dSeqI, dRng1, dRng2, dRngDn, dEnumI, dZipI, dYes, dCall, dLM, dAppend, dExtend, dReverse, dInsert, dAugI, dRg1, dRg2, dTupRg, dLstRg, dNewK, dNewT, ↓S0_, ↓S1_, ↓S2_, ↓S3_, ↓S4_, ↓S5_, ↓S6_, List.map_cons, List.map_nil, List.length_cons, List.length_nil, List.replicate, List.cons_append, List.nil_append, Nat.reduceAdd, Nat.reduceSub, Nat.zero_add, List.getElem?_cons_zero, List.getElem?_cons_succ, Option.some.injEq, exists_eq_left, exists_eq_left', List.set_cons_zero, List.set_cons_succ, wipeD, D.int.injEq, D.bl.injEq, D.str.injEq, D.ref.injEq, D.tup.injEq, D.ty.injEq, true_and, and_true, forall_const, forall_eq', forall_eq, mt_int, mt_bool, mt_str, mt_tuple, mt_list, mt_dict, st_int_int, st_int_bool, st_int_str, st_int_tuple, st_int_list, st_int_dict, st_bool_int, st_bool_bool, st_bool_str, st_bool_tuple, st_bool_list, st_bool_dict, st_str_int, st_str_bool, st_str_str, st_str_tuple, st_str_list, st_str_dict, st_tuple_int, st_tuple_bool, st_tuple_str, st_tuple_tuple, st_tuple_list, st_tuple_dict, st_list_int, st_list_bool, st_list_str, st_list_tuple, st_list_list, st_list_dict, st_dict_int, st_dict_bool, st_dict_str, st_dict_tuple, st_dict_list, st_dict_dict, eq_self, Bool.true_eq_false, Bool.false_eq_true, false_implies, true_implies, implies_true, decide_eq_true_eq, decide_eq_false_iff_not, Bool.not_true, Bool.not_false, Bool.not_eq_true, Bool.not_eq_false, Bool.not_eq_true', Bool.not_eq_false', not_true_eq_false, not_false_eq_true, false_and, and_false, or_false, false_or, reduceCtorEq, ↓exLSu, ↓exDKu, ↓exDKd, ↓exLSd, ↓exLu, ↓dIxRu, ↓dPutu, ↓dGetAu, ↓dEq_int, ↓dNe_int, ↓dEq_bl, ↓dNe_bl, ↓dEq_str, ↓dNe_str, ↓dAdd_int, ↓exAt10, ↓exIx10, ↓exAt20, ↓exIx20, ↓exAt21, ↓exIx21, ↓exAt30, ↓exIx30, ↓exAt31, ↓exIx31, ↓exAt32, ↓exIx32, ↓exAt40, ↓exIx40, ↓exAt41, ↓exIx41, ↓exAt42, ↓exIx42, ↓exAt43, ↓exIx43, ↓exAt50, ↓exIx50, ↓exAt51, ↓exIx51, ↓exAt52, ↓exIx52, ↓exAt53, ↓exIx53, ↓exAt54, ↓exIx54, ↓exAt60, ↓exIx60, ↓exAt61, ↓exIx61, ↓exAt62, ↓exIx62, ↓exAt63, ↓exIx63, ↓exAt64, ↓exIx64, ↓exAt65, ↓exIx65, up_up, false_or, or_false, ↓exAtM, ↓dFlag_bl, ↓exBl, ↓exInt, ↓exRef, ↓dVar0, ↓dAug0, ↓dSet0, ↓dTgN0, ↓dTgW0, ↓dVar1, ↓dAug1, ↓dSet1, ↓dTgN1, ↓dTgW1, ↓dVar2, ↓dAug2, ↓dSet2, ↓dTgN2, ↓dTgW2, ↓dVar3, ↓dAug3, ↓dSet3, ↓dTgN3, ↓dTgW3, ↓dVar4, ↓dAug4, ↓dSet4, ↓dTgN4, ↓dTgW4, ↓dVar5, ↓dAug5, ↓dSet5, ↓dTgN5, ↓dTgW5, ↓dVar6, ↓dAug6, ↓dSet6, ↓dTgN6, ↓dTgW6, ↓dVar7, ↓dAug7, ↓dSet7, ↓dTgN7, ↓dTgW7, ↓dVar8, ↓dAug8, ↓dSet8, ↓dTgN8, ↓dTgW8, ↓dVar9, ↓dAug9, ↓dSet9, ↓dTgN9, ↓dTgW9, ↓dVar10, ↓dAug10, ↓dSet10, ↓dTgN10, ↓dTgW10, ↓dVar11, ↓dAug11, ↓dSet11, ↓dTgN11, ↓dTgW11, ↓dVar12, ↓dAug12, ↓dSet12, ↓dTgN12, ↓dTgW12, ↓dVar13, ↓dAug13, ↓dSet13, ↓dTgN13, ↓dTgW13, ↓dVar14, ↓dAug14, ↓dSet14, ↓dTgN14, ↓dTgW14, ↓dVar15, ↓dAug15, ↓dSet15, ↓dTgN15, ↓dTgW15, ↓dVar16, ↓dAug16, ↓dSet16, ↓dTgN16, ↓dTgW16, ↓dVar17, ↓dAug17, ↓dSet17, ↓dTgN17, ↓dTgW17, ↓dVar18, ↓dAug18, ↓dSet18, ↓dTgN18, ↓dTgW18, ↓dVar19, ↓dAug19, ↓dSet19, ↓dTgN19, ↓dTgW19, ↓dTg_t2, ↓dTg_t3, ↓exGetM, ↓exSumU, nD, plD, rwD, ↓dAdd_tup, ↓dAdd_ref, dSIndex, dInS, dKeysI, dValsI, dItemsI, dMulS, dEqK, dNeK, dClrK, dCntS]
  refine ⟨gD g, od, ws, hz, hlen, dcM (fun e : Str × List Str => D.str e.1) (fun e => .inr e.1) (fun e => nD (nd_ g 0 e.1)) g hkl (fun l e t pre acc P2 ee hP2 => ?_) ⟨hz, fun q hq => ?_⟩⟩
  · refine ⟨hz, ?_⟩
    subst t1; subst u1; subst v1
    simp (config := {failIfUnchanged := false}) only [dC, dOp, dTest, dChain, dAnd, dOr, dNot, dAndV, dOrV, dNotV, dIf, dNil, dCons, dTup, dLst, dCB, d1, dIx, dNoPart, dPart, dSl, dCut, dNeg, dLen, dTupOf, dListOf, dSorted, dSum, dAll, dAny, dInt, dAbs, dMax, dMin, dIsi, isT, dNext, dSeq, dBrk, dCont, dNever, dExpr, dRet, dRetN, dIfS, dAsg, dPutI, dI0, dI, dIsN, dNotN, dSeqI, dRng1, dRng2, dRngDn, dEnumI, dZipI, dYes, dCall, dLM, dAppend, dExtend, dReverse, dInsert, dAugI, dRg1, dRg2, dTupRg, dLstRg, dNewK, dNewT, ↓S0_, ↓S1_, ↓S2_, ↓S3_, ↓S4_, ↓S5_, ↓S6_, List.map_cons, List.map_nil, List.length_cons, List.length_nil, List.replicate, List.cons_append, List.nil_append, Nat.reduceAdd, Nat.reduceSub, Nat.zero_add, List.getElem?_cons_zero, List.getElem?_cons_succ, Option.some.injEq, exists_eq_left, exists_eq_left', List.set_cons_zero, List.set_cons_succ, wipeD, D.int.injEq, D.bl.injEq, D.str.injEq, D.ref.injEq, D.tup.injEq, D.ty.injEq, true_and, and_true, forall_const, forall_eq', forall_eq, mt_int, mt_bool, mt_str, mt_tuple, mt_list, mt_dict, st_int_int, st_int_bool, st_int_str, st_int_tuple, st_int_list, st_int_dict, st_bool_int, st_bool_bool, st_bool_str, st_bool_tuple, st_bool_list, st_bool_dict, st_str_int, st_str_bool, st_str_str, st_str_tuple, st_str_list, st_str_dict, st_tuple_int, st_tuple_bool, st_tuple_str, st_tuple_tuple, st_tuple_list, st_tuple_dict, st_list_int, st_list_bool, st_list_str, st_list_tuple, st_list_list, st_list_dict, st_dict_int, st_dict_bool, st_dict_str, st_dict_tuple, st_dict_list, st_dict_dict, eq_self, Bool.true_eq_false, Bool.false_eq_true, false_implies, true_implies, implies_true, decide_eq_true_eq, decide_eq_false_iff_not, Bool.not_true, Bool.not_false, Bool.not_eq_true, Bool.not_eq_false, Bool.not_eq_true', Bool.not_eq_false', not_true_eq_false, not_false_eq_true, false_and, and_false, or_false, false_or, reduceCtorEq, ↓exLSu, ↓exDKu, ↓exDKd, ↓exLSd, ↓exLu, ↓dIxRu, ↓dPutu, ↓dGetAu, ↓dEq_int, ↓dNe_int, ↓dEq_bl, ↓dNe_bl, ↓dEq_str, ↓dNe_str, ↓dAdd_int, ↓exAt10, ↓exIx10, ↓exAt20, ↓exIx20, ↓exAt21, ↓exIx21, ↓exAt30, ↓exIx30, ↓exAt31, ↓exIx31, ↓exAt32, ↓exIx32, ↓exAt40, ↓exIx40, ↓exAt41, ↓exIx41, ↓exAt42, ↓exIx42, ↓exAt43, ↓exIx43, ↓exAt50, ↓exIx50, ↓exAt51, ↓exIx51, ↓exAt52, ↓exIx52, ↓exAt53, ↓exIx53, ↓exAt54, ↓exIx54, ↓exAt60, ↓exIx60, ↓exAt61, ↓exIx61, ↓exAt62, ↓exIx62, ↓exAt63, ↓exIx63, ↓exAt64, ↓exIx64, ↓exAt65, ↓exIx65, up_up, false_or, or_false, ↓exAtM, ↓dFlag_bl, ↓exBl, ↓exInt, ↓exRef, ↓dVar0, ↓dAug0, ↓dSet0, ↓dTgN0, ↓dTgW0, ↓dVar1, ↓dAug1, ↓dSet1, ↓dTgN1, ↓dTgW1, ↓dVar2, ↓dAug2, ↓dSet2, ↓dTgN2, ↓dTgW2, ↓dVar3, ↓dAug3, ↓dSet3, ↓dTgN3, ↓dTgW3, ↓dVar4, ↓dAug4, ↓dSet4, ↓dTgN4, ↓dTgW4, ↓dVar5, ↓dAug5, ↓dSet5, ↓dTgN5, ↓dTgW5, ↓dVar6, ↓dAug6, ↓dSet6, ↓dTgN6, ↓dTgW6, ↓dVar7, ↓dAug7, ↓dSet7, ↓dTgN7, ↓dTgW7, ↓dVar8, ↓dAug8, ↓dSet8, ↓dTgN8, ↓dTgW8, ↓dVar9, ↓dAug9, ↓dSet9, ↓dTgN9, ↓dTgW9, ↓dVar10, ↓dAug10, ↓dSet10, ↓dTgN10, ↓dTgW10, ↓dVar11, ↓dAug11, ↓dSet11, ↓dTgN11, ↓dTgW11, ↓dVar12, ↓dAug12, ↓dSet12, ↓dTgN12, ↓dTgW12, ↓dVar13, ↓dAug13, ↓dSet13, ↓dTgN13, ↓dTgW13, ↓dVar14, ↓dAug14, ↓dSet14, ↓dTgN14, ↓dTgW14, ↓dVar15, ↓dAug15, ↓dSet15, ↓dTgN15, ↓dTgW15, ↓dVar16, ↓dAug16, ↓dSet16, ↓dTgN16, ↓dTgW16, ↓dVar17, ↓dAug17, ↓dSet17, ↓dTgN17, ↓dTgW17, ↓dVar18, ↓dAug18, ↓dSet18, ↓dTgN18, ↓dTgW18, ↓dVar19, ↓dAug19, ↓dSet19, ↓dTgN19, ↓dTgW19, ↓dTg_t2, ↓dTg_t3, ↓exGetM, ↓exSumU, nD, plD, rwD, ↓dAdd_tup, ↓dAdd_ref, dSIndex, dInS, dKeysI, dValsI, dItemsI, dMulS, dEqK, dNeK, dClrK, dCntS]
    exact ⟨.inr e.1, rfl, sb0 hP2⟩
  rw [h1]
  clear h1 t1 u1 v1
  rw [fin0 0]
  have nqp : q ≠ p := by rintro rfl; rw [hz] at hq; cases hq
  have hqM : M q = none := by rw [← hMz, up_ne nqp] at hq; exact hq
  refine ⟨by rw [up_ne nqp.symm]; exact hz, ?_⟩
  rw [← hMz, swap M od ws q _ nqp hp]
  refine dFor_g fun F2 T2 h2 t2 => ?_; simp only [dFor, dC, dOp, dTest, dChain, dAnd, dOr, dNot, dAndV, dOrV, dNotV, dIf, dNil, dCons, dTup, dLst, dCB, d1, dIx, dNoPart, dPart, dSl, dCut, dNeg, dLen, dTupOf, dListOf, dSorted, dSum, dAll, dAny, dInt, dAbs, dMax, dMin, dIsi, isT, dNext, dSeq, dBrk, dCont, dNever, dExpr, dRet, dRetN, dIfS, dAsg, dPutI, dI0, dI, dIsN, dNotN, dSeqI, dRng1, dRng2, dRngDn, dEnumI, dZipI, dYes, dCall, dLM, dAppend, dExtend, dReverse, dInsert, dAugI, dRg1, dRg2, dTupRg, dLstRg, dNewK, dNewT, ↓S0_, ↓S1_, ↓S2_, ↓S3_, ↓S4_, ↓S5_, ↓S6_, List.map_cons, List.map_nil, List.length_cons, List.length_nil, List.replicate, List.cons_append, List.nil_append, Nat.reduceAdd, Nat.reduceSub, Nat.zero_add, List.getElem?_cons_zero, List.getElem?_cons_succ, Option.some.injEq, exists_eq_left, exists_eq_left', List.set_cons_zero, List.set_cons_succ, wipeD, D.int.injEq, D.bl.injEq, D.str.injEq, D.ref.injEq, D.tup.injEq, D.ty.injEq, true_and, and_true, forall_const, forall_eq', forall_eq, mt_int, mt_bool, mt_str, mt_tuple, mt_list, mt_dict, st_int_int, st_int_bool, st_int_str, st_int_tuple, st_int_list, st_int_dict, st_bool_int, st_bool_bool, st_bool_str, st_bool_tuple, st_bool_list, st_bool_dict, st_str_int, st_str_bool, st_str_str, st_str_tuple, st_str_list, st_str_dict, st_tuple_int, st_tuple_bool, st_tuple_str, st_tuple_tuple, st_tuple_list, st_tuple_dict, st_list_int, st_list_bool, st_list_str, st_list_tuple, st_list_list, st_list_dict, st_dict_int, st_dict_bool, st_dict_str, st_dict_tuple, st_dict_list, st_dict_dict, eq_self, Bool.true_eq_false, Bool.false_eq_true, false_implies, true_implies, implies_true, decide_eq_true_eq, decide_eq_false_iff_not, Bool.not_true, Bool.not_false, Bool.not_eq_true, Bool.not_eq_false, Bool.not_eq_true', Bool.not_eq_false', not_true_eq_false, not_false_eq_true, false_and, and_false, or_false, false_or, reduceCtorEq, ↓exLSu, ↓exDKu, ↓exDKd, ↓exLSd, ↓exLu, ↓dIxRu, ↓dPutu, ↓dGetAu, ↓dEq_int, ↓dNe_int, ↓dEq_bl, ↓dNe_bl, ↓dEq_str, ↓dNe_str, ↓dAdd_int, ↓exAt10, ↓exIx10, ↓exAt20, ↓exIx20, ↓exAt21, ↓exIx21, ↓exAt30, ↓exIx30, ↓exAt31, ↓exIx31, ↓exAt32, ↓exIx32, ↓exAt40, ↓exIx40, ↓exAt41, ↓exIx41, ↓exAt42, ↓exIx42, ↓exAt43, ↓exIx43, ↓exAt50, ↓exIx50, ↓exAt51, ↓exIx51, ↓exAt52, ↓exIx52, ↓exAt53, ↓exIx53, ↓exAt54, ↓exIx54, ↓exAt60, ↓exIx60, ↓exAt61, ↓exIx61, ↓exAt62, ↓exIx62, ↓exAt63, ↓exIx63, ↓exAt64, ↓exIx64, ↓exAt65, ↓exIx65, up_up, false_or, or_false, ↓exAtM, ↓dFlag_bl, ↓exBl, ↓exInt, ↓exRef, ↓dVar0, ↓dAug0, ↓dSet0, ↓dTgN0, ↓dTgW0, ↓dVar1, ↓dAug1, ↓dSet1, ↓dTgN1, ↓dTgW1, ↓dVar2, ↓dAug2, ↓dSet2, ↓dTgN2, ↓dTgW2, ↓dVar3, ↓dAug3, ↓dSet3, ↓dTgN3, ↓dTgW3, ↓dVar4, ↓dAug4, ↓dSet4, ↓dTgN4, ↓dTgW4, ↓dVar5, ↓dAug5, ↓dSet5, ↓dTgN5, ↓dTgW5, ↓dVar6, ↓dAug6, ↓dSet6, ↓dTgN6, ↓dTgW6, ↓dVar7, ↓dAug7, ↓dSet7, ↓dTgN7, ↓dTgW7, ↓dVar8, ↓dAug8, ↓dSet8, ↓dTgN8, ↓dTgW8, ↓dVar9, ↓dAug9, ↓dSet9, ↓dTgN9, ↓dTgW9, ↓dVar10, ↓dAug10, ↓dSet10, ↓dTgN10, ↓dTgW10, ↓dVar11, ↓dAug11, ↓dSet11, ↓dTgN11, ↓dTgW11, ↓dVar12, ↓dAug12, ↓dSet12, ↓dTgN12, ↓dTgW12, ↓dVar13, ↓dAug13, ↓dSet13, ↓dTgN13, ↓dTgW13, ↓dVar14, ↓dAug14, ↓dSet14, ↓dTgN14, ↓dTgW14, ↓dVar15, ↓dAug15, ↓dSet15, ↓dTgN15, ↓dTgW15, ↓dVar16, ↓dAug16, ↓dSet16, ↓dTgN16, ↓dTgW16, ↓dVar17, ↓dAug17, ↓dSet17, ↓dTgN17, ↓dTgW17, ↓dVar18, ↓dAug18, ↓dSet18, ↓dTgN18, ↓dTgW18, ↓dVar19, ↓dAug19, ↓dSet19, ↓dTgN19, ↓dTgW19, ↓dTg_t2, ↓dTg_t3, ↓exGetM, ↓exSumU, nD, plD, rwD, ↓dAdd_tup, ↓dAdd_ref, dSIndex, dInS, dKeysI, dValsI, dItemsI, dMulS, dEqK, dNeK, dClrK, dCntS]
  simp (config := {failIfUnchanged := false}) only [dC, dOp, dTest, dChain, dAnd, dOr, dNot, dAndV, dOrV, dNotV, dIf, dNil, dCons, dTup, dLst, dCB, d1, dIx, dNoPart, dPart, dSl, dCut, dNeg, dLen, dTupOf, dListOf, dSorted, dSum, dAll, dAny, dInt, dAbs, dMax, dMin, dIsi, isT, dNext, dSeq, dBrk, dCont, dNever, dExpr, dRet, dRetN, dIfS, dAsg, dPutI, dI0, dI, dIsN, dNotN, dSeqI, dRng1, dRng2, dRngDn, dEnumI, dZipI, dYes, dCall, dLM, dAppend, dExtend, dReverse, dInsert, dAugI, dRg1, dRg2, dTupRg, dLstRg, dNewK, dNewT, ↓S0_, ↓S1_, ↓S2_, ↓S3_, ↓S4_, ↓S5_, ↓S6_, List.map_cons, List.map_nil, List.length_cons, List.length_nil, List.replicate, List.cons_append, List.nil_append, Nat.reduceAdd, Nat.reduceSub, Nat.zero_add, List.getElem?_cons_zero, List.getElem?_cons_succ, Option.some.injEq, exists_eq_left, exists_eq_left', List.set_cons_zero, List.set_cons_succ, wipeD, D.int.injEq, D.bl.injEq, D.str.injEq, D.ref.injEq, D.tup.injEq, D.ty.injEq, true_and, and_true, forall_const, forall_eq', forall_eq, mt_int, mt_bool, mt_str, mt_tuple, mt_list, mt_dict, st_int_int, st_int_bool, st_int_str, st_int_tuple, st_int_list, st_int_dict, st_bool_int, st_bool_bool, st_bool_str, st_bool_tuple, st_bool_list, st_bool_dict, st_str_int, st_str_bool, st_str_str, st_str_tuple, st_str_list, st_str_dict, st_tuple_int, st_tuple_bool, st_tuple_str, st_tuple_tuple, st_tuple_list, st_tuple_dict, st_list_int, st_list_bool, st_list_str, st_list_tuple, st_list_list, st_list_dict, st_dict_int, st_dict_bool, st_dict_str, st_dict_tuple, st_dict_list, st_dict_dict, eq_self, Bool.true_eq_false, Bool.false_eq_true, false_implies, true_implies, implies_true, decide_eq_true_eq, decide_eq_false_iff_not, Bool.not_true, Bool.not_false, Bool.not_eq_true, Bool.not_eq_false, Bool.not_eq_true', Bool.not_eq_false', not_true_eq_false, not_false_eq_true, false_and, and_false, or_false, false_or, reduceCtorEq, ↓exLSu, ↓exDKu, ↓exDKd, ↓exLSd, ↓exLu, ↓dIxRu, ↓dPutu, ↓dGetAu, ↓dEq_int, ↓dNe_int, ↓dEq_bl, ↓dNe_bl, ↓dEq_str, ↓dNe_str, ↓dAdd_int, ↓exAt10, ↓exIx10, ↓exAt20, ↓exIx20, ↓exAt21, ↓exIx21, ↓exAt30, ↓exIx30, ↓exAt31, ↓exIx31, ↓exAt32, ↓exIx32, ↓exAt40, ↓exIx40, ↓exAt41, ↓exIx41, ↓exAt42, ↓exIx42, ↓exAt43, ↓exIx43, ↓exAt50, ↓exIx50, ↓exAt51, ↓exIx51, ↓exAt52, ↓exIx52, ↓exAt53, ↓exIx53, ↓exAt54, ↓exIx54, ↓exAt60, ↓exIx60, ↓exAt61, ↓exIx61, ↓exAt62, ↓exIx62, ↓exAt63, ↓exIx63, ↓exAt64, ↓exIx64, ↓exAt65, ↓exIx65, up_up, false_or, or_false, ↓exAtM, ↓dFlag_bl, ↓exBl, ↓exInt, ↓exRef, ↓dVar0, ↓dAug0, ↓dSet0, ↓dTgN0, ↓dTgW0, ↓dVar1, ↓dAug1, ↓dSet1, ↓dTgN1, ↓dTgW1, ↓dVar2, ↓dAug2, ↓dSet2, ↓dTgN2, ↓dTgW2, ↓dVar3, ↓dAug3, ↓dSet3, ↓dTgN3, ↓dTgW3, ↓dVar4, ↓dAug4, ↓dSet4, ↓dTgN4, ↓dTgW4, ↓dVar5, ↓dAug5, ↓dSet5, ↓dTgN5, ↓dTgW5, ↓dVar6, ↓dAug6, ↓dSet6, ↓dTgN6, ↓dTgW6, ↓dVar7, ↓dAug7, ↓dSet7, ↓dTgN7, ↓dTgW7, ↓dVar8, ↓dAug8, ↓dSet8, ↓dTgN8, ↓dTgW8, ↓dVar9, ↓dAug9, ↓dSet9, ↓dTgN9, ↓dTgW9, ↓dVar10, ↓dAug10, ↓dSet10, ↓dTgN10, ↓dTgW10, ↓dVar11, ↓dAug11, ↓dSet11, ↓dTgN11, ↓dTgW11, ↓dVar12, ↓dAug12, ↓dSet12, ↓dTgN12, ↓dTgW12, ↓dVar13, ↓dAug13, ↓dSet13, ↓dTgN13, ↓dTgW13, ↓dVar14, ↓dAug14, ↓dSet14, ↓dTgN14, ↓dTgW14, ↓dVar15, ↓dAug15, ↓dSet15, ↓dTgN15, ↓dTgW15, ↓dVar16, ↓dAug16, ↓dSet16, ↓dTgN16, ↓dTgW16, ↓dVar17, ↓dAug17, ↓dSet17, ↓dTgN17, ↓dTgW17, ↓dVar18, ↓dAug18, ↓dSet18, ↓dTgN18, ↓dTgW18, ↓dVar19, ↓dAug19, ↓dSet19, ↓dTgN19, ↓dTgW19, ↓dTg_t2, ↓dTg_t3, ↓exGetM, ↓exSumU, nD, plD, rwD, ↓dAdd_tup, ↓dAdd_ref, dSIndex, dInS, dKeysI, dValsI, dItemsI, dMulS, dEqK, dNeK, dClrK, dCntS]
  rw [rng0]
  refine ⟨by omega, forN (fun t δ M' => Sub M' M ∧ ∃ q, M q = none ∧ M' q = some (.dK (ndK g t)) ∧ ∃ a : Option D, δ = [some (.ref p), some (.str k), some (nD m), some (.ref q), a, none, none]) ⟨Sub.new hqM (by intro _ z; cases z), q, hqM, up_same, _, rfl⟩ ?_ ?_⟩
  · rintro t z δ' M1 pre P' hzz ⟨s1, q1, hq1, hq1', a, rfl⟩ hP
    obtain ⟨ht, rfl⟩ := rgx hzz
    have hp1 := s1.1 _ _ hp
    have nq1 : q1 ≠ p := by rintro rfl; rw [hp] at hq1; cases hq1
    subst t2
    simp (config := {failIfUnchanged := false}) only [dC, dOp, dTest, dChain, dAnd, dOr, dNot, dAndV, dOrV, dNotV, dIf, dNil, dCons, dTup, dLst, dCB, d1, dIx, dNoPart, dPart, dSl, dCut, dNeg, dLen, dTupOf, dListOf, dSorted, dSum, dAll, dAny, dInt, dAbs, dMax, dMin, dIsi, isT, dNext, dSeq, dBrk, dCont, dNever, dExpr, dRet, dRetN, dIfS, dAsg, dPutI, dI0, dI, dIsN, dNotN, dSeqI, dRng1, dRng2, dRngDn, dEnumI, dZipI, dYes, dCall, dLM, dAppend, dExtend, dReverse, dInsert, dAugI, dRg1, dRg2, dTupRg, dLstRg, dNewK, dNewT, ↓S0_, ↓S1_, ↓S2_, ↓S3_, ↓S4_, ↓S5_, ↓S6_, List.map_cons, List.map_nil, List.length_cons, List.length_nil, List.replicate, List.cons_append, List.nil_append, Nat.reduceAdd, Nat.reduceSub, Nat.zero_add, List.getElem?_cons_zero, List.getElem?_cons_succ, Option.some.injEq, exists_eq_left, exists_eq_left', List.set_cons_zero, List.set_cons_succ, wipeD, D.int.injEq, D.bl.injEq, D.str.injEq, D.ref.injEq, D.tup.injEq, D.ty.injEq, true_and, and_true, forall_const, forall_eq', forall_eq, mt_int, mt_bool, mt_str, mt_tuple, mt_list, mt_dict, st_int_int, st_int_bool, st_int_str, st_int_tuple, st_int_list, st_int_dict, st_bool_int, st_bool_bool, st_bool_str, st_bool_tuple, st_bool_list, st_bool_dict, st_str_int, st_str_bool, st_str_str, st_str_tuple, st_str_list, st_str_dict, st_tuple_int, st_tuple_bool, st_tuple_str, st_tuple_tuple, st_tuple_list, st_tuple_dict, st_list_int, st_list_bool, st_list_str, st_list_tuple, st_list_list, st_list_dict, st_dict_int, st_dict_bool, st_dict_str, st_dict_tuple, st_dict_list, st_dict_dict, eq_self, Bool.true_eq_false, Bool.false_eq_true, false_implies, true_implies, implies_true, decide_eq_true_eq, decide_eq_false_iff_not, Bool.not_true, Bool.not_false, Bool.not_eq_true, Bool.not_eq_false, Bool.not_eq_true', Bool.not_eq_false', not_true_eq_false, not_false_eq_true, false_and, and_false, or_false, false_or, reduceCtorEq, ↓exLSu, ↓exDKu, ↓exDKd, ↓exLSd, ↓exLu, ↓dIxRu, ↓dPutu, ↓dGetAu, ↓dEq_int, ↓dNe_int, ↓dEq_bl, ↓dNe_bl, ↓dEq_str, ↓dNe_str, ↓dAdd_int, ↓exAt10, ↓exIx10, ↓exAt20, ↓exIx20, ↓exAt21, ↓exIx21, ↓exAt30, ↓exIx30, ↓exAt31, ↓exIx31, ↓exAt32, ↓exIx32, ↓exAt40, ↓exIx40, ↓exAt41, ↓exIx41, ↓exAt42, ↓exIx42, ↓exAt43, ↓exIx43, ↓exAt50, ↓exIx50, ↓exAt51, ↓exIx51, ↓exAt52, ↓exIx52, ↓exAt53, ↓exIx53, ↓exAt54, ↓exIx54, ↓exAt60, ↓exIx60, ↓exAt61, ↓exIx61, ↓exAt62, ↓exIx62, ↓exAt63, ↓exIx63, ↓exAt64, ↓exIx64, ↓exAt65, ↓exIx65, up_up, false_or, or_false, ↓exAtM, ↓dFlag_bl, ↓exBl, ↓exInt, ↓exRef, ↓dVar0, ↓dAug0, ↓dSet0, ↓dTgN0, ↓dTgW0, ↓dVar1, ↓dAug1, ↓dSet1, ↓dTgN1, ↓dTgW1, ↓dVar2, ↓dAug2, ↓dSet2, ↓dTgN2, ↓dTgW2, ↓dVar3, ↓dAug3, ↓dSet3, ↓dTgN3, ↓dTgW3, ↓dVar4, ↓dAug4, ↓dSet4, ↓dTgN4, ↓dTgW4, ↓dVar5, ↓dAug5, ↓dSet5, ↓dTgN5, ↓dTgW5, ↓dVar6, ↓dAug6, ↓dSet6, ↓dTgN6, ↓dTgW6, ↓dVar7, ↓dAug7, ↓dSet7, ↓dTgN7, ↓dTgW7, ↓dVar8, ↓dAug8, ↓dSet8, ↓dTgN8, ↓dTgW8, ↓dVar9, ↓dAug9, ↓dSet9, ↓dTgN9, ↓dTgW9, ↓dVar10, ↓dAug10, ↓dSet10, ↓dTgN10, ↓dTgW10, ↓dVar11, ↓dAug11, ↓dSet11, ↓dTgN11, ↓dTgW11, ↓dVar12, ↓dAug12, ↓dSet12, ↓dTgN12, ↓dTgW12, ↓dVar13, ↓dAug13, ↓dSet13, ↓dTgN13, ↓dTgW13, ↓dVar14, ↓dAug14, ↓dSet14, ↓dTgN14, ↓dTgW14, ↓dVar15, ↓dAug15, ↓dSet15, ↓dTgN15, ↓dTgW15, ↓dVar16, ↓dAug16, ↓dSet16, ↓dTgN16, ↓dTgW16, ↓dVar17, ↓dAug17, ↓dSet17, ↓dTgN17, ↓dTgW17, ↓dVar18, ↓dAug18, ↓dSet18, ↓dTgN18, ↓dTgW18, ↓dVar19, ↓dAug19, ↓dSet19, ↓dTgN19, ↓dTgW19, ↓dTg_t2, ↓dTg_t3, ↓exGetM, ↓exSumU, nD, plD, rwD, ↓dAdd_tup, ↓dAdd_ref, dSIndex, dInS, dKeysI, dValsI, dItemsI, dMulS, dEqK, dNeK, dClrK, dCntS]
    refine ⟨p, gD g, hp1, fun od ws => ?_⟩
    have hz1 : up M1 p (.dKz (gD g) od ws) p = some (.dKz (gD g) od ws) := up_same
    have hqz : up M1 p (.dKz (gD g) od ws) q1 = some (.dK (ndK g t)) := by rw [up_ne nq1]; exact hq1'
    generalize hMz1 : up M1 p (.dKz (gD g) od ws) = Mz1 at *
    refine dDc_g fun F3 T3 U3 V3 h3 t3 u3 v3 => ?_; simp only [dDc, dC, dOp, dTest, dChain, dAnd, dOr, dNot, dAndV, dOrV, dNotV, dIf, dNil, dCons, dTup, dLst, dCB, d1, dIx, dNoPart, dPart, dSl, dCut, dNeg, dLen, dTupOf, dListOf, dSorted, dSum, dAll, dAny, dInt, dAbs, dMax, dMin, dIsi, isT, dNext, dSeq, dBrk, dCont, dNever, dExpr, dRet, dRetN, dIfS, dAsg, dPutI, dI0, dI, dIsN, dNotN, dSeqI, dRng1, dRng2, dRngDn, dEnumI, dZipI, dYes, dCall, dLM, dAppend, dExtend, dReverse, dInsert, dAugI, dRg1, dRg2, dTupRg, dLstRg, dNewK, dNewT, ↓S0_, ↓S1_, ↓S2_, ↓S3_, ↓S4_, ↓S5_, ↓S6_, List.map_cons, List.map_nil, List.length_cons, List.length_nil, List.replicate, List.cons_append, List.nil_append, Nat.reduceAdd, Nat.reduceSub, Nat.zero_add, List.getElem?_cons_zero, List.getElem?_cons_succ, Option.some.injEq, exists_eq_left, exists_eq_left', List.set_cons_zero, List.set_cons_succ, wipeD, D.int.injEq, D.bl.injEq, D.str.injEq, D.ref.injEq, D.tup.injEq, D.ty.injEq, true_and, and_true, forall_const, forall_eq', forall_eq, mt_int, mt_bool, mt_str, mt_tuple, mt_list, mt_dict, st_int_int, st_int_bool, st_int_str, st_int_tuple, st_int_list, st_int_dict, st_bool_int, st_bool_bool, st_bool_str, st_bool_tuple, st_bool_list, st_bool_dict, st_str_int, st_str_bool, st_str_str, st_str_tuple, st_str_list, st_str_dict, st_tuple_int, st_tuple_bool, st_tuple_str, st_tuple_tuple, st_tuple_list, st_tuple_dict, st_list_int, st_list_bool, st_list_str, st_list_tuple, st_list_list, st_list_dict, st_dict_int, st_dict_bool, st_dict_str, st_dict_tuple, st_dict_list, st_dict_dict, eq_self, Bool.true_eq_false, Bool.false_eq_true, false_implies, true_implies, implies_true, decide_eq_true_eq, decide_eq_false_iff_not, Bool.not_true, Bool.not_false, Bool.not_eq_true, Bool.not_eq_false, Bool.not_eq_true', Bool.not_eq_false', not_true_eq_false, not_false_eq_true, false_and, and_false, or_false, false_or, reduceCtorEq, ↓exLSu, ↓exDKu, ↓exDKd, ↓exLSd, ↓exLu, ↓dIxRu, ↓dPutu, ↓dGetAu, ↓dEq_int, ↓dNe_int, ↓dEq_bl, ↓dNe_bl, ↓dEq_str, ↓dNe_str, ↓dAdd_int, ↓exAt10, ↓exIx10, ↓exAt20, ↓exIx20, ↓exAt21, ↓exIx21, ↓exAt30, ↓exIx30, ↓exAt31, ↓exIx31, ↓exAt32, ↓exIx32, ↓exAt40, ↓exIx40, ↓exAt41, ↓exIx41, ↓exAt42, ↓exIx42, ↓exAt43, ↓exIx43, ↓exAt50, ↓exIx50, ↓exAt51, ↓exIx51, ↓exAt52, ↓exIx52, ↓exAt53, ↓exIx53, ↓exAt54, ↓exIx54, ↓exAt60, ↓exIx60, ↓exAt61, ↓exIx61, ↓exAt62, ↓exIx62, ↓exAt63, ↓exIx63, ↓exAt64, ↓exIx64, ↓exAt65, ↓exIx65, up_up, false_or, or_false, ↓exAtM, ↓dFlag_bl, ↓exBl, ↓exInt, ↓exRef, ↓dVar0, ↓dAug0, ↓dSet0, ↓dTgN0, ↓dTgW0, ↓dVar1, ↓dAug1, ↓dSet1, ↓dTgN1, ↓dTgW1, ↓dVar2, ↓dAug2, ↓dSet2, ↓dTgN2, ↓dTgW2, ↓dVar3, ↓dAug3, ↓dSet3, ↓dTgN3, ↓dTgW3, ↓dVar4, ↓dAug4, ↓dSet4, ↓dTgN4, ↓dTgW4, ↓dVar5, ↓dAug5, ↓dSet5, ↓dTgN5, ↓dTgW5, ↓dVar6, ↓dAug6, ↓dSet6, ↓dTgN6, ↓dTgW6, ↓dVar7, ↓dAug7, ↓dSet7, ↓dTgN7, ↓dTgW7, ↓dVar8, ↓dAug8, ↓dSet8, ↓dTgN8, ↓dTgW8, ↓dVar9, ↓dAug9, ↓dSet9, ↓dTgN9, ↓dTgW9, ↓dVar10, ↓dAug10, ↓dSet10, ↓dTgN10, ↓dTgW10, ↓dVar11, ↓dAug11, ↓dSet11, ↓dTgN11, ↓dTgW11, ↓dVar12, ↓dAug12, ↓dSet12, ↓dTgN12, ↓dTgW12, ↓dVar13, ↓dAug13, ↓dSet13, ↓dTgN13, ↓dTgW13, ↓dVar14, ↓dAug14, ↓dSet14, ↓dTgN14, ↓dTgW14, ↓dVar15, ↓dAug15, ↓dSet15, ↓dTgN15, ↓dTgW15, ↓dVar16, ↓dAug16, ↓dSet16, ↓dTgN16, ↓dTgW16, ↓dVar17, ↓dAug17, ↓dSet17, ↓dTgN17, ↓dTgW17, ↓dVar18, ↓dAug18, ↓dSet18, ↓dTgN18, ↓dTgW18, ↓dVar19, ↓dAug19, ↓dSet19, ↓dTgN19, ↓dTgW19, ↓dTg_t2, ↓dTg_t3, ↓exGetM, ↓exSumU, nD, plD, rwD, ↓dAdd_tup, ↓dAdd_ref, dSIndex, dInS, dKeysI, dValsI, dItemsI, dMulS, dEqK, dNeK, dClrK, dCntS]
    simp (config := {failIfUnchanged := false}) only [dC, dOp, dTest, dChain, dAnd, dOr, dNot, dAndV, dOrV, dNotV, dIf, dNil, dCons, dTup, dLst, dCB, d1, dIx, dNoPart, dPart, dSl, dCut, dNeg, dLen, dTupOf, dListOf, dSorted, dSum, dAll, dAny, dInt, dAbs, dMax, dMin, dIsi, isT, dNext, dSeq, dBrk, dCont, dNever, dExpr, dRet, dRetN, dIfS, dAsg, dPutI, dI0, dI, dIsN, dNotN, dSeqI, dRng1, dRng2, dRngDn, dEnumI, dZipI, dYes, dCall, dLM, dAppend, dExtend, dReverse, dInsert, dAugI, dRg1, dRg2, dTupRg, dLstRg, dNewK, dNewT, ↓S0_, ↓S1_, ↓S2_, ↓S3_, ↓S4_, ↓S5_, ↓S6_, List.map_cons, List.map_nil, List.length_cons, List.length_nil, List.replicate, List.cons_append, List.nil_append, Nat.reduceAdd, Nat.reduceSub, Nat.zero_add, List.getElem?_cons_zero, List.getElem?_cons_succ, Option.some.injEq, exists_eq_left, exists_eq_left', List.set_cons_zero, List.set_cons_succ, wipeD, D.int.injEq, D.bl.injEq, D.str.injEq, D.ref.injEq, D.tup.injEq, D.ty.injEq, true_and, and_true, forall_const, forall_eq', forall_eq, mt_int, mt_bool, mt_str, mt_tuple, mt_list, mt_dict, st_int_int, st_int_bool, st_int_str, st_int_tuple, st_int_list, st_int_dict, st_bool_int, st_bool_bool, st_bool_str, st_bool_tuple, st_bool_list, st_bool_dict, st_str_int, st_str_bool, st_str_str, st_str_tuple, st_str_list, st_str_dict, st_tuple_int, st_tuple_bool, st_tuple_str, st_tuple_tuple, st_tuple_list, st_tuple_dict, st_list_int, st_list_bool, st_list_str, st_list_tuple, st_list_list, st_list_dict, st_dict_int, st_dict_bool, st_dict_str, st_dict_tuple, st_dict_list, st_dict_dict, eq_self, Bool.true_eq_false, Bool.false_eq_true, false_implies, true_implies, implies_true, decide_eq_true_eq, decide_eq_false_iff_not, Bool.not_true, Bool.not_false, Bool.not_eq_true, Bool.not_eq_false, Bool.not_eq_true', Bool.not_eq_false', not_true_eq_false, not_false_eq_true, false_and, and_false, or_false, false_or, reduceCtorEq, ↓exLSu, ↓exDKu, ↓exDKd, ↓exLSd, ↓exLu, ↓dIxRu, ↓dPutu, ↓dGetAu, ↓dEq_int, ↓dNe_int, ↓dEq_bl, ↓dNe_bl, ↓dEq_str, ↓dNe_str, ↓dAdd_int, ↓exAt10, ↓exIx10, ↓exAt20, ↓exIx20, ↓exAt21, ↓exIx21, ↓exAt30, ↓exIx30, ↓exAt31, ↓exIx31, ↓exAt32, ↓exIx32, ↓exAt40, ↓exIx40, ↓exAt41, ↓exIx41, ↓exAt42, ↓exIx42, ↓exAt43, ↓exIx43, ↓exAt50, ↓exIx50, ↓exAt51, ↓exIx51, ↓exAt52, ↓exIx52, ↓exAt53, ↓exIx53, ↓exAt54, ↓exIx54, ↓exAt60, ↓exIx60, ↓exAt61, ↓exIx61, ↓exAt62, ↓exIx62, ↓exAt63, ↓exIx63, ↓exAt64, ↓exIx64, ↓exAt65, ↓exIx65, up_up, false_or, or_false, ↓exAtM, ↓dFlag_bl, ↓exBl, ↓exInt, ↓exRef, ↓dVar0, ↓dAug0, ↓dSet0, ↓dTgN0, ↓dTgW0, ↓dVar1, ↓dAug1, ↓dSet1, ↓dTgN1, ↓dTgW1, ↓dVar2, ↓dAug2, ↓dSet2, ↓dTgN2, ↓dTgW2, ↓dVar3, ↓dAug3, ↓dSet3, ↓dTgN3, ↓dTgW3, ↓dVar4, ↓dAug4, ↓dSet4, ↓dTgN4, ↓dTgW4, ↓dVar5, ↓dAug5, ↓dSet5, ↓dTgN5, ↓dTgW5, ↓dVar6, ↓dAug6, ↓dSet6, ↓dTgN6, ↓dTgW6, ↓dVar7, ↓dAug7, ↓dSet7, ↓dTgN7, ↓dTgW7, ↓dVar8, ↓dAug8, ↓dSet8, ↓dTgN8, ↓dTgW8, ↓dVar9, ↓dAug9, ↓dSet9, ↓dTgN9, ↓dTgW9, ↓dVar10, ↓dAug10, ↓dSet10, ↓dTgN10, ↓dTgW10, ↓dVar11, ↓dAug11, ↓dSet11, ↓dTgN11, ↓dTgW11, ↓dVar12, ↓dAug12, ↓dSet12, ↓dTgN12, ↓dTgW12, ↓dVar13, ↓dAug13, ↓dSet13, ↓dTgN13, ↓dTgW13, ↓dVar14, ↓dAug14, ↓dSet14, ↓dTgN14, ↓dTgW14, ↓dVar15, ↓dAug15, ↓dSet15, ↓dTgN15, ↓dTgW15, ↓dVar16, ↓dAug16, ↓dSet16, ↓dTgN16, ↓dTgW16, ↓dVar17, ↓dAug17, ↓dSet17, ↓dTgN17, ↓dTgW17, ↓dVar18, ↓dAug18, ↓dSet18, ↓dTgN18, ↓dTgW18, ↓dVar19, ↓dAug19, ↓dSet19, ↓dTgN19, ↓dTgW19, ↓dTg_t2, ↓dTg_t3, ↓exGetM, ↓exSumU, nD, plD, rwD, ↓dAdd_tup, ↓dAdd_ref, dSIndex, dInS, dKeysI, dValsI, dItemsI, dMulS, dEqK, dNeK, dClrK, dCntS]
    refine ⟨gD g, od, ws, hz1, hlen, dcM (fun e : Str × List Str => D.str e.1) (fun e => .inr e.1) (fun e => nD (nd_ g (t + 1) e.1)) g hkl (fun l e tt pre2 acc P2 ee hP2 => ?_) ⟨hz1, fun q hq => ?_⟩⟩
    · have he : e ∈ g := by rw [ee]; simp
      obtain ⟨e4, eo⟩ := hg.left e he
      have hm1 : e.1 ∈ g.map (·.1) := List.mem_map.mpr ⟨e, he, rfl⟩
      refine ⟨hz1, ?_⟩
      subst t3; subst u3; subst v3
      simp (config := {failIfUnchanged := false}) only [dC, dOp, dTest, dChain, dAnd, dOr, dNot, dAndV, dOrV, dNotV, dIf, dNil, dCons, dTup, dLst, dCB, d1, dIx, dNoPart, dPart, dSl, dCut, dNeg, dLen, dTupOf, dListOf, dSorted, dSum, dAll, dAny, dInt, dAbs, dMax, dMin, dIsi, isT, dNext, dSeq, dBrk, dCont, dNever, dExpr, dRet, dRetN, dIfS, dAsg, dPutI, dI0, dI, dIsN, dNotN, dSeqI, dRng1, dRng2, dRngDn, dEnumI, dZipI, dYes, dCall, dLM, dAppend, dExtend, dReverse, dInsert, dAugI, dRg1, dRg2, dTupRg, dLstRg, dNewK, dNewT, ↓S0_, ↓S1_, ↓S2_, ↓S3_, ↓S4_, ↓S5_, ↓S6_, List.map_cons, List.map_nil, List.length_cons, List.length_nil, List.replicate, List.cons_append, List.nil_append, Nat.reduceAdd, Nat.reduceSub, Nat.zero_add, List.getElem?_cons_zero, List.getElem?_cons_succ, Option.some.injEq, exists_eq_left, exists_eq_left', List.set_cons_zero, List.set_cons_succ, wipeD, D.int.injEq, D.bl.injEq, D.str.injEq, D.ref.injEq, D.tup.injEq, D.ty.injEq, true_and, and_true, forall_const, forall_eq', forall_eq, mt_int, mt_bool, mt_str, mt_tuple, mt_list, mt_dict, st_int_int, st_int_bool, st_int_str, st_int_tuple, st_int_list, st_int_dict, st_bool_int, st_bool_bool, st_bool_str, st_bool_tuple, st_bool_list, st_bool_dict, st_str_int, st_str_bool, st_str_str, st_str_tuple, st_str_list, st_str_dict, st_tuple_int, st_tuple_bool, st_tuple_str, st_tuple_tuple, st_tuple_list, st_tuple_dict, st_list_int, st_list_bool, st_list_str, st_list_tuple, st_list_list, st_list_dict, st_dict_int, st_dict_bool, st_dict_str, st_dict_tuple, st_dict_list, st_dict_dict, eq_self, Bool.true_eq_false, Bool.false_eq_true, false_implies, true_implies, implies_true, decide_eq_true_eq, decide_eq_false_iff_not, Bool.not_true, Bool.not_false, Bool.not_eq_true, Bool.not_eq_false, Bool.not_eq_true', Bool.not_eq_false', not_true_eq_false, not_false_eq_true, false_and, and_false, or_false, false_or, reduceCtorEq, ↓exLSu, ↓exDKu, ↓exDKd, ↓exLSd, ↓exLu, ↓dIxRu, ↓dPutu, ↓dGetAu, ↓dEq_int, ↓dNe_int, ↓dEq_bl, ↓dNe_bl, ↓dEq_str, ↓dNe_str, ↓dAdd_int, ↓exAt10, ↓exIx10, ↓exAt20, ↓exIx20, ↓exAt21, ↓exIx21, ↓exAt30, ↓exIx30, ↓exAt31, ↓exIx31, ↓exAt32, ↓exIx32, ↓exAt40, ↓exIx40, ↓exAt41, ↓exIx41, ↓exAt42, ↓exIx42, ↓exAt43, ↓exIx43, ↓exAt50, ↓exIx50, ↓exAt51, ↓exIx51, ↓exAt52, ↓exIx52, ↓exAt53, ↓exIx53, ↓exAt54, ↓exIx54, ↓exAt60, ↓exIx60, ↓exAt61, ↓exIx61, ↓exAt62, ↓exIx62, ↓exAt63, ↓exIx63, ↓exAt64, ↓exIx64, ↓exAt65, ↓exIx65, up_up, false_or, or_false, ↓exAtM, ↓dFlag_bl, ↓exBl, ↓exInt, ↓exRef, ↓dVar0, ↓dAug0, ↓dSet0, ↓dTgN0, ↓dTgW0, ↓dVar1, ↓dAug1, ↓dSet1, ↓dTgN1, ↓dTgW1, ↓dVar2, ↓dAug2, ↓dSet2, ↓dTgN2, ↓dTgW2, ↓dVar3, ↓dAug3, ↓dSet3, ↓dTgN3, ↓dTgW3, ↓dVar4, ↓dAug4, ↓dSet4, ↓dTgN4, ↓dTgW4, ↓dVar5, ↓dAug5, ↓dSet5, ↓dTgN5, ↓dTgW5, ↓dVar6, ↓dAug6, ↓dSet6, ↓dTgN6, ↓dTgW6, ↓dVar7, ↓dAug7, ↓dSet7, ↓dTgN7, ↓dTgW7, ↓dVar8, ↓dAug8, ↓dSet8, ↓dTgN8, ↓dTgW8, ↓dVar9, ↓dAug9, ↓dSet9, ↓dTgN9, ↓dTgW9, ↓dVar10, ↓dAug10, ↓dSet10, ↓dTgN10, ↓dTgW10, ↓dVar11, ↓dAug11, ↓dSet11, ↓dTgN11, ↓dTgW11, ↓dVar12, ↓dAug12, ↓dSet12, ↓dTgN12, ↓dTgW12, ↓dVar13, ↓dAug13, ↓dSet13, ↓dTgN13, ↓dTgW13, ↓dVar14, ↓dAug14, ↓dSet14, ↓dTgN14, ↓dTgW14, ↓dVar15, ↓dAug15, ↓dSet15, ↓dTgN15, ↓dTgW15, ↓dVar16, ↓dAug16, ↓dSet16, ↓dTgN16, ↓dTgW16, ↓dVar17, ↓dAug17, ↓dSet17, ↓dTgN17, ↓dTgW17, ↓dVar18, ↓dAug18, ↓dSet18, ↓dTgN18, ↓dTgW18, ↓dVar19, ↓dAug19, ↓dSet19, ↓dTgN19, ↓dTgW19, ↓dTg_t2, ↓dTg_t3, ↓exGetM, ↓exSumU, nD, plD, rwD, ↓dAdd_tup, ↓dAdd_ref, dSIndex, dInS, dKeysI, dValsI, dItemsI, dMulS, dEqK, dNeK, dClrK, dCntS]
      refine dLc_g fun F4 T4 U4 h4 t4 u4 => ?_; simp only [dLc, dC, dOp, dTest, dChain, dAnd, dOr, dNot, dAndV, dOrV, dNotV, dIf, dNil, dCons, dTup, dLst, dCB, d1, dIx, dNoPart, dPart, dSl, dCut, dNeg, dLen, dTupOf, dListOf, dSorted, dSum, dAll, dAny, dInt, dAbs, dMax, dMin, dIsi, isT, dNext, dSeq, dBrk, dCont, dNever, dExpr, dRet, dRetN, dIfS, dAsg, dPutI, dI0, dI, dIsN, dNotN, dSeqI, dRng1, dRng2, dRngDn, dEnumI, dZipI, dYes, dCall, dLM, dAppend, dExtend, dReverse, dInsert, dAugI, dRg1, dRg2, dTupRg, dLstRg, dNewK, dNewT, ↓S0_, ↓S1_, ↓S2_, ↓S3_, ↓S4_, ↓S5_, ↓S6_, List.map_cons, List.map_nil, List.length_cons, List.length_nil, List.replicate, List.cons_append, List.nil_append, Nat.reduceAdd, Nat.reduceSub, Nat.zero_add, List.getElem?_cons_zero, List.getElem?_cons_succ, Option.some.injEq, exists_eq_left, exists_eq_left', List.set_cons_zero, List.set_cons_succ, wipeD, D.int.injEq, D.bl.injEq, D.str.injEq, D.ref.injEq, D.tup.injEq, D.ty.injEq, true_and, and_true, forall_const, forall_eq', forall_eq, mt_int, mt_bool, mt_str, mt_tuple, mt_list, mt_dict, st_int_int, st_int_bool, st_int_str, st_int_tuple, st_int_list, st_int_dict, st_bool_int, st_bool_bool, st_bool_str, st_bool_tuple, st_bool_list, st_bool_dict, st_str_int, st_str_bool, st_str_str, st_str_tuple, st_str_list, st_str_dict, st_tuple_int, st_tuple_bool, st_tuple_str, st_tuple_tuple, st_tuple_list, st_tuple_dict, st_list_int, st_list_bool, st_list_str, st_list_tuple, st_list_list, st_list_dict, st_dict_int, st_dict_bool, st_dict_str, st_dict_tuple, st_dict_list, st_dict_dict, eq_self, Bool.true_eq_false, Bool.false_eq_true, false_implies, true_implies, implies_true, decide_eq_true_eq, decide_eq_false_iff_not, Bool.not_true, Bool.not_false, Bool.not_eq_true, Bool.not_eq_false, Bool.not_eq_true', Bool.not_eq_false', not_true_eq_false, not_false_eq_true, false_and, and_false, or_false, false_or, reduceCtorEq, ↓exLSu, ↓exDKu, ↓exDKd, ↓exLSd, ↓exLu, ↓dIxRu, ↓dPutu, ↓dGetAu, ↓dEq_int, ↓dNe_int, ↓dEq_bl, ↓dNe_bl, ↓dEq_str, ↓dNe_str, ↓dAdd_int, ↓exAt10, ↓exIx10, ↓exAt20, ↓exIx20, ↓exAt21, ↓exIx21, ↓exAt30, ↓exIx30, ↓exAt31, ↓exIx31, ↓exAt32, ↓exIx32, ↓exAt40, ↓exIx40, ↓exAt41, ↓exIx41, ↓exAt42, ↓exIx42, ↓exAt43, ↓exIx43, ↓exAt50, ↓exIx50, ↓exAt51, ↓exIx51, ↓exAt52, ↓exIx52, ↓exAt53, ↓exIx53, ↓exAt54, ↓exIx54, ↓exAt60, ↓exIx60, ↓exAt61, ↓exIx61, ↓exAt62, ↓exIx62, ↓exAt63, ↓exIx63, ↓exAt64, ↓exIx64, ↓exAt65, ↓exIx65, up_up, false_or, or_false, ↓exAtM, ↓dFlag_bl, ↓exBl, ↓exInt, ↓exRef, ↓dVar0, ↓dAug0, ↓dSet0, ↓dTgN0, ↓dTgW0, ↓dVar1, ↓dAug1, ↓dSet1, ↓dTgN1, ↓dTgW1, ↓dVar2, ↓dAug2, ↓dSet2, ↓dTgN2, ↓dTgW2, ↓dVar3, ↓dAug3, ↓dSet3, ↓dTgN3, ↓dTgW3, ↓dVar4, ↓dAug4, ↓dSet4, ↓dTgN4, ↓dTgW4, ↓dVar5, ↓dAug5, ↓dSet5, ↓dTgN5, ↓dTgW5, ↓dVar6, ↓dAug6, ↓dSet6, ↓dTgN6, ↓dTgW6, ↓dVar7, ↓dAug7, ↓dSet7, ↓dTgN7, ↓dTgW7, ↓dVar8, ↓dAug8, ↓dSet8, ↓dTgN8, ↓dTgW8, ↓dVar9, ↓dAug9, ↓dSet9, ↓dTgN9, ↓dTgW9, ↓dVar10, ↓dAug10, ↓dSet10, ↓dTgN10, ↓dTgW10, ↓dVar11, ↓dAug11, ↓dSet11, ↓dTgN11, ↓dTgW11, ↓dVar12, ↓dAug12, ↓dSet12, ↓dTgN12, ↓dTgW12, ↓dVar13, ↓dAug13, ↓dSet13, ↓dTgN13, ↓dTgW13, ↓dVar14, ↓dAug14, ↓dSet14, ↓dTgN14, ↓dTgW14, ↓dVar15, ↓dAug15, ↓dSet15, ↓dTgN15, ↓dTgW15, ↓dVar16, ↓dAug16, ↓dSet16, ↓dTgN16, ↓dTgW16, ↓dVar17, ↓dAug17, ↓dSet17, ↓dTgN17, ↓dTgW17, ↓dVar18, ↓dAug18, ↓dSet18, ↓dTgN18, ↓dTgW18, ↓dVar19, ↓dAug19, ↓dSet19, ↓dTgN19, ↓dTgW19, ↓dTg_t2, ↓dTg_t3, ↓exGetM, ↓exSumU, nD, plD, rwD, ↓dAdd_tup, ↓dAdd_ref, dSIndex, dInS, dKeysI, dValsI, dItemsI, dMulS, dEqK, dNeK, dClrK, dCntS]
      refine .inr (.inl ⟨gD g, .inr e.1, .tup ((lf g e.1).map D.str), rfl, .inr ⟨od, ws, hz1⟩, val_g hg hm1, ?_⟩)
      simp (config := {failIfUnchanged := false}) only [dC, dOp, dTest, dChain, dAnd, dOr, dNot, dAndV, dOrV, dNotV, dIf, dNil, dCons, dTup, dLst, dCB, d1, dIx, dNoPart, dPart, dSl, dCut, dNeg, dLen, dTupOf, dListOf, dSorted, dSum, dAll, dAny, dInt, dAbs, dMax, dMin, dIsi, isT, dNext, dSeq, dBrk, dCont, dNever, dExpr, dRet, dRetN, dIfS, dAsg, dPutI, dI0, dI, dIsN, dNotN, dSeqI, dRng1, dRng2, dRngDn, dEnumI, dZipI, dYes, dCall, dLM, dAppend, dExtend, dReverse, dInsert, dAugI, dRg1, dRg2, dTupRg, dLstRg, dNewK, dNewT, ↓S0_, ↓S1_, ↓S2_, ↓S3_, ↓S4_, ↓S5_, ↓S6_, List.map_cons, List.map_nil, List.length_cons, List.length_nil, List.replicate, List.cons_append, List.nil_append, Nat.reduceAdd, Nat.reduceSub, Nat.zero_add, List.getElem?_cons_zero, List.getElem?_cons_succ, Option.some.injEq, exists_eq_left, exists_eq_left', List.set_cons_zero, List.set_cons_succ, wipeD, D.int.injEq, D.bl.injEq, D.str.injEq, D.ref.injEq, D.tup.injEq, D.ty.injEq, true_and, and_true, forall_const, forall_eq', forall_eq, mt_int, mt_bool, mt_str, mt_tuple, mt_list, mt_dict, st_int_int, st_int_bool, st_int_str, st_int_tuple, st_int_list, st_int_dict, st_bool_int, st_bool_bool, st_bool_str, st_bool_tuple, st_bool_list, st_bool_dict, st_str_int, st_str_bool, st_str_str, st_str_tuple, st_str_list, st_str_dict, st_tuple_int, st_tuple_bool, st_tuple_str, st_tuple_tuple, st_tuple_list, st_tuple_dict, st_list_int, st_list_bool, st_list_str, st_list_tuple, st_list_list, st_list_dict, st_dict_int, st_dict_bool, st_dict_str, st_dict_tuple, st_dict_list, st_dict_dict, eq_self, Bool.true_eq_false, Bool.false_eq_true, false_implies, true_implies, implies_true, decide_eq_true_eq, decide_eq_false_iff_not, Bool.not_true, Bool.not_false, Bool.not_eq_true, Bool.not_eq_false, Bool.not_eq_true', Bool.not_eq_false', not_true_eq_false, not_false_eq_true, false_and, and_false, or_false, false_or, reduceCtorEq, ↓exLSu, ↓exDKu, ↓exDKd, ↓exLSd, ↓exLu, ↓dIxRu, ↓dPutu, ↓dGetAu, ↓dEq_int, ↓dNe_int, ↓dEq_bl, ↓dNe_bl, ↓dEq_str, ↓dNe_str, ↓dAdd_int, ↓exAt10, ↓exIx10, ↓exAt20, ↓exIx20, ↓exAt21, ↓exIx21, ↓exAt30, ↓exIx30, ↓exAt31, ↓exIx31, ↓exAt32, ↓exIx32, ↓exAt40, ↓exIx40, ↓exAt41, ↓exIx41, ↓exAt42, ↓exIx42, ↓exAt43, ↓exIx43, ↓exAt50, ↓exIx50, ↓exAt51, ↓exIx51, ↓exAt52, ↓exIx52, ↓exAt53, ↓exIx53, ↓exAt54, ↓exIx54, ↓exAt60, ↓exIx60, ↓exAt61, ↓exIx61, ↓exAt62, ↓exIx62, ↓exAt63, ↓exIx63, ↓exAt64, ↓exIx64, ↓exAt65, ↓exIx65, up_up, false_or, or_false, ↓exAtM, ↓dFlag_bl, ↓exBl, ↓exInt, ↓exRef, ↓dVar0, ↓dAug0, ↓dSet0, ↓dTgN0, ↓dTgW0, ↓dVar1, ↓dAug1, ↓dSet1, ↓dTgN1, ↓dTgW1, ↓dVar2, ↓dAug2, ↓dSet2, ↓dTgN2, ↓dTgW2, ↓dVar3, ↓dAug3, ↓dSet3, ↓dTgN3, ↓dTgW3, ↓dVar4, ↓dAug4, ↓dSet4, ↓dTgN4, ↓dTgW4, ↓dVar5, ↓dAug5, ↓dSet5, ↓dTgN5, ↓dTgW5, ↓dVar6, ↓dAug6, ↓dSet6, ↓dTgN6, ↓dTgW6, ↓dVar7, ↓dAug7, ↓dSet7, ↓dTgN7, ↓dTgW7, ↓dVar8, ↓dAug8, ↓dSet8, ↓dTgN8, ↓dTgW8, ↓dVar9, ↓dAug9, ↓dSet9, ↓dTgN9, ↓dTgW9, ↓dVar10, ↓dAug10, ↓dSet10, ↓dTgN10, ↓dTgW10, ↓dVar11, ↓dAug11, ↓dSet11, ↓dTgN11, ↓dTgW11, ↓dVar12, ↓dAug12, ↓dSet12, ↓dTgN12, ↓dTgW12, ↓dVar13, ↓dAug13, ↓dSet13, ↓dTgN13, ↓dTgW13, ↓dVar14, ↓dAug14, ↓dSet14, ↓dTgN14, ↓dTgW14, ↓dVar15, ↓dAug15, ↓dSet15, ↓dTgN15, ↓dTgW15, ↓dVar16, ↓dAug16, ↓dSet16, ↓dTgN16, ↓dTgW16, ↓dVar17, ↓dAug17, ↓dSet17, ↓dTgN17, ↓dTgW17, ↓dVar18, ↓dAug18, ↓dSet18, ↓dTgN18, ↓dTgW18, ↓dVar19, ↓dAug19, ↓dSet19, ↓dTgN19, ↓dTgW19, ↓dTg_t2, ↓dTg_t3, ↓exGetM, ↓exSumU, nD, plD, rwD, ↓dAdd_tup, ↓dAdd_ref, dSIndex, dInS, dKeysI, dValsI, dItemsI, dMulS, dEqK, dNeK, dClrK, dCntS]
      have el := lf_of hg he
      refine ⟨by rw [List.length_map, el]; exact Nat.le_trans e4 (by decide), lcM D.str (fun o => nD (nd_ g t o)) (lf g e.1) rfl (fun l2 o tt2 pre3 acc2 P3 e2 hP3 => ?_) (fun f hf => ?_)⟩
      · have ho := eo o (by rw [← el, e2]; simp)
        subst t4; subst u4
        simp (config := {failIfUnchanged := false}) only [dC, dOp, dTest, dChain, dAnd, dOr, dNot, dAndV, dOrV, dNotV, dIf, dNil, dCons, dTup, dLst, dCB, d1, dIx, dNoPart, dPart, dSl, dCut, dNeg, dLen, dTupOf, dListOf, dSorted, dSum, dAll, dAny, dInt, dAbs, dMax, dMin, dIsi, isT, dNext, dSeq, dBrk, dCont, dNever, dExpr, dRet, dRetN, dIfS, dAsg, dPutI, dI0, dI, dIsN, dNotN, dSeqI, dRng1, dRng2, dRngDn, dEnumI, dZipI, dYes, dCall, dLM, dAppend, dExtend, dReverse, dInsert, dAugI, dRg1, dRg2, dTupRg, dLstRg, dNewK, dNewT, ↓S0_, ↓S1_, ↓S2_, ↓S3_, ↓S4_, ↓S5_, ↓S6_, List.map_cons, List.map_nil, List.length_cons, List.length_nil, List.replicate, List.cons_append, List.nil_append, Nat.reduceAdd, Nat.reduceSub, Nat.zero_add, List.getElem?_cons_zero, List.getElem?_cons_succ, Option.some.injEq, exists_eq_left, exists_eq_left', List.set_cons_zero, List.set_cons_succ, wipeD, D.int.injEq, D.bl.injEq, D.str.injEq, D.ref.injEq, D.tup.injEq, D.ty.injEq, true_and, and_true, forall_const, forall_eq', forall_eq, mt_int, mt_bool, mt_str, mt_tuple, mt_list, mt_dict, st_int_int, st_int_bool, st_int_str, st_int_tuple, st_int_list, st_int_dict, st_bool_int, st_bool_bool, st_bool_str, st_bool_tuple, st_bool_list, st_bool_dict, st_str_int, st_str_bool, st_str_str, st_str_tuple, st_str_list, st_str_dict, st_tuple_int, st_tuple_bool, st_tuple_str, st_tuple_tuple, st_tuple_list, st_tuple_dict, st_list_int, st_list_bool, st_list_str, st_list_tuple, st_list_list, st_list_dict, st_dict_int, st_dict_bool, st_dict_str, st_dict_tuple, st_dict_list, st_dict_dict, eq_self, Bool.true_eq_false, Bool.false_eq_true, false_implies, true_implies, implies_true, decide_eq_true_eq, decide_eq_false_iff_not, Bool.not_true, Bool.not_false, Bool.not_eq_true, Bool.not_eq_false, Bool.not_eq_true', Bool.not_eq_false', not_true_eq_false, not_false_eq_true, false_and, and_false, or_false, false_or, reduceCtorEq, ↓exLSu, ↓exDKu, ↓exDKd, ↓exLSd, ↓exLu, ↓dIxRu, ↓dPutu, ↓dGetAu, ↓dEq_int, ↓dNe_int, ↓dEq_bl, ↓dNe_bl, ↓dEq_str, ↓dNe_str, ↓dAdd_int, ↓exAt10, ↓exIx10, ↓exAt20, ↓exIx20, ↓exAt21, ↓exIx21, ↓exAt30, ↓exIx30, ↓exAt31, ↓exIx31, ↓exAt32, ↓exIx32, ↓exAt40, ↓exIx40, ↓exAt41, ↓exIx41, ↓exAt42, ↓exIx42, ↓exAt43, ↓exIx43, ↓exAt50, ↓exIx50, ↓exAt51, ↓exIx51, ↓exAt52, ↓exIx52, ↓exAt53, ↓exIx53, ↓exAt54, ↓exIx54, ↓exAt60, ↓exIx60, ↓exAt61, ↓exIx61, ↓exAt62, ↓exIx62, ↓exAt63, ↓exIx63, ↓exAt64, ↓exIx64, ↓exAt65, ↓exIx65, up_up, false_or, or_false, ↓exAtM, ↓dFlag_bl, ↓exBl, ↓exInt, ↓exRef, ↓dVar0, ↓dAug0, ↓dSet0, ↓dTgN0, ↓dTgW0, ↓dVar1, ↓dAug1, ↓dSet1, ↓dTgN1, ↓dTgW1, ↓dVar2, ↓dAug2, ↓dSet2, ↓dTgN2, ↓dTgW2, ↓dVar3, ↓dAug3, ↓dSet3, ↓dTgN3, ↓dTgW3, ↓dVar4, ↓dAug4, ↓dSet4, ↓dTgN4, ↓dTgW4, ↓dVar5, ↓dAug5, ↓dSet5, ↓dTgN5, ↓dTgW5, ↓dVar6, ↓dAug6, ↓dSet6, ↓dTgN6, ↓dTgW6, ↓dVar7, ↓dAug7, ↓dSet7, ↓dTgN7, ↓dTgW7, ↓dVar8, ↓dAug8, ↓dSet8, ↓dTgN8, ↓dTgW8, ↓dVar9, ↓dAug9, ↓dSet9, ↓dTgN9, ↓dTgW9, ↓dVar10, ↓dAug10, ↓dSet10, ↓dTgN10, ↓dTgW10, ↓dVar11, ↓dAug11, ↓dSet11, ↓dTgN11, ↓dTgW11, ↓dVar12, ↓dAug12, ↓dSet12, ↓dTgN12, ↓dTgW12, ↓dVar13, ↓dAug13, ↓dSet13, ↓dTgN13, ↓dTgW13, ↓dVar14, ↓dAug14, ↓dSet14, ↓dTgN14, ↓dTgW14, ↓dVar15, ↓dAug15, ↓dSet15, ↓dTgN15, ↓dTgW15, ↓dVar16, ↓dAug16, ↓dSet16, ↓dTgN16, ↓dTgW16, ↓dVar17, ↓dAug17, ↓dSet17, ↓dTgN17, ↓dTgW17, ↓dVar18, ↓dAug18, ↓dSet18, ↓dTgN18, ↓dTgW18, ↓dVar19, ↓dAug19, ↓dSet19, ↓dTgN19, ↓dTgW19, ↓dTg_t2, ↓dTg_t3, ↓exGetM, ↓exSumU, nD, plD, rwD, ↓dAdd_tup, ↓dAdd_ref, dSIndex, dInS, dKeysI, dValsI, dItemsI, dMulS, dEqK, dNeK, dClrK, dCntS]
        exact .inr (.inl ⟨ndK g t, .inr o, _, rfl, .inl hqz, val_nd hg t ho, sb0 hP3⟩)
      · rw [h4]
        clear h4 t4 u4
        simp (config := {failIfUnchanged := false}) only [dC, dOp, dTest, dChain, dAnd, dOr, dNot, dAndV, dOrV, dNotV, dIf, dNil, dCons, dTup, dLst, dCB, d1, dIx, dNoPart, dPart, dSl, dCut, dNeg, dLen, dTupOf, dListOf, dSorted, dSum, dAll, dAny, dInt, dAbs, dMax, dMin, dIsi, isT, dNext, dSeq, dBrk, dCont, dNever, dExpr, dRet, dRetN, dIfS, dAsg, dPutI, dI0, dI, dIsN, dNotN, dSeqI, dRng1, dRng2, dRngDn, dEnumI, dZipI, dYes, dCall, dLM, dAppend, dExtend, dReverse, dInsert, dAugI, dRg1, dRg2, dTupRg, dLstRg, dNewK, dNewT, ↓S0_, ↓S1_, ↓S2_, ↓S3_, ↓S4_, ↓S5_, ↓S6_, List.map_cons, List.map_nil, List.length_cons, List.length_nil, List.replicate, List.cons_append, List.nil_append, Nat.reduceAdd, Nat.reduceSub, Nat.zero_add, List.getElem?_cons_zero, List.getElem?_cons_succ, Option.some.injEq, exists_eq_left, exists_eq_left', List.set_cons_zero, List.set_cons_succ, wipeD, D.int.injEq, D.bl.injEq, D.str.injEq, D.ref.injEq, D.tup.injEq, D.ty.injEq, true_and, and_true, forall_const, forall_eq', forall_eq, mt_int, mt_bool, mt_str, mt_tuple, mt_list, mt_dict, st_int_int, st_int_bool, st_int_str, st_int_tuple, st_int_list, st_int_dict, st_bool_int, st_bool_bool, st_bool_str, st_bool_tuple, st_bool_list, st_bool_dict, st_str_int, st_str_bool, st_str_str, st_str_tuple, st_str_list, st_str_dict, st_tuple_int, st_tuple_bool, st_tuple_str, st_tuple_tuple, st_tuple_list, st_tuple_dict, st_list_int, st_list_bool, st_list_str, st_list_tuple, st_list_list, st_list_dict, st_dict_int, st_dict_bool, st_dict_str, st_dict_tuple, st_dict_list, st_dict_dict, eq_self, Bool.true_eq_false, Bool.false_eq_true, false_implies, true_implies, implies_true, decide_eq_true_eq, decide_eq_false_iff_not, Bool.not_true, Bool.not_false, Bool.not_eq_true, Bool.not_eq_false, Bool.not_eq_true', Bool.not_eq_false', not_true_eq_false, not_false_eq_true, false_and, and_false, or_false, false_or, reduceCtorEq, ↓exLSu, ↓exDKu, ↓exDKd, ↓exLSd, ↓exLu, ↓dIxRu, ↓dPutu, ↓dGetAu, ↓dEq_int, ↓dNe_int, ↓dEq_bl, ↓dNe_bl, ↓dEq_str, ↓dNe_str, ↓dAdd_int, ↓exAt10, ↓exIx10, ↓exAt20, ↓exIx20, ↓exAt21, ↓exIx21, ↓exAt30, ↓exIx30, ↓exAt31, ↓exIx31, ↓exAt32, ↓exIx32, ↓exAt40, ↓exIx40, ↓exAt41, ↓exIx41, ↓exAt42, ↓exIx42, ↓exAt43, ↓exIx43, ↓exAt50, ↓exIx50, ↓exAt51, ↓exIx51, ↓exAt52, ↓exIx52, ↓exAt53, ↓exIx53, ↓exAt54, ↓exIx54, ↓exAt60, ↓exIx60, ↓exAt61, ↓exIx61, ↓exAt62, ↓exIx62, ↓exAt63, ↓exIx63, ↓exAt64, ↓exIx64, ↓exAt65, ↓exIx65, up_up, false_or, or_false, ↓exAtM, ↓dFlag_bl, ↓exBl, ↓exInt, ↓exRef, ↓dVar0, ↓dAug0, ↓dSet0, ↓dTgN0, ↓dTgW0, ↓dVar1, ↓dAug1, ↓dSet1, ↓dTgN1, ↓dTgW1, ↓dVar2, ↓dAug2, ↓dSet2, ↓dTgN2, ↓dTgW2, ↓dVar3, ↓dAug3, ↓dSet3, ↓dTgN3, ↓dTgW3, ↓dVar4, ↓dAug4, ↓dSet4, ↓dTgN4, ↓dTgW4, ↓dVar5, ↓dAug5, ↓dSet5, ↓dTgN5, ↓dTgW5, ↓dVar6, ↓dAug6, ↓dSet6, ↓dTgN6, ↓dTgW6, ↓dVar7, ↓dAug7, ↓dSet7, ↓dTgN7, ↓dTgW7, ↓dVar8, ↓dAug8, ↓dSet8, ↓dTgN8, ↓dTgW8, ↓dVar9, ↓dAug9, ↓dSet9, ↓dTgN9, ↓dTgW9, ↓dVar10, ↓dAug10, ↓dSet10, ↓dTgN10, ↓dTgW10, ↓dVar11, ↓dAug11, ↓dSet11, ↓dTgN11, ↓dTgW11, ↓dVar12, ↓dAug12, ↓dSet12, ↓dTgN12, ↓dTgW12, ↓dVar13, ↓dAug13, ↓dSet13, ↓dTgN13, ↓dTgW13, ↓dVar14, ↓dAug14, ↓dSet14, ↓dTgN14, ↓dTgW14, ↓dVar15, ↓dAug15, ↓dSet15, ↓dTgN15, ↓dTgW15, ↓dVar16, ↓dAug16, ↓dSet16, ↓dTgN16, ↓dTgW16, ↓dVar17, ↓dAug17, ↓dSet17, ↓dTgN17, ↓dTgW17, ↓dVar18, ↓dAug18, ↓dSet18, ↓dTgN18, ↓dTgW18, ↓dVar19, ↓dAug19, ↓dSet19, ↓dTgN19, ↓dTgW19, ↓dTg_t2, ↓dTg_t3, ↓exGetM, ↓exSumU, nD, plD, rwD, ↓dAdd_tup, ↓dAdd_ref, dSIndex, dInS, dKeysI, dValsI, dItemsI, dMulS, dEqK, dNeK, dClrK, dCntS, LS_up]
        refine ⟨((lf g e.1).map fun o => nd_ g t o).map fun n : Nat => (n : Int), by rw [nD_ints, List.map_map]; rfl, .inr e.1, rfl, ?_⟩
        have ev : D.int (1 + (((lf g e.1).map fun o => nd_ g t o).map fun n : Nat => (n : Int)).sum) = nD (nd_ g (t + 1) e.1) := by
          rw [sumN]
          show D.int _ = D.int ((1 + ((lf g e.1).map fun o => nd_ g t o).sum : Nat) : Int)
          rw [Int.natCast_add]; rfl
        rw [ev]
        exact snb hf hP2
    rw [h3]
    clear h3 t3 u3 v3
    rw [fin0 (t + 1)]
    have nqp : q ≠ p := by rintro rfl; rw [hz1] at hq; cases hq
    have hqM1 : M1 q = none := by rw [← hMz1, up_ne nqp] at hq; exact hq
    refine ⟨by rw [up_ne nqp.symm]; exact hz1, ?_⟩
    rw [← hMz1, swap M1 od ws q _ nqp hp1]
    exact sb0 (hP _ _ ⟨(Sub.new hqM1 (by intro _ z; cases z)).trans s1, q, s1.free hqM1, up_same, _, rfl⟩)
  · rintro δ' M1 ⟨s1, q1, hq1, hq1', a, rfl⟩
    rw [rg_len] at hq1'
    rw [h2]
    clear h2 t2
    simp (config := {failIfUnchanged := false}) only [dC, dOp, dTest, dChain, dAnd, dOr, dNot, dAndV, dOrV, dNotV, dIf, dNil, dCons, dTup, dLst, dCB, d1, dIx, dNoPart, dPart, dSl, dCut, dNeg, dLen, dTupOf, dListOf, dSorted, dSum, dAll, dAny, dInt, dAbs, dMax, dMin, dIsi, isT, dNext, dSeq, dBrk, dCont, dNever, dExpr, dRet, dRetN, dIfS, dAsg, dPutI, dI0, dI, dIsN, dNotN, dSeqI, dRng1, dRng2, dRngDn, dEnumI, dZipI, dYes, dCall, dLM, dAppend, dExtend, dReverse, dInsert, dAugI, dRg1, dRg2, dTupRg, dLstRg, dNewK, dNewT, ↓S0_, ↓S1_, ↓S2_, ↓S3_, ↓S4_, ↓S5_, ↓S6_, List.map_cons, List.map_nil, List.length_cons, List.length_nil, List.replicate, List.cons_append, List.nil_append, Nat.reduceAdd, Nat.reduceSub, Nat.zero_add, List.getElem?_cons_zero, List.getElem?_cons_succ, Option.some.injEq, exists_eq_left, exists_eq_left', List.set_cons_zero, List.set_cons_succ, wipeD, D.int.injEq, D.bl.injEq, D.str.injEq, D.ref.injEq, D.tup.injEq, D.ty.injEq, true_and, and_true, forall_const, forall_eq', forall_eq, mt_int, mt_bool, mt_str, mt_tuple, mt_list, mt_dict, st_int_int, st_int_bool, st_int_str, st_int_tuple, st_int_list, st_int_dict, st_bool_int, st_bool_bool, st_bool_str, st_bool_tuple, st_bool_list, st_bool_dict, st_str_int, st_str_bool, st_str_str, st_str_tuple, st_str_list, st_str_dict, st_tuple_int, st_tuple_bool, st_tuple_str, st_tuple_tuple, st_tuple_list, st_tuple_dict, st_list_int, st_list_bool, st_list_str, st_list_tuple, st_list_list, st_list_dict, st_dict_int, st_dict_bool, st_dict_str, st_dict_tuple, st_dict_list, st_dict_dict, eq_self, Bool.true_eq_false, Bool.false_eq_true, false_implies, true_implies, implies_true, decide_eq_true_eq, decide_eq_false_iff_not, Bool.not_true, Bool.not_false, Bool.not_eq_true, Bool.not_eq_false, Bool.not_eq_true', Bool.not_eq_false', not_true_eq_false, not_false_eq_true, false_and, and_false, or_false, false_or, reduceCtorEq, ↓exLSu, ↓exDKu, ↓exDKd, ↓exLSd, ↓exLu, ↓dIxRu, ↓dPutu, ↓dGetAu, ↓dEq_int, ↓dNe_int, ↓dEq_bl, ↓dNe_bl, ↓dEq_str, ↓dNe_str, ↓dAdd_int, ↓exAt10, ↓exIx10, ↓exAt20, ↓exIx20, ↓exAt21, ↓exIx21, ↓exAt30, ↓exIx30, ↓exAt31, ↓exIx31, ↓exAt32, ↓exIx32, ↓exAt40, ↓exIx40, ↓exAt41, ↓exIx41, ↓exAt42, ↓exIx42, ↓exAt43, ↓exIx43, ↓exAt50, ↓exIx50, ↓exAt51, ↓exIx51, ↓exAt52, ↓exIx52, ↓exAt53, ↓exIx53, ↓exAt54, ↓exIx54, ↓exAt60, ↓exIx60, ↓exAt61, ↓exIx61, ↓exAt62, ↓exIx62, ↓exAt63, ↓exIx63, ↓exAt64, ↓exIx64, ↓exAt65, ↓exIx65, up_up, false_or, or_false, ↓exAtM, ↓dFlag_bl, ↓exBl, ↓exInt, ↓exRef, ↓dVar0, ↓dAug0, ↓dSet0, ↓dTgN0, ↓dTgW0, ↓dVar1, ↓dAug1, ↓dSet1, ↓dTgN1, ↓dTgW1, ↓dVar2, ↓dAug2, ↓dSet2, ↓dTgN2, ↓dTgW2, ↓dVar3, ↓dAug3, ↓dSet3, ↓dTgN3, ↓dTgW3, ↓dVar4, ↓dAug4, ↓dSet4, ↓dTgN4, ↓dTgW4, ↓dVar5, ↓dAug5, ↓dSet5, ↓dTgN5, ↓dTgW5, ↓dVar6, ↓dAug6, ↓dSet6, ↓dTgN6, ↓dTgW6, ↓dVar7, ↓dAug7, ↓dSet7, ↓dTgN7, ↓dTgW7, ↓dVar8, ↓dAug8, ↓dSet8, ↓dTgN8, ↓dTgW8, ↓dVar9, ↓dAug9, ↓dSet9, ↓dTgN9, ↓dTgW9, ↓dVar10, ↓dAug10, ↓dSet10, ↓dTgN10, ↓dTgW10, ↓dVar11, ↓dAug11, ↓dSet11, ↓dTgN11, ↓dTgW11, ↓dVar12, ↓dAug12, ↓dSet12, ↓dTgN12, ↓dTgW12, ↓dVar13, ↓dAug13, ↓dSet13, ↓dTgN13, ↓dTgW13, ↓dVar14, ↓dAug14, ↓dSet14, ↓dTgN14, ↓dTgW14, ↓dVar15, ↓dAug15, ↓dSet15, ↓dTgN15, ↓dTgW15, ↓dVar16, ↓dAug16, ↓dSet16, ↓dTgN16, ↓dTgW16, ↓dVar17, ↓dAug17, ↓dSet17, ↓dTgN17, ↓dTgW17, ↓dVar18, ↓dAug18, ↓dSet18, ↓dTgN18, ↓dTgW18, ↓dVar19, ↓dAug19, ↓dSet19, ↓dTgN19, ↓dTgW19, ↓dTg_t2, ↓dTg_t3, ↓exGetM, ↓exSumU, nD, plD, rwD, ↓dAdd_tup, ↓dAdd_ref, dSIndex, dInS, dKeysI, dValsI, dItemsI, dMulS, dEqK, dNeK, dClrK, dCntS]
    exact .inr (.inl ⟨ndK g m, .inr k, _, rfl, .inl hq1', val_nd hg m hk, s1.dn h⟩)
end
/-! ### the pool [great cells, small cells, s, t] -/
def G5 (ns ms : List Int) (s t : Int) : Prop := ns.length ≤ 63 ∧ ms.length ≤ 63 ∧ (∀ c ∈ ns, 0 ≤ c) ∧ (∀ c ∈ ms, 0 ≤ c ∧ c < 1000003) ∧ 0 ≤ s ∧ 0 ≤ t
def Pool (M : Hd) (x : D) : Prop := ∃ p r1 r2, x = .ref p ∧ DblAt G5 M p r1 r2
/-- what is told of cells stays told, but for the pool, which is a pool still -/
structure Up (M' M : Hd) (x : D) : Prop where
  keep : ∀ a o, M a = some o → (∀ I own, o ≠ .ext I own) → M' a = some o
  pool : Pool M' x
  free : ∀ a, M' a = none → M a = none
theorem Up.refl {M : Hd} {x : D} (h : Pool M x) : Up M M x := ⟨fun _ _ h _ => h, h, fun _ h => h⟩
theorem Up.trans {M M1 M2 : Hd} {x : D} (a : Up M2 M1 x) (b : Up M1 M x) : Up M2 M x := ⟨fun c o h n => a.keep c o (b.keep c o h n) n, a.pool, fun c h => b.free c (a.free c h)⟩
section
variable {P : Program} {w : World} {K : PySem.W.Frag} {mg : Str → Option Value} {base : Heap}
theorem pr__law_pool (G : Gv K mg) : Pr P w K mg base "_law_pool" 1 ["_law_script"] (S1 fun x M Q => ∃ ns : List Int, ns.length ≤ 63 ∧ Scr x M ns ∧ ∀ y M', Pool M' y → Q y M') := by
  refine (pr3 (k := 0) G.d__law_pool bi__law_pool sc__law_pool S1n (fun f cdv A outer s H E hr => (b_cons (s_setLc 1 (own := [("_law_cell", 3)]) rfl sc__law_pool.nd (sw_true rfl rfl rfl (by decide +kernel)) (i_seq (e_slice slD (e_var 0) o_none (o_some e_int))) (blkOk_by (by rfl)) (fun _ _ _ _ _ => (g_nm 3 sc__law_pool.nd)) (fun _ _ _ _ _ => (ts_one (t_cmp od_ge (e_callB cd_abs (by rfl) G.b_abs rfl (a_cons (e_var 3) a_nil)) (e_op od_pow e_int e_int)))) (fun _ _ _ _ _ => (e_callB cd_abs (by rfl) G.b_abs rfl (a_cons (e_var 3) a_nil))))
      (b_cons (s_setLc 2 (own := [("_law_cell", 3)]) rfl sc__law_pool.nd (sw_true rfl rfl rfl (by decide +kernel)) (i_seq (e_slice slD (e_var 0) o_none (o_some e_int))) (blkOk_by (by rfl)) (fun _ _ _ _ _ => (g_nm 3 sc__law_pool.nd)) (fun _ _ _ _ _ => (ts_one (t_cmp od_lt (e_callB cd_abs (by rfl) G.b_abs rfl (a_cons (e_var 3) a_nil)) (e_op od_pow e_int e_int)))) (fun _ _ _ _ _ => (e_op od_mod (e_callTy cd_int (by rfl) G.b_int rfl (a_cons (e_var 3) a_nil)) e_int)))
      (b_one (s_ret (e_lst (a_cons (e_var 1) (a_cons (e_var 2) (a_cons e_int (a_cons e_int a_nil))))))))))) ?_
  rintro _ M Q E ⟨x, rfl, ns, hl, hs, h⟩ H rep
  refine ⟨M, rep, fun _ h => h, ?_⟩
  have ec : cutD (ns.map D.int) none (some 63) = ns.map D.int := by
    rw [show (some (63 : Int)) = some ((63 : Nat) : Int) from rfl, cutD_to, List.take_of_length_le (by rw [List.length_map]; exact hl)]
  have pw : CPow 10 18 := by unfold CPow; omega
  have e1 : (ns.filter fun c => decide ((10 : Int) ^ Int.toNat 18 ≤ (if c < 0 then -c else c))).map (fun c => D.int (if c < 0 then -c else c)) = ((ns.filter fun c => decide ((10 : Int) ^ Int.toNat 18 ≤ (if c < 0 then -c else c))).map fun c => if c < 0 then -c else c).map D.int := by rw [List.map_map]; rfl
  have e2 : (ns.filter fun c => decide ((if c < 0 then -c else c) < (10 : Int) ^ Int.toNat 18)).map (fun c => D.int (c % 1000003)) = ((ns.filter fun c => decide ((if c < 0 then -c else c) < (10 : Int) ^ Int.toNat 18)).map fun c => c % 1000003).map D.int := by rw [List.map_map]; rfl
  have g5 : G5 ((ns.filter fun c => decide ((10 : Int) ^ Int.toNat 18 ≤ (if c < 0 then -c else c))).map fun c => if c < 0 then -c else c) ((ns.filter fun c => decide ((if c < 0 then -c else c) < (10 : Int) ^ Int.toNat 18)).map fun c => c % 1000003) 0 0 := by
    refine ⟨by rw [List.length_map]; exact Nat.le_trans (List.length_filter_le _ _) hl, by rw [List.length_map]; exact Nat.le_trans (List.length_filter_le _ _) hl, fun c hc => ?_, fun c hc => ?_, by omega, by omega⟩
    · obtain ⟨a, _, rfl⟩ := List.mem_map.mp hc
      split <;> omega
    · obtain ⟨a, _, rfl⟩ := List.mem_map.mp hc
      exact ⟨Int.emod_nonneg _ (by decide), Int.emod_lt_of_pos _ (by decide)⟩
  rcases hs with ⟨p, rfl, hp, _⟩ | ⟨p, rfl, _⟩
  · simp only [startD, List.map_cons, List.map_nil, List.length_cons, List.length_nil, Nat.reduceAdd, Nat.reduceSub, Nat.zero_add, List.replicate, List.cons_append, List.nil_append]; simp (config := {failIfUnchanged := false}) only [dC, dOp, dTest, dChain, dAnd, dOr, dNot, dAndV, dOrV, dNotV, dIf, dNil, dCons, dTup, dLst, dCB, d1, dIx, dNoPart, dPart, dSl, dCut, dNeg, dLen, dTupOf, dListOf, dSorted, dSum, dAll, dAny, dInt, dAbs, dMax, dMin, dIsi, isT, dNext, dSeq, dBrk, dCont, dNever, dExpr, dRet, dRetN, dIfS, dAsg, dPutI, dI0, dI, dIsN, dNotN, dSeqI, dRng1, dRng2, dRngDn, dEnumI, dZipI, dYes, dCall, dLM, dAppend, dExtend, dReverse, dInsert, dAugI, dRg1, dRg2, dTupRg, dLstRg, dNewK, dNewT, ↓S0_, ↓S1_, ↓S2_, ↓S3_, ↓S4_, ↓S5_, ↓S6_, List.map_cons, List.map_nil, List.length_cons, List.length_nil, List.replicate, List.cons_append, List.nil_append, Nat.reduceAdd, Nat.reduceSub, Nat.zero_add, List.getElem?_cons_zero, List.getElem?_cons_succ, Option.some.injEq, exists_eq_left, exists_eq_left', List.set_cons_zero, List.set_cons_succ, wipeD, D.int.injEq, D.bl.injEq, D.str.injEq, D.ref.injEq, D.tup.injEq, D.ty.injEq, true_and, and_true, forall_const, forall_eq', forall_eq, mt_int, mt_bool, mt_str, mt_tuple, mt_list, mt_dict, st_int_int, st_int_bool, st_int_str, st_int_tuple, st_int_list, st_int_dict, st_bool_int, st_bool_bool, st_bool_str, st_bool_tuple, st_bool_list, st_bool_dict, st_str_int, st_str_bool, st_str_str, st_str_tuple, st_str_list, st_str_dict, st_tuple_int, st_tuple_bool, st_tuple_str, st_tuple_tuple, st_tuple_list, st_tuple_dict, st_list_int, st_list_bool, st_list_str, st_list_tuple, st_list_list, st_list_dict, st_dict_int, st_dict_bool, st_dict_str, st_dict_tuple, st_dict_list, st_dict_dict, eq_self, Bool.true_eq_false, Bool.false_eq_true, false_implies, true_implies, implies_true, decide_eq_true_eq, decide_eq_false_iff_not, Bool.not_true, Bool.not_false, Bool.not_eq_true, Bool.not_eq_false, Bool.not_eq_true', Bool.not_eq_false', not_true_eq_false, not_false_eq_true, false_and, and_false, or_false, false_or, reduceCtorEq, ↓exLSu, ↓exDKu, ↓exDKd, ↓exLSd, ↓exLu, ↓dIxRu, ↓dPutu, ↓dGetAu, ↓dEq_int, ↓dNe_int, ↓dEq_bl, ↓dNe_bl, ↓dEq_str, ↓dNe_str, ↓dAdd_int, ↓exAt10, ↓exIx10, ↓exAt20, ↓exIx20, ↓exAt21, ↓exIx21, ↓exAt30, ↓exIx30, ↓exAt31, ↓exIx31, ↓exAt32, ↓exIx32, ↓exAt40, ↓exIx40, ↓exAt41, ↓exIx41, ↓exAt42, ↓exIx42, ↓exAt43, ↓exIx43, ↓exAt50, ↓exIx50, ↓exAt51, ↓exIx51, ↓exAt52, ↓exIx52, ↓exAt53, ↓exIx53, ↓exAt54, ↓exIx54, ↓exAt60, ↓exIx60, ↓exAt61, ↓exIx61, ↓exAt62, ↓exIx62, ↓exAt63, ↓exIx63, ↓exAt64, ↓exIx64, ↓exAt65, ↓exIx65, up_up, false_or, or_false, ↓exAtM, ↓dFlag_bl, ↓exBl, ↓exInt, ↓exRef, ↓dVar0, ↓dAug0, ↓dSet0, ↓dTgN0, ↓dTgW0, ↓dVar1, ↓dAug1, ↓dSet1, ↓dTgN1, ↓dTgW1, ↓dVar2, ↓dAug2, ↓dSet2, ↓dTgN2, ↓dTgW2, ↓dVar3, ↓dAug3, ↓dSet3, ↓dTgN3, ↓dTgW3, ↓dVar4, ↓dAug4, ↓dSet4, ↓dTgN4, ↓dTgW4, ↓dVar5, ↓dAug5, ↓dSet5, ↓dTgN5, ↓dTgW5, ↓dVar6, ↓dAug6, ↓dSet6, ↓dTgN6, ↓dTgW6, ↓dVar7, ↓dAug7, ↓dSet7, ↓dTgN7, ↓dTgW7, ↓dVar8, ↓dAug8, ↓dSet8, ↓dTgN8, ↓dTgW8, ↓dVar9, ↓dAug9, ↓dSet9, ↓dTgN9, ↓dTgW9, ↓dVar10, ↓dAug10, ↓dSet10, ↓dTgN10, ↓dTgW10, ↓dVar11, ↓dAug11, ↓dSet11, ↓dTgN11, ↓dTgW11, ↓dVar12, ↓dAug12, ↓dSet12, ↓dTgN12, ↓dTgW12, ↓dVar13, ↓dAug13, ↓dSet13, ↓dTgN13, ↓dTgW13, ↓dVar14, ↓dAug14, ↓dSet14, ↓dTgN14, ↓dTgW14, ↓dVar15, ↓dAug15, ↓dSet15, ↓dTgN15, ↓dTgW15, ↓dVar16, ↓dAug16, ↓dSet16, ↓dTgN16, ↓dTgW16, ↓dVar17, ↓dAug17, ↓dSet17, ↓dTgN17, ↓dTgW17, ↓dVar18, ↓dAug18, ↓dSet18, ↓dTgN18, ↓dTgW18, ↓dVar19, ↓dAug19, ↓dSet19, ↓dTgN19, ↓dTgW19, ↓dTg_t2, ↓dTg_t3, ↓exGetM, ↓exSumU, nD, plD, rwD, ↓dAdd_tup, ↓dAdd_ref, dSIndex, dInS, dKeysI, dValsI, dItemsI, dMulS, dEqK, dNeK, dClrK, dCntS, ↓exLSz hp, ↓exDKz hp]
    refine dLc_g fun F1 T1 U1 h1 t1 u1 => ?_; simp only [dLc, dC, dOp, dTest, dChain, dAnd, dOr, dNot, dAndV, dOrV, dNotV, dIf, dNil, dCons, dTup, dLst, dCB, d1, dIx, dNoPart, dPart, dSl, dCut, dNeg, dLen, dTupOf, dListOf, dSorted, dSum, dAll, dAny, dInt, dAbs, dMax, dMin, dIsi, isT, dNext, dSeq, dBrk, dCont, dNever, dExpr, dRet, dRetN, dIfS, dAsg, dPutI, dI0, dI, dIsN, dNotN, dSeqI, dRng1, dRng2, dRngDn, dEnumI, dZipI, dYes, dCall, dLM, dAppend, dExtend, dReverse, dInsert, dAugI, dRg1, dRg2, dTupRg, dLstRg, dNewK, dNewT, ↓S0_, ↓S1_, ↓S2_, ↓S3_, ↓S4_, ↓S5_, ↓S6_, List.map_cons, List.map_nil, List.length_cons, List.length_nil, List.replicate, List.cons_append, List.nil_append, Nat.reduceAdd, Nat.reduceSub, Nat.zero_add, List.getElem?_cons_zero, List.getElem?_cons_succ, Option.some.injEq, exists_eq_left, exists_eq_left', List.set_cons_zero, List.set_cons_succ, wipeD, D.int.injEq, D.bl.injEq, D.str.injEq, D.ref.injEq, D.tup.injEq, D.ty.injEq, true_and, and_true, forall_const, forall_eq', forall_eq, mt_int, mt_bool, mt_str, mt_tuple, mt_list, mt_dict, st_int_int, st_int_bool, st_int_str, st_int_tuple, st_int_list, st_int_dict, st_bool_int, st_bool_bool, st_bool_str, st_bool_tuple, st_bool_list, st_bool_dict, st_str_int, st_str_bool, st_str_str, st_str_tuple, st_str_list, st_str_dict, st_tuple_int, st_tuple_bool, st_tuple_str, st_tuple_tuple, st_tuple_list, st_tuple_dict, st_list_int, st_list_bool, st_list_str, st_list_tuple, st_list_list, st_list_dict, st_dict_int, st_dict_bool, st_dict_str, st_dict_tuple, st_dict_list, st_dict_dict, eq_self, Bool.true_eq_false, Bool.false_eq_true, false_implies, true_implies, implies_true, decide_eq_true_eq, decide_eq_false_iff_not, Bool.not_true, Bool.not_false, Bool.not_eq_true, Bool.not_eq_false, Bool.not_eq_true', Bool.not_eq_false', not_true_eq_false, not_false_eq_true, false_and, and_false, or_false, false_or, reduceCtorEq, ↓exLSu, ↓exDKu, ↓exDKd, ↓exLSd, ↓exLu, ↓dIxRu, ↓dPutu, ↓dGetAu, ↓dEq_int, ↓dNe_int, ↓dEq_bl, ↓dNe_bl, ↓dEq_str, ↓dNe_str, ↓dAdd_int, ↓exAt10, ↓exIx10, ↓exAt20, ↓exIx20, ↓exAt21, ↓exIx21, ↓exAt30, ↓exIx30, ↓exAt31, ↓exIx31, ↓exAt32, ↓exIx32, ↓exAt40, ↓exIx40, ↓exAt41, ↓exIx41, ↓exAt42, ↓exIx42, ↓exAt43, ↓exIx43, ↓exAt50, ↓exIx50, ↓exAt51, ↓exIx51, ↓exAt52, ↓exIx52, ↓exAt53, ↓exIx53, ↓exAt54, ↓exIx54, ↓exAt60, ↓exIx60, ↓exAt61, ↓exIx61, ↓exAt62, ↓exIx62, ↓exAt63, ↓exIx63, ↓exAt64, ↓exIx64, ↓exAt65, ↓exIx65, up_up, false_or, or_false, ↓exAtM, ↓dFlag_bl, ↓exBl, ↓exInt, ↓exRef, ↓dVar0, ↓dAug0, ↓dSet0, ↓dTgN0, ↓dTgW0, ↓dVar1, ↓dAug1, ↓dSet1, ↓dTgN1, ↓dTgW1, ↓dVar2, ↓dAug2, ↓dSet2, ↓dTgN2, ↓dTgW2, ↓dVar3, ↓dAug3, ↓dSet3, ↓dTgN3, ↓dTgW3, ↓dVar4, ↓dAug4, ↓dSet4, ↓dTgN4, ↓dTgW4, ↓dVar5, ↓dAug5, ↓dSet5, ↓dTgN5, ↓dTgW5, ↓dVar6, ↓dAug6, ↓dSet6, ↓dTgN6, ↓dTgW6, ↓dVar7, ↓dAug7, ↓dSet7, ↓dTgN7, ↓dTgW7, ↓dVar8, ↓dAug8, ↓dSet8, ↓dTgN8, ↓dTgW8, ↓dVar9, ↓dAug9, ↓dSet9, ↓dTgN9, ↓dTgW9, ↓dVar10, ↓dAug10, ↓dSet10, ↓dTgN10, ↓dTgW10, ↓dVar11, ↓dAug11, ↓dSet11, ↓dTgN11, ↓dTgW11, ↓dVar12, ↓dAug12, ↓dSet12, ↓dTgN12, ↓dTgW12, ↓dVar13, ↓dAug13, ↓dSet13, ↓dTgN13, ↓dTgW13, ↓dVar14, ↓dAug14, ↓dSet14, ↓dTgN14, ↓dTgW14, ↓dVar15, ↓dAug15, ↓dSet15, ↓dTgN15, ↓dTgW15, ↓dVar16, ↓dAug16, ↓dSet16, ↓dTgN16, ↓dTgW16, ↓dVar17, ↓dAug17, ↓dSet17, ↓dTgN17, ↓dTgW17, ↓dVar18, ↓dAug18, ↓dSet18, ↓dTgN18, ↓dTgW18, ↓dVar19, ↓dAug19, ↓dSet19, ↓dTgN19, ↓dTgW19, ↓dTg_t2, ↓dTg_t3, ↓exGetM, ↓exSumU, nD, plD, rwD, ↓dAdd_tup, ↓dAdd_ref, dSIndex, dInS, dKeysI, dValsI, dItemsI, dMulS, dEqK, dNeK, dClrK, dCntS]
    simp (config := {failIfUnchanged := false}) only [dC, dOp, dTest, dChain, dAnd, dOr, dNot, dAndV, dOrV, dNotV, dIf, dNil, dCons, dTup, dLst, dCB, d1, dIx, dNoPart, dPart, dSl, dCut, dNeg, dLen, dTupOf, dListOf, dSorted, dSum, dAll, dAny, dInt, dAbs, dMax, dMin, dIsi, isT, dNext, dSeq, dBrk, dCont, dNever, dExpr, dRet, dRetN, dIfS, dAsg, dPutI, dI0, dI, dIsN, dNotN, dSeqI, dRng1, dRng2, dRngDn, dEnumI, dZipI, dYes, dCall, dLM, dAppend, dExtend, dReverse, dInsert, dAugI, dRg1, dRg2, dTupRg, dLstRg, dNewK, dNewT, ↓S0_, ↓S1_, ↓S2_, ↓S3_, ↓S4_, ↓S5_, ↓S6_, List.map_cons, List.map_nil, List.length_cons, List.length_nil, List.replicate, List.cons_append, List.nil_append, Nat.reduceAdd, Nat.reduceSub, Nat.zero_add, List.getElem?_cons_zero, List.getElem?_cons_succ, Option.some.injEq, exists_eq_left, exists_eq_left', List.set_cons_zero, List.set_cons_succ, wipeD, D.int.injEq, D.bl.injEq, D.str.injEq, D.ref.injEq, D.tup.injEq, D.ty.injEq, true_and, and_true, forall_const, forall_eq', forall_eq, mt_int, mt_bool, mt_str, mt_tuple, mt_list, mt_dict, st_int_int, st_int_bool, st_int_str, st_int_tuple, st_int_list, st_int_dict, st_bool_int, st_bool_bool, st_bool_str, st_bool_tuple, st_bool_list, st_bool_dict, st_str_int, st_str_bool, st_str_str, st_str_tuple, st_str_list, st_str_dict, st_tuple_int, st_tuple_bool, st_tuple_str, st_tuple_tuple, st_tuple_list, st_tuple_dict, st_list_int, st_list_bool, st_list_str, st_list_tuple, st_list_list, st_list_dict, st_dict_int, st_dict_bool, st_dict_str, st_dict_tuple, st_dict_list, st_dict_dict, eq_self, Bool.true_eq_false, Bool.false_eq_true, false_implies, true_implies, implies_true, decide_eq_true_eq, decide_eq_false_iff_not, Bool.not_true, Bool.not_false, Bool.not_eq_true, Bool.not_eq_false, Bool.not_eq_true', Bool.not_eq_false', not_true_eq_false, not_false_eq_true, false_and, and_false, or_false, false_or, reduceCtorEq, ↓exLSu, ↓exDKu, ↓exDKd, ↓exLSd, ↓exLu, ↓dIxRu, ↓dPutu, ↓dGetAu, ↓dEq_int, ↓dNe_int, ↓dEq_bl, ↓dNe_bl, ↓dEq_str, ↓dNe_str, ↓dAdd_int, ↓exAt10, ↓exIx10, ↓exAt20, ↓exIx20, ↓exAt21, ↓exIx21, ↓exAt30, ↓exIx30, ↓exAt31, ↓exIx31, ↓exAt32, ↓exIx32, ↓exAt40, ↓exIx40, ↓exAt41, ↓exIx41, ↓exAt42, ↓exIx42, ↓exAt43, ↓exIx43, ↓exAt50, ↓exIx50, ↓exAt51, ↓exIx51, ↓exAt52, ↓exIx52, ↓exAt53, ↓exIx53, ↓exAt54, ↓exIx54, ↓exAt60, ↓exIx60, ↓exAt61, ↓exIx61, ↓exAt62, ↓exIx62, ↓exAt63, ↓exIx63, ↓exAt64, ↓exIx64, ↓exAt65, ↓exIx65, up_up, false_or, or_false, ↓exAtM, ↓dFlag_bl, ↓exBl, ↓exInt, ↓exRef, ↓dVar0, ↓dAug0, ↓dSet0, ↓dTgN0, ↓dTgW0, ↓dVar1, ↓dAug1, ↓dSet1, ↓dTgN1, ↓dTgW1, ↓dVar2, ↓dAug2, ↓dSet2, ↓dTgN2, ↓dTgW2, ↓dVar3, ↓dAug3, ↓dSet3, ↓dTgN3, ↓dTgW3, ↓dVar4, ↓dAug4, ↓dSet4, ↓dTgN4, ↓dTgW4, ↓dVar5, ↓dAug5, ↓dSet5, ↓dTgN5, ↓dTgW5, ↓dVar6, ↓dAug6, ↓dSet6, ↓dTgN6, ↓dTgW6, ↓dVar7, ↓dAug7, ↓dSet7, ↓dTgN7, ↓dTgW7, ↓dVar8, ↓dAug8, ↓dSet8, ↓dTgN8, ↓dTgW8, ↓dVar9, ↓dAug9, ↓dSet9, ↓dTgN9, ↓dTgW9, ↓dVar10, ↓dAug10, ↓dSet10, ↓dTgN10, ↓dTgW10, ↓dVar11, ↓dAug11, ↓dSet11, ↓dTgN11, ↓dTgW11, ↓dVar12, ↓dAug12, ↓dSet12, ↓dTgN12, ↓dTgW12, ↓dVar13, ↓dAug13, ↓dSet13, ↓dTgN13, ↓dTgW13, ↓dVar14, ↓dAug14, ↓dSet14, ↓dTgN14, ↓dTgW14, ↓dVar15, ↓dAug15, ↓dSet15, ↓dTgN15, ↓dTgW15, ↓dVar16, ↓dAug16, ↓dSet16, ↓dTgN16, ↓dTgW16, ↓dVar17, ↓dAug17, ↓dSet17, ↓dTgN17, ↓dTgW17, ↓dVar18, ↓dAug18, ↓dSet18, ↓dTgN18, ↓dTgW18, ↓dVar19, ↓dAug19, ↓dSet19, ↓dTgN19, ↓dTgW19, ↓dTg_t2, ↓dTg_t3, ↓exGetM, ↓exSumU, nD, plD, rwD, ↓dAdd_tup, ↓dAdd_ref, dSIndex, dInS, dKeysI, dValsI, dItemsI, dMulS, dEqK, dNeK, dClrK, dCntS]
    refine ⟨_, .inr hp, ?_⟩
    rw [ec]
    intro f hf
    have npf : p ≠ f := by rintro rfl; rw [hp] at hf; cases hf
    refine ⟨by rw [List.length_map]; exact Nat.le_of_lt (small1000 (by omega)), lcF D.int (fun c => D.int (if c < 0 then -c else c)) (fun c => decide ((10 : Int) ^ Int.toNat 18 ≤ (if c < 0 then -c else c))) ns rfl (fun l1 c t pre acc P' e y1 y2 => ?_) ⟨.inl up_same, fun r1 hr1 => ?_⟩⟩
    · refine ⟨.inl up_same, ?_⟩
      subst t1; subst u1
      simp (config := {failIfUnchanged := false}) only [dC, dOp, dTest, dChain, dAnd, dOr, dNot, dAndV, dOrV, dNotV, dIf, dNil, dCons, dTup, dLst, dCB, d1, dIx, dNoPart, dPart, dSl, dCut, dNeg, dLen, dTupOf, dListOf, dSorted, dSum, dAll, dAny, dInt, dAbs, dMax, dMin, dIsi, isT, dNext, dSeq, dBrk, dCont, dNever, dExpr, dRet, dRetN, dIfS, dAsg, dPutI, dI0, dI, dIsN, dNotN, dSeqI, dRng1, dRng2, dRngDn, dEnumI, dZipI, dYes, dCall, dLM, dAppend, dExtend, dReverse, dInsert, dAugI, dRg1, dRg2, dTupRg, dLstRg, dNewK, dNewT, ↓S0_, ↓S1_, ↓S2_, ↓S3_, ↓S4_, ↓S5_, ↓S6_, List.map_cons, List.map_nil, List.length_cons, List.length_nil, List.replicate, List.cons_append, List.nil_append, Nat.reduceAdd, Nat.reduceSub, Nat.zero_add, List.getElem?_cons_zero, List.getElem?_cons_succ, Option.some.injEq, exists_eq_left, exists_eq_left', List.set_cons_zero, List.set_cons_succ, wipeD, D.int.injEq, D.bl.injEq, D.str.injEq, D.ref.injEq, D.tup.injEq, D.ty.injEq, true_and, and_true, forall_const, forall_eq', forall_eq, mt_int, mt_bool, mt_str, mt_tuple, mt_list, mt_dict, st_int_int, st_int_bool, st_int_str, st_int_tuple, st_int_list, st_int_dict, st_bool_int, st_bool_bool, st_bool_str, st_bool_tuple, st_bool_list, st_bool_dict, st_str_int, st_str_bool, st_str_str, st_str_tuple, st_str_list, st_str_dict, st_tuple_int, st_tuple_bool, st_tuple_str, st_tuple_tuple, st_tuple_list, st_tuple_dict, st_list_int, st_list_bool, st_list_str, st_list_tuple, st_list_list, st_list_dict, st_dict_int, st_dict_bool, st_dict_str, st_dict_tuple, st_dict_list, st_dict_dict, eq_self, Bool.true_eq_false, Bool.false_eq_true, false_implies, true_implies, implies_true, decide_eq_true_eq, decide_eq_false_iff_not, Bool.not_true, Bool.not_false, Bool.not_eq_true, Bool.not_eq_false, Bool.not_eq_true', Bool.not_eq_false', not_true_eq_false, not_false_eq_true, false_and, and_false, or_false, false_or, reduceCtorEq, ↓exLSu, ↓exDKu, ↓exDKd, ↓exLSd, ↓exLu, ↓dIxRu, ↓dPutu, ↓dGetAu, ↓dEq_int, ↓dNe_int, ↓dEq_bl, ↓dNe_bl, ↓dEq_str, ↓dNe_str, ↓dAdd_int, ↓exAt10, ↓exIx10, ↓exAt20, ↓exIx20, ↓exAt21, ↓exIx21, ↓exAt30, ↓exIx30, ↓exAt31, ↓exIx31, ↓exAt32, ↓exIx32, ↓exAt40, ↓exIx40, ↓exAt41, ↓exIx41, ↓exAt42, ↓exIx42, ↓exAt43, ↓exIx43, ↓exAt50, ↓exIx50, ↓exAt51, ↓exIx51, ↓exAt52, ↓exIx52, ↓exAt53, ↓exIx53, ↓exAt54, ↓exIx54, ↓exAt60, ↓exIx60, ↓exAt61, ↓exIx61, ↓exAt62, ↓exIx62, ↓exAt63, ↓exIx63, ↓exAt64, ↓exIx64, ↓exAt65, ↓exIx65, up_up, false_or, or_false, ↓exAtM, ↓dFlag_bl, ↓exBl, ↓exInt, ↓exRef, ↓dVar0, ↓dAug0, ↓dSet0, ↓dTgN0, ↓dTgW0, ↓dVar1, ↓dAug1, ↓dSet1, ↓dTgN1, ↓dTgW1, ↓dVar2, ↓dAug2, ↓dSet2, ↓dTgN2, ↓dTgW2, ↓dVar3, ↓dAug3, ↓dSet3, ↓dTgN3, ↓dTgW3, ↓dVar4, ↓dAug4, ↓dSet4, ↓dTgN4, ↓dTgW4, ↓dVar5, ↓dAug5, ↓dSet5, ↓dTgN5, ↓dTgW5, ↓dVar6, ↓dAug6, ↓dSet6, ↓dTgN6, ↓dTgW6, ↓dVar7, ↓dAug7, ↓dSet7, ↓dTgN7, ↓dTgW7, ↓dVar8, ↓dAug8, ↓dSet8, ↓dTgN8, ↓dTgW8, ↓dVar9, ↓dAug9, ↓dSet9, ↓dTgN9, ↓dTgW9, ↓dVar10, ↓dAug10, ↓dSet10, ↓dTgN10, ↓dTgW10, ↓dVar11, ↓dAug11, ↓dSet11, ↓dTgN11, ↓dTgW11, ↓dVar12, ↓dAug12, ↓dSet12, ↓dTgN12, ↓dTgW12, ↓dVar13, ↓dAug13, ↓dSet13, ↓dTgN13, ↓dTgW13, ↓dVar14, ↓dAug14, ↓dSet14, ↓dTgN14, ↓dTgW14, ↓dVar15, ↓dAug15, ↓dSet15, ↓dTgN15, ↓dTgW15, ↓dVar16, ↓dAug16, ↓dSet16, ↓dTgN16, ↓dTgW16, ↓dVar17, ↓dAug17, ↓dSet17, ↓dTgN17, ↓dTgW17, ↓dVar18, ↓dAug18, ↓dSet18, ↓dTgN18, ↓dTgW18, ↓dVar19, ↓dAug19, ↓dSet19, ↓dTgN19, ↓dTgW19, ↓dTg_t2, ↓dTg_t3, ↓exGetM, ↓exSumU, nD, plD, rwD, ↓dAdd_tup, ↓dAdd_ref, dSIndex, dInS, dKeysI, dValsI, dItemsI, dMulS, dEqK, dNeK, dClrK, dCntS]
      exact ⟨pw, fun z => sb0 (y1 (decide_eq_true z)), fun z => sb0 (y2 (decide_eq_false z))⟩
    rw [h1]; clear h1 t1 u1
    rw [e1]
    simp (config := {failIfUnchanged := false}) only [dC, dOp, dTest, dChain, dAnd, dOr, dNot, dAndV, dOrV, dNotV, dIf, dNil, dCons, dTup, dLst, dCB, d1, dIx, dNoPart, dPart, dSl, dCut, dNeg, dLen, dTupOf, dListOf, dSorted, dSum, dAll, dAny, dInt, dAbs, dMax, dMin, dIsi, isT, dNext, dSeq, dBrk, dCont, dNever, dExpr, dRet, dRetN, dIfS, dAsg, dPutI, dI0, dI, dIsN, dNotN, dSeqI, dRng1, dRng2, dRngDn, dEnumI, dZipI, dYes, dCall, dLM, dAppend, dExtend, dReverse, dInsert, dAugI, dRg1, dRg2, dTupRg, dLstRg, dNewK, dNewT, ↓S0_, ↓S1_, ↓S2_, ↓S3_, ↓S4_, ↓S5_, ↓S6_, List.map_cons, List.map_nil, List.length_cons, List.length_nil, List.replicate, List.cons_append, List.nil_append, Nat.reduceAdd, Nat.reduceSub, Nat.zero_add, List.getElem?_cons_zero, List.getElem?_cons_succ, Option.some.injEq, exists_eq_left, exists_eq_left', List.set_cons_zero, List.set_cons_succ, wipeD, D.int.injEq, D.bl.injEq, D.str.injEq, D.ref.injEq, D.tup.injEq, D.ty.injEq, true_and, and_true, forall_const, forall_eq', forall_eq, mt_int, mt_bool, mt_str, mt_tuple, mt_list, mt_dict, st_int_int, st_int_bool, st_int_str, st_int_tuple, st_int_list, st_int_dict, st_bool_int, st_bool_bool, st_bool_str, st_bool_tuple, st_bool_list, st_bool_dict, st_str_int, st_str_bool, st_str_str, st_str_tuple, st_str_list, st_str_dict, st_tuple_int, st_tuple_bool, st_tuple_str, st_tuple_tuple, st_tuple_list, st_tuple_dict, st_list_int, st_list_bool, st_list_str, st_list_tuple, st_list_list, st_list_dict, st_dict_int, st_dict_bool, st_dict_str, st_dict_tuple, st_dict_list, st_dict_dict, eq_self, Bool.true_eq_false, Bool.false_eq_true, false_implies, true_implies, implies_true, decide_eq_true_eq, decide_eq_false_iff_not, Bool.not_true, Bool.not_false, Bool.not_eq_true, Bool.not_eq_false, Bool.not_eq_true', Bool.not_eq_false', not_true_eq_false, not_false_eq_true, false_and, and_false, or_false, false_or, reduceCtorEq, ↓exLSu, ↓exDKu, ↓exDKd, ↓exLSd, ↓exLu, ↓dIxRu, ↓dPutu, ↓dGetAu, ↓dEq_int, ↓dNe_int, ↓dEq_bl, ↓dNe_bl, ↓dEq_str, ↓dNe_str, ↓dAdd_int, ↓exAt10, ↓exIx10, ↓exAt20, ↓exIx20, ↓exAt21, ↓exIx21, ↓exAt30, ↓exIx30, ↓exAt31, ↓exIx31, ↓exAt32, ↓exIx32, ↓exAt40, ↓exIx40, ↓exAt41, ↓exIx41, ↓exAt42, ↓exIx42, ↓exAt43, ↓exIx43, ↓exAt50, ↓exIx50, ↓exAt51, ↓exIx51, ↓exAt52, ↓exIx52, ↓exAt53, ↓exIx53, ↓exAt54, ↓exIx54, ↓exAt60, ↓exIx60, ↓exAt61, ↓exIx61, ↓exAt62, ↓exIx62, ↓exAt63, ↓exIx63, ↓exAt64, ↓exIx64, ↓exAt65, ↓exIx65, up_up, false_or, or_false, ↓exAtM, ↓dFlag_bl, ↓exBl, ↓exInt, ↓exRef, ↓dVar0, ↓dAug0, ↓dSet0, ↓dTgN0, ↓dTgW0, ↓dVar1, ↓dAug1, ↓dSet1, ↓dTgN1, ↓dTgW1, ↓dVar2, ↓dAug2, ↓dSet2, ↓dTgN2, ↓dTgW2, ↓dVar3, ↓dAug3, ↓dSet3, ↓dTgN3, ↓dTgW3, ↓dVar4, ↓dAug4, ↓dSet4, ↓dTgN4, ↓dTgW4, ↓dVar5, ↓dAug5, ↓dSet5, ↓dTgN5, ↓dTgW5, ↓dVar6, ↓dAug6, ↓dSet6, ↓dTgN6, ↓dTgW6, ↓dVar7, ↓dAug7, ↓dSet7, ↓dTgN7, ↓dTgW7, ↓dVar8, ↓dAug8, ↓dSet8, ↓dTgN8, ↓dTgW8, ↓dVar9, ↓dAug9, ↓dSet9, ↓dTgN9, ↓dTgW9, ↓dVar10, ↓dAug10, ↓dSet10, ↓dTgN10, ↓dTgW10, ↓dVar11, ↓dAug11, ↓dSet11, ↓dTgN11, ↓dTgW11, ↓dVar12, ↓dAug12, ↓dSet12, ↓dTgN12, ↓dTgW12, ↓dVar13, ↓dAug13, ↓dSet13, ↓dTgN13, ↓dTgW13, ↓dVar14, ↓dAug14, ↓dSet14, ↓dTgN14, ↓dTgW14, ↓dVar15, ↓dAug15, ↓dSet15, ↓dTgN15, ↓dTgW15, ↓dVar16, ↓dAug16, ↓dSet16, ↓dTgN16, ↓dTgW16, ↓dVar17, ↓dAug17, ↓dSet17, ↓dTgN17, ↓dTgW17, ↓dVar18, ↓dAug18, ↓dSet18, ↓dTgN18, ↓dTgW18, ↓dVar19, ↓dAug19, ↓dSet19, ↓dTgN19, ↓dTgW19, ↓dTg_t2, ↓dTg_t3, ↓exGetM, ↓exSumU, nD, plD, rwD, ↓dAdd_tup, ↓dAdd_ref, dSIndex, dInS, dKeysI, dValsI, dItemsI, dMulS, dEqK, dNeK, dClrK, dCntS]
    refine dLc_g fun F2 T2 U2 h2 t2 u2 => ?_; simp only [dLc, dC, dOp, dTest, dChain, dAnd, dOr, dNot, dAndV, dOrV, dNotV, dIf, dNil, dCons, dTup, dLst, dCB, d1, dIx, dNoPart, dPart, dSl, dCut, dNeg, dLen, dTupOf, dListOf, dSorted, dSum, dAll, dAny, dInt, dAbs, dMax, dMin, dIsi, isT, dNext, dSeq, dBrk, dCont, dNever, dExpr, dRet, dRetN, dIfS, dAsg, dPutI, dI0, dI, dIsN, dNotN, dSeqI, dRng1, dRng2, dRngDn, dEnumI, dZipI, dYes, dCall, dLM, dAppend, dExtend, dReverse, dInsert, dAugI, dRg1, dRg2, dTupRg, dLstRg, dNewK, dNewT, ↓S0_, ↓S1_, ↓S2_, ↓S3_, ↓S4_, ↓S5_, ↓S6_, List.map_cons, List.map_nil, List.length_cons, List.length_nil, List.replicate, List.cons_append, List.nil_append, Nat.reduceAdd, Nat.reduceSub, Nat.zero_add, List.getElem?_cons_zero, List.getElem?_cons_succ, Option.some.injEq, exists_eq_left, exists_eq_left', List.set_cons_zero, List.set_cons_succ, wipeD, D.int.injEq, D.bl.injEq, D.str.injEq, D.ref.injEq, D.tup.injEq, D.ty.injEq, true_and, and_true, forall_const, forall_eq', forall_eq, mt_int, mt_bool, mt_str, mt_tuple, mt_list, mt_dict, st_int_int, st_int_bool, st_int_str, st_int_tuple, st_int_list, st_int_dict, st_bool_int, st_bool_bool, st_bool_str, st_bool_tuple, st_bool_list, st_bool_dict, st_str_int, st_str_bool, st_str_str, st_str_tuple, st_str_list, st_str_dict, st_tuple_int, st_tuple_bool, st_tuple_str, st_tuple_tuple, st_tuple_list, st_tuple_dict, st_list_int, st_list_bool, st_list_str, st_list_tuple, st_list_list, st_list_dict, st_dict_int, st_dict_bool, st_dict_str, st_dict_tuple, st_dict_list, st_dict_dict, eq_self, Bool.true_eq_false, Bool.false_eq_true, false_implies, true_implies, implies_true, decide_eq_true_eq, decide_eq_false_iff_not, Bool.not_true, Bool.not_false, Bool.not_eq_true, Bool.not_eq_false, Bool.not_eq_true', Bool.not_eq_false', not_true_eq_false, not_false_eq_true, false_and, and_false, or_false, false_or, reduceCtorEq, ↓exLSu, ↓exDKu, ↓exDKd, ↓exLSd, ↓exLu, ↓dIxRu, ↓dPutu, ↓dGetAu, ↓dEq_int, ↓dNe_int, ↓dEq_bl, ↓dNe_bl, ↓dEq_str, ↓dNe_str, ↓dAdd_int, ↓exAt10, ↓exIx10, ↓exAt20, ↓exIx20, ↓exAt21, ↓exIx21, ↓exAt30, ↓exIx30, ↓exAt31, ↓exIx31, ↓exAt32, ↓exIx32, ↓exAt40, ↓exIx40, ↓exAt41, ↓exIx41, ↓exAt42, ↓exIx42, ↓exAt43, ↓exIx43, ↓exAt50, ↓exIx50, ↓exAt51, ↓exIx51, ↓exAt52, ↓exIx52, ↓exAt53, ↓exIx53, ↓exAt54, ↓exIx54, ↓exAt60, ↓exIx60, ↓exAt61, ↓exIx61, ↓exAt62, ↓exIx62, ↓exAt63, ↓exIx63, ↓exAt64, ↓exIx64, ↓exAt65, ↓exIx65, up_up, false_or, or_false, ↓exAtM, ↓dFlag_bl, ↓exBl, ↓exInt, ↓exRef, ↓dVar0, ↓dAug0, ↓dSet0, ↓dTgN0, ↓dTgW0, ↓dVar1, ↓dAug1, ↓dSet1, ↓dTgN1, ↓dTgW1, ↓dVar2, ↓dAug2, ↓dSet2, ↓dTgN2, ↓dTgW2, ↓dVar3, ↓dAug3, ↓dSet3, ↓dTgN3, ↓dTgW3, ↓dVar4, ↓dAug4, ↓dSet4, ↓dTgN4, ↓dTgW4, ↓dVar5, ↓dAug5, ↓dSet5, ↓dTgN5, ↓dTgW5, ↓dVar6, ↓dAug6, ↓dSet6, ↓dTgN6, ↓dTgW6, ↓dVar7, ↓dAug7, ↓dSet7, ↓dTgN7, ↓dTgW7, ↓dVar8, ↓dAug8, ↓dSet8, ↓dTgN8, ↓dTgW8, ↓dVar9, ↓dAug9, ↓dSet9, ↓dTgN9, ↓dTgW9, ↓dVar10, ↓dAug10, ↓dSet10, ↓dTgN10, ↓dTgW10, ↓dVar11, ↓dAug11, ↓dSet11, ↓dTgN11, ↓dTgW11, ↓dVar12, ↓dAug12, ↓dSet12, ↓dTgN12, ↓dTgW12, ↓dVar13, ↓dAug13, ↓dSet13, ↓dTgN13, ↓dTgW13, ↓dVar14, ↓dAug14, ↓dSet14, ↓dTgN14, ↓dTgW14, ↓dVar15, ↓dAug15, ↓dSet15, ↓dTgN15, ↓dTgW15, ↓dVar16, ↓dAug16, ↓dSet16, ↓dTgN16, ↓dTgW16, ↓dVar17, ↓dAug17, ↓dSet17, ↓dTgN17, ↓dTgW17, ↓dVar18, ↓dAug18, ↓dSet18, ↓dTgN18, ↓dTgW18, ↓dVar19, ↓dAug19, ↓dSet19, ↓dTgN19, ↓dTgW19, ↓dTg_t2, ↓dTg_t3, ↓exGetM, ↓exSumU, nD, plD, rwD, ↓dAdd_tup, ↓dAdd_ref, dSIndex, dInS, dKeysI, dValsI, dItemsI, dMulS, dEqK, dNeK, dClrK, dCntS]
    simp (config := {failIfUnchanged := false}) only [dC, dOp, dTest, dChain, dAnd, dOr, dNot, dAndV, dOrV, dNotV, dIf, dNil, dCons, dTup, dLst, dCB, d1, dIx, dNoPart, dPart, dSl, dCut, dNeg, dLen, dTupOf, dListOf, dSorted, dSum, dAll, dAny, dInt, dAbs, dMax, dMin, dIsi, isT, dNext, dSeq, dBrk, dCont, dNever, dExpr, dRet, dRetN, dIfS, dAsg, dPutI, dI0, dI, dIsN, dNotN, dSeqI, dRng1, dRng2, dRngDn, dEnumI, dZipI, dYes, dCall, dLM, dAppend, dExtend, dReverse, dInsert, dAugI, dRg1, dRg2, dTupRg, dLstRg, dNewK, dNewT, ↓S0_, ↓S1_, ↓S2_, ↓S3_, ↓S4_, ↓S5_, ↓S6_, List.map_cons, List.map_nil, List.length_cons, List.length_nil, List.replicate, List.cons_append, List.nil_append, Nat.reduceAdd, Nat.reduceSub, Nat.zero_add, List.getElem?_cons_zero, List.getElem?_cons_succ, Option.some.injEq, exists_eq_left, exists_eq_left', List.set_cons_zero, List.set_cons_succ, wipeD, D.int.injEq, D.bl.injEq, D.str.injEq, D.ref.injEq, D.tup.injEq, D.ty.injEq, true_and, and_true, forall_const, forall_eq', forall_eq, mt_int, mt_bool, mt_str, mt_tuple, mt_list, mt_dict, st_int_int, st_int_bool, st_int_str, st_int_tuple, st_int_list, st_int_dict, st_bool_int, st_bool_bool, st_bool_str, st_bool_tuple, st_bool_list, st_bool_dict, st_str_int, st_str_bool, st_str_str, st_str_tuple, st_str_list, st_str_dict, st_tuple_int, st_tuple_bool, st_tuple_str, st_tuple_tuple, st_tuple_list, st_tuple_dict, st_list_int, st_list_bool, st_list_str, st_list_tuple, st_list_list, st_list_dict, st_dict_int, st_dict_bool, st_dict_str, st_dict_tuple, st_dict_list, st_dict_dict, eq_self, Bool.true_eq_false, Bool.false_eq_true, false_implies, true_implies, implies_true, decide_eq_true_eq, decide_eq_false_iff_not, Bool.not_true, Bool.not_false, Bool.not_eq_true, Bool.not_eq_false, Bool.not_eq_true', Bool.not_eq_false', not_true_eq_false, not_false_eq_true, false_and, and_false, or_false, false_or, reduceCtorEq, ↓exLSu, ↓exDKu, ↓exDKd, ↓exLSd, ↓exLu, ↓dIxRu, ↓dPutu, ↓dGetAu, ↓dEq_int, ↓dNe_int, ↓dEq_bl, ↓dNe_bl, ↓dEq_str, ↓dNe_str, ↓dAdd_int, ↓exAt10, ↓exIx10, ↓exAt20, ↓exIx20, ↓exAt21, ↓exIx21, ↓exAt30, ↓exIx30, ↓exAt31, ↓exIx31, ↓exAt32, ↓exIx32, ↓exAt40, ↓exIx40, ↓exAt41, ↓exIx41, ↓exAt42, ↓exIx42, ↓exAt43, ↓exIx43, ↓exAt50, ↓exIx50, ↓exAt51, ↓exIx51, ↓exAt52, ↓exIx52, ↓exAt53, ↓exIx53, ↓exAt54, ↓exIx54, ↓exAt60, ↓exIx60, ↓exAt61, ↓exIx61, ↓exAt62, ↓exIx62, ↓exAt63, ↓exIx63, ↓exAt64, ↓exIx64, ↓exAt65, ↓exIx65, up_up, false_or, or_false, ↓exAtM, ↓dFlag_bl, ↓exBl, ↓exInt, ↓exRef, ↓dVar0, ↓dAug0, ↓dSet0, ↓dTgN0, ↓dTgW0, ↓dVar1, ↓dAug1, ↓dSet1, ↓dTgN1, ↓dTgW1, ↓dVar2, ↓dAug2, ↓dSet2, ↓dTgN2, ↓dTgW2, ↓dVar3, ↓dAug3, ↓dSet3, ↓dTgN3, ↓dTgW3, ↓dVar4, ↓dAug4, ↓dSet4, ↓dTgN4, ↓dTgW4, ↓dVar5, ↓dAug5, ↓dSet5, ↓dTgN5, ↓dTgW5, ↓dVar6, ↓dAug6, ↓dSet6, ↓dTgN6, ↓dTgW6, ↓dVar7, ↓dAug7, ↓dSet7, ↓dTgN7, ↓dTgW7, ↓dVar8, ↓dAug8, ↓dSet8, ↓dTgN8, ↓dTgW8, ↓dVar9, ↓dAug9, ↓dSet9, ↓dTgN9, ↓dTgW9, ↓dVar10, ↓dAug10, ↓dSet10, ↓dTgN10, ↓dTgW10, ↓dVar11, ↓dAug11, ↓dSet11, ↓dTgN11, ↓dTgW11, ↓dVar12, ↓dAug12, ↓dSet12, ↓dTgN12, ↓dTgW12, ↓dVar13, ↓dAug13, ↓dSet13, ↓dTgN13, ↓dTgW13, ↓dVar14, ↓dAug14, ↓dSet14, ↓dTgN14, ↓dTgW14, ↓dVar15, ↓dAug15, ↓dSet15, ↓dTgN15, ↓dTgW15, ↓dVar16, ↓dAug16, ↓dSet16, ↓dTgN16, ↓dTgW16, ↓dVar17, ↓dAug17, ↓dSet17, ↓dTgN17, ↓dTgW17, ↓dVar18, ↓dAug18, ↓dSet18, ↓dTgN18, ↓dTgW18, ↓dVar19, ↓dAug19, ↓dSet19, ↓dTgN19, ↓dTgW19, ↓dTg_t2, ↓dTg_t3, ↓exGetM, ↓exSumU, nD, plD, rwD, ↓dAdd_tup, ↓dAdd_ref, dSIndex, dInS, dKeysI, dValsI, dItemsI, dMulS, dEqK, dNeK, dClrK, dCntS]
    refine ⟨_, .inr (by rw [up_ne (show p ≠ r1 by rintro rfl; rw [up_ne npf, hp] at hr1; cases hr1), up_ne npf]; exact hp), ?_⟩
    rw [ec]
    intro f2 hf2
    have n12 : r1 ≠ f2 := by rintro rfl; rw [up_same] at hf2; cases hf2
    have n1f : r1 ≠ f := by rintro rfl; rw [up_same] at hr1; cases hr1
    refine ⟨by rw [List.length_map]; exact Nat.le_of_lt (small1000 (by omega)), lcF D.int (fun c => D.int (c % 1000003)) (fun c => decide ((if c < 0 then -c else c) < (10 : Int) ^ Int.toNat 18)) ns rfl (fun l1 c t pre acc P' e y1 y2 => ?_) ⟨.inl up_same, fun r2 hr2 => ?_⟩⟩
    · refine ⟨.inl up_same, ?_⟩
      subst t2; subst u2
      simp (config := {failIfUnchanged := false}) only [dC, dOp, dTest, dChain, dAnd, dOr, dNot, dAndV, dOrV, dNotV, dIf, dNil, dCons, dTup, dLst, dCB, d1, dIx, dNoPart, dPart, dSl, dCut, dNeg, dLen, dTupOf, dListOf, dSorted, dSum, dAll, dAny, dInt, dAbs, dMax, dMin, dIsi, isT, dNext, dSeq, dBrk, dCont, dNever, dExpr, dRet, dRetN, dIfS, dAsg, dPutI, dI0, dI, dIsN, dNotN, dSeqI, dRng1, dRng2, dRngDn, dEnumI, dZipI, dYes, dCall, dLM, dAppend, dExtend, dReverse, dInsert, dAugI, dRg1, dRg2, dTupRg, dLstRg, dNewK, dNewT, ↓S0_, ↓S1_, ↓S2_, ↓S3_, ↓S4_, ↓S5_, ↓S6_, List.map_cons, List.map_nil, List.length_cons, List.length_nil, List.replicate, List.cons_append, List.nil_append, Nat.reduceAdd, Nat.reduceSub, Nat.zero_add, List.getElem?_cons_zero, List.getElem?_cons_succ, Option.some.injEq, exists_eq_left, exists_eq_left', List.set_cons_zero, List.set_cons_succ, wipeD, D.int.injEq, D.bl.injEq, D.str.injEq, D.ref.injEq, D.tup.injEq, D.ty.injEq, true_and, and_true, forall_const, forall_eq', forall_eq, mt_int, mt_bool, mt_str, mt_tuple, mt_list, mt_dict, st_int_int, st_int_bool, st_int_str, st_int_tuple, st_int_list, st_int_dict, st_bool_int, st_bool_bool, st_bool_str, st_bool_tuple, st_bool_list, st_bool_dict, st_str_int, st_str_bool, st_str_str, st_str_tuple, st_str_list, st_str_dict, st_tuple_int, st_tuple_bool, st_tuple_str, st_tuple_tuple, st_tuple_list, st_tuple_dict, st_list_int, st_list_bool, st_list_str, st_list_tuple, st_list_list, st_list_dict, st_dict_int, st_dict_bool, st_dict_str, st_dict_tuple, st_dict_list, st_dict_dict, eq_self, Bool.true_eq_false, Bool.false_eq_true, false_implies, true_implies, implies_true, decide_eq_true_eq, decide_eq_false_iff_not, Bool.not_true, Bool.not_false, Bool.not_eq_true, Bool.not_eq_false, Bool.not_eq_true', Bool.not_eq_false', not_true_eq_false, not_false_eq_true, false_and, and_false, or_false, false_or, reduceCtorEq, ↓exLSu, ↓exDKu, ↓exDKd, ↓exLSd, ↓exLu, ↓dIxRu, ↓dPutu, ↓dGetAu, ↓dEq_int, ↓dNe_int, ↓dEq_bl, ↓dNe_bl, ↓dEq_str, ↓dNe_str, ↓dAdd_int, ↓exAt10, ↓exIx10, ↓exAt20, ↓exIx20, ↓exAt21, ↓exIx21, ↓exAt30, ↓exIx30, ↓exAt31, ↓exIx31, ↓exAt32, ↓exIx32, ↓exAt40, ↓exIx40, ↓exAt41, ↓exIx41, ↓exAt42, ↓exIx42, ↓exAt43, ↓exIx43, ↓exAt50, ↓exIx50, ↓exAt51, ↓exIx51, ↓exAt52, ↓exIx52, ↓exAt53, ↓exIx53, ↓exAt54, ↓exIx54, ↓exAt60, ↓exIx60, ↓exAt61, ↓exIx61, ↓exAt62, ↓exIx62, ↓exAt63, ↓exIx63, ↓exAt64, ↓exIx64, ↓exAt65, ↓exIx65, up_up, false_or, or_false, ↓exAtM, ↓dFlag_bl, ↓exBl, ↓exInt, ↓exRef, ↓dVar0, ↓dAug0, ↓dSet0, ↓dTgN0, ↓dTgW0, ↓dVar1, ↓dAug1, ↓dSet1, ↓dTgN1, ↓dTgW1, ↓dVar2, ↓dAug2, ↓dSet2, ↓dTgN2, ↓dTgW2, ↓dVar3, ↓dAug3, ↓dSet3, ↓dTgN3, ↓dTgW3, ↓dVar4, ↓dAug4, ↓dSet4, ↓dTgN4, ↓dTgW4, ↓dVar5, ↓dAug5, ↓dSet5, ↓dTgN5, ↓dTgW5, ↓dVar6, ↓dAug6, ↓dSet6, ↓dTgN6, ↓dTgW6, ↓dVar7, ↓dAug7, ↓dSet7, ↓dTgN7, ↓dTgW7, ↓dVar8, ↓dAug8, ↓dSet8, ↓dTgN8, ↓dTgW8, ↓dVar9, ↓dAug9, ↓dSet9, ↓dTgN9, ↓dTgW9, ↓dVar10, ↓dAug10, ↓dSet10, ↓dTgN10, ↓dTgW10, ↓dVar11, ↓dAug11, ↓dSet11, ↓dTgN11, ↓dTgW11, ↓dVar12, ↓dAug12, ↓dSet12, ↓dTgN12, ↓dTgW12, ↓dVar13, ↓dAug13, ↓dSet13, ↓dTgN13, ↓dTgW13, ↓dVar14, ↓dAug14, ↓dSet14, ↓dTgN14, ↓dTgW14, ↓dVar15, ↓dAug15, ↓dSet15, ↓dTgN15, ↓dTgW15, ↓dVar16, ↓dAug16, ↓dSet16, ↓dTgN16, ↓dTgW16, ↓dVar17, ↓dAug17, ↓dSet17, ↓dTgN17, ↓dTgW17, ↓dVar18, ↓dAug18, ↓dSet18, ↓dTgN18, ↓dTgW18, ↓dVar19, ↓dAug19, ↓dSet19, ↓dTgN19, ↓dTgW19, ↓dTg_t2, ↓dTg_t3, ↓exGetM, ↓exSumU, nD, plD, rwD, ↓dAdd_tup, ↓dAdd_ref, dSIndex, dInS, dKeysI, dValsI, dItemsI, dMulS, dEqK, dNeK, dClrK, dCntS]
      exact ⟨pw, fun z => ⟨by decide, sb0 (y1 (decide_eq_true z))⟩, fun z => sb0 (y2 (decide_eq_false z))⟩
    rw [h2]; clear h2 t2 u2
    rw [e2]
    intro z hz
    have nr : r1 ≠ r2 := by rintro rfl; rw [up_ne n12, up_same] at hr2; cases hr2
    have nz2 : r2 ≠ z := by rintro rfl; rw [up_same] at hz; cases hz
    have nz1 : r1 ≠ z := by rintro rfl; rw [up_ne nr, up_ne n12, up_same] at hz; cases hz
    rw [up_comm n12]
    refine ⟨_, dbl_new (G := G5) nz1 nz2 nr g5, h _ _ ⟨z, r1, r2, rfl, dblN_at nz1 nz2 nr⟩⟩
  · simp only [startD, List.map_cons, List.map_nil, List.length_cons, List.length_nil, Nat.reduceAdd, Nat.reduceSub, Nat.zero_add, List.replicate, List.cons_append, List.nil_append]; simp (config := {failIfUnchanged := false}) only [dC, dOp, dTest, dChain, dAnd, dOr, dNot, dAndV, dOrV, dNotV, dIf, dNil, dCons, dTup, dLst, dCB, d1, dIx, dNoPart, dPart, dSl, dCut, dNeg, dLen, dTupOf, dListOf, dSorted, dSum, dAll, dAny, dInt, dAbs, dMax, dMin, dIsi, isT, dNext, dSeq, dBrk, dCont, dNever, dExpr, dRet, dRetN, dIfS, dAsg, dPutI, dI0, dI, dIsN, dNotN, dSeqI, dRng1, dRng2, dRngDn, dEnumI, dZipI, dYes, dCall, dLM, dAppend, dExtend, dReverse, dInsert, dAugI, dRg1, dRg2, dTupRg, dLstRg, dNewK, dNewT, ↓S0_, ↓S1_, ↓S2_, ↓S3_, ↓S4_, ↓S5_, ↓S6_, List.map_cons, List.map_nil, List.length_cons, List.length_nil, List.replicate, List.cons_append, List.nil_append, Nat.reduceAdd, Nat.reduceSub, Nat.zero_add, List.getElem?_cons_zero, List.getElem?_cons_succ, Option.some.injEq, exists_eq_left, exists_eq_left', List.set_cons_zero, List.set_cons_succ, wipeD, D.int.injEq, D.bl.injEq, D.str.injEq, D.ref.injEq, D.tup.injEq, D.ty.injEq, true_and, and_true, forall_const, forall_eq', forall_eq, mt_int, mt_bool, mt_str, mt_tuple, mt_list, mt_dict, st_int_int, st_int_bool, st_int_str, st_int_tuple, st_int_list, st_int_dict, st_bool_int, st_bool_bool, st_bool_str, st_bool_tuple, st_bool_list, st_bool_dict, st_str_int, st_str_bool, st_str_str, st_str_tuple, st_str_list, st_str_dict, st_tuple_int, st_tuple_bool, st_tuple_str, st_tuple_tuple, st_tuple_list, st_tuple_dict, st_list_int, st_list_bool, st_list_str, st_list_tuple, st_list_list, st_list_dict, st_dict_int, st_dict_bool, st_dict_str, st_dict_tuple, st_dict_list, st_dict_dict, eq_self, Bool.true_eq_false, Bool.false_eq_true, false_implies, true_implies, implies_true, decide_eq_true_eq, decide_eq_false_iff_not, Bool.not_true, Bool.not_false, Bool.not_eq_true, Bool.not_eq_false, Bool.not_eq_true', Bool.not_eq_false', not_true_eq_false, not_false_eq_true, false_and, and_false, or_false, false_or, reduceCtorEq, ↓exLSu, ↓exDKu, ↓exDKd, ↓exLSd, ↓exLu, ↓dIxRu, ↓dPutu, ↓dGetAu, ↓dEq_int, ↓dNe_int, ↓dEq_bl, ↓dNe_bl, ↓dEq_str, ↓dNe_str, ↓dAdd_int, ↓exAt10, ↓exIx10, ↓exAt20, ↓exIx20, ↓exAt21, ↓exIx21, ↓exAt30, ↓exIx30, ↓exAt31, ↓exIx31, ↓exAt32, ↓exIx32, ↓exAt40, ↓exIx40, ↓exAt41, ↓exIx41, ↓exAt42, ↓exIx42, ↓exAt43, ↓exIx43, ↓exAt50, ↓exIx50, ↓exAt51, ↓exIx51, ↓exAt52, ↓exIx52, ↓exAt53, ↓exIx53, ↓exAt54, ↓exIx54, ↓exAt60, ↓exIx60, ↓exAt61, ↓exIx61, ↓exAt62, ↓exIx62, ↓exAt63, ↓exIx63, ↓exAt64, ↓exIx64, ↓exAt65, ↓exIx65, up_up, false_or, or_false, ↓exAtM, ↓dFlag_bl, ↓exBl, ↓exInt, ↓exRef, ↓dVar0, ↓dAug0, ↓dSet0, ↓dTgN0, ↓dTgW0, ↓dVar1, ↓dAug1, ↓dSet1, ↓dTgN1, ↓dTgW1, ↓dVar2, ↓dAug2, ↓dSet2, ↓dTgN2, ↓dTgW2, ↓dVar3, ↓dAug3, ↓dSet3, ↓dTgN3, ↓dTgW3, ↓dVar4, ↓dAug4, ↓dSet4, ↓dTgN4, ↓dTgW4, ↓dVar5, ↓dAug5, ↓dSet5, ↓dTgN5, ↓dTgW5, ↓dVar6, ↓dAug6, ↓dSet6, ↓dTgN6, ↓dTgW6, ↓dVar7, ↓dAug7, ↓dSet7, ↓dTgN7, ↓dTgW7, ↓dVar8, ↓dAug8, ↓dSet8, ↓dTgN8, ↓dTgW8, ↓dVar9, ↓dAug9, ↓dSet9, ↓dTgN9, ↓dTgW9, ↓dVar10, ↓dAug10, ↓dSet10, ↓dTgN10, ↓dTgW10, ↓dVar11, ↓dAug11, ↓dSet11, ↓dTgN11, ↓dTgW11, ↓dVar12, ↓dAug12, ↓dSet12, ↓dTgN12, ↓dTgW12, ↓dVar13, ↓dAug13, ↓dSet13, ↓dTgN13, ↓dTgW13, ↓dVar14, ↓dAug14, ↓dSet14, ↓dTgN14, ↓dTgW14, ↓dVar15, ↓dAug15, ↓dSet15, ↓dTgN15, ↓dTgW15, ↓dVar16, ↓dAug16, ↓dSet16, ↓dTgN16, ↓dTgW16, ↓dVar17, ↓dAug17, ↓dSet17, ↓dTgN17, ↓dTgW17, ↓dVar18, ↓dAug18, ↓dSet18, ↓dTgN18, ↓dTgW18, ↓dVar19, ↓dAug19, ↓dSet19, ↓dTgN19, ↓dTgW19, ↓dTg_t2, ↓dTg_t3, ↓exGetM, ↓exSumU, nD, plD, rwD, ↓dAdd_tup, ↓dAdd_ref, dSIndex, dInS, dKeysI, dValsI, dItemsI, dMulS, dEqK, dNeK, dClrK, dCntS]
    refine dLc_g fun F1 T1 U1 h1 t1 u1 => ?_; simp only [dLc, dC, dOp, dTest, dChain, dAnd, dOr, dNot, dAndV, dOrV, dNotV, dIf, dNil, dCons, dTup, dLst, dCB, d1, dIx, dNoPart, dPart, dSl, dCut, dNeg, dLen, dTupOf, dListOf, dSorted, dSum, dAll, dAny, dInt, dAbs, dMax, dMin, dIsi, isT, dNext, dSeq, dBrk, dCont, dNever, dExpr, dRet, dRetN, dIfS, dAsg, dPutI, dI0, dI, dIsN, dNotN, dSeqI, dRng1, dRng2, dRngDn, dEnumI, dZipI, dYes, dCall, dLM, dAppend, dExtend, dReverse, dInsert, dAugI, dRg1, dRg2, dTupRg, dLstRg, dNewK, dNewT, ↓S0_, ↓S1_, ↓S2_, ↓S3_, ↓S4_, ↓S5_, ↓S6_, List.map_cons, List.map_nil, List.length_cons, List.length_nil, List.replicate, List.cons_append, List.nil_append, Nat.reduceAdd, Nat.reduceSub, Nat.zero_add, List.getElem?_cons_zero, List.getElem?_cons_succ, Option.some.injEq, exists_eq_left, exists_eq_left', List.set_cons_zero, List.set_cons_succ, wipeD, D.int.injEq, D.bl.injEq, D.str.injEq, D.ref.injEq, D.tup.injEq, D.ty.injEq, true_and, and_true, forall_const, forall_eq', forall_eq, mt_int, mt_bool, mt_str, mt_tuple, mt_list, mt_dict, st_int_int, st_int_bool, st_int_str, st_int_tuple, st_int_list, st_int_dict, st_bool_int, st_bool_bool, st_bool_str, st_bool_tuple, st_bool_list, st_bool_dict, st_str_int, st_str_bool, st_str_str, st_str_tuple, st_str_list, st_str_dict, st_tuple_int, st_tuple_bool, st_tuple_str, st_tuple_tuple, st_tuple_list, st_tuple_dict, st_list_int, st_list_bool, st_list_str, st_list_tuple, st_list_list, st_list_dict, st_dict_int, st_dict_bool, st_dict_str, st_dict_tuple, st_dict_list, st_dict_dict, eq_self, Bool.true_eq_false, Bool.false_eq_true, false_implies, true_implies, implies_true, decide_eq_true_eq, decide_eq_false_iff_not, Bool.not_true, Bool.not_false, Bool.not_eq_true, Bool.not_eq_false, Bool.not_eq_true', Bool.not_eq_false', not_true_eq_false, not_false_eq_true, false_and, and_false, or_false, false_or, reduceCtorEq, ↓exLSu, ↓exDKu, ↓exDKd, ↓exLSd, ↓exLu, ↓dIxRu, ↓dPutu, ↓dGetAu, ↓dEq_int, ↓dNe_int, ↓dEq_bl, ↓dNe_bl, ↓dEq_str, ↓dNe_str, ↓dAdd_int, ↓exAt10, ↓exIx10, ↓exAt20, ↓exIx20, ↓exAt21, ↓exIx21, ↓exAt30, ↓exIx30, ↓exAt31, ↓exIx31, ↓exAt32, ↓exIx32, ↓exAt40, ↓exIx40, ↓exAt41, ↓exIx41, ↓exAt42, ↓exIx42, ↓exAt43, ↓exIx43, ↓exAt50, ↓exIx50, ↓exAt51, ↓exIx51, ↓exAt52, ↓exIx52, ↓exAt53, ↓exIx53, ↓exAt54, ↓exIx54, ↓exAt60, ↓exIx60, ↓exAt61, ↓exIx61, ↓exAt62, ↓exIx62, ↓exAt63, ↓exIx63, ↓exAt64, ↓exIx64, ↓exAt65, ↓exIx65, up_up, false_or, or_false, ↓exAtM, ↓dFlag_bl, ↓exBl, ↓exInt, ↓exRef, ↓dVar0, ↓dAug0, ↓dSet0, ↓dTgN0, ↓dTgW0, ↓dVar1, ↓dAug1, ↓dSet1, ↓dTgN1, ↓dTgW1, ↓dVar2, ↓dAug2, ↓dSet2, ↓dTgN2, ↓dTgW2, ↓dVar3, ↓dAug3, ↓dSet3, ↓dTgN3, ↓dTgW3, ↓dVar4, ↓dAug4, ↓dSet4, ↓dTgN4, ↓dTgW4, ↓dVar5, ↓dAug5, ↓dSet5, ↓dTgN5, ↓dTgW5, ↓dVar6, ↓dAug6, ↓dSet6, ↓dTgN6, ↓dTgW6, ↓dVar7, ↓dAug7, ↓dSet7, ↓dTgN7, ↓dTgW7, ↓dVar8, ↓dAug8, ↓dSet8, ↓dTgN8, ↓dTgW8, ↓dVar9, ↓dAug9, ↓dSet9, ↓dTgN9, ↓dTgW9, ↓dVar10, ↓dAug10, ↓dSet10, ↓dTgN10, ↓dTgW10, ↓dVar11, ↓dAug11, ↓dSet11, ↓dTgN11, ↓dTgW11, ↓dVar12, ↓dAug12, ↓dSet12, ↓dTgN12, ↓dTgW12, ↓dVar13, ↓dAug13, ↓dSet13, ↓dTgN13, ↓dTgW13, ↓dVar14, ↓dAug14, ↓dSet14, ↓dTgN14, ↓dTgW14, ↓dVar15, ↓dAug15, ↓dSet15, ↓dTgN15, ↓dTgW15, ↓dVar16, ↓dAug16, ↓dSet16, ↓dTgN16, ↓dTgW16, ↓dVar17, ↓dAug17, ↓dSet17, ↓dTgN17, ↓dTgW17, ↓dVar18, ↓dAug18, ↓dSet18, ↓dTgN18, ↓dTgW18, ↓dVar19, ↓dAug19, ↓dSet19, ↓dTgN19, ↓dTgW19, ↓dTg_t2, ↓dTg_t3, ↓exGetM, ↓exSumU, nD, plD, rwD, ↓dAdd_tup, ↓dAdd_ref, dSIndex, dInS, dKeysI, dValsI, dItemsI, dMulS, dEqK, dNeK, dClrK, dCntS]
    simp (config := {failIfUnchanged := false}) only [dC, dOp, dTest, dChain, dAnd, dOr, dNot, dAndV, dOrV, dNotV, dIf, dNil, dCons, dTup, dLst, dCB, d1, dIx, dNoPart, dPart, dSl, dCut, dNeg, dLen, dTupOf, dListOf, dSorted, dSum, dAll, dAny, dInt, dAbs, dMax, dMin, dIsi, isT, dNext, dSeq, dBrk, dCont, dNever, dExpr, dRet, dRetN, dIfS, dAsg, dPutI, dI0, dI, dIsN, dNotN, dSeqI, dRng1, dRng2, dRngDn, dEnumI, dZipI, dYes, dCall, dLM, dAppend, dExtend, dReverse, dInsert, dAugI, dRg1, dRg2, dTupRg, dLstRg, dNewK, dNewT, ↓S0_, ↓S1_, ↓S2_, ↓S3_, ↓S4_, ↓S5_, ↓S6_, List.map_cons, List.map_nil, List.length_cons, List.length_nil, List.replicate, List.cons_append, List.nil_append, Nat.reduceAdd, Nat.reduceSub, Nat.zero_add, List.getElem?_cons_zero, List.getElem?_cons_succ, Option.some.injEq, exists_eq_left, exists_eq_left', List.set_cons_zero, List.set_cons_succ, wipeD, D.int.injEq, D.bl.injEq, D.str.injEq, D.ref.injEq, D.tup.injEq, D.ty.injEq, true_and, and_true, forall_const, forall_eq', forall_eq, mt_int, mt_bool, mt_str, mt_tuple, mt_list, mt_dict, st_int_int, st_int_bool, st_int_str, st_int_tuple, st_int_list, st_int_dict, st_bool_int, st_bool_bool, st_bool_str, st_bool_tuple, st_bool_list, st_bool_dict, st_str_int, st_str_bool, st_str_str, st_str_tuple, st_str_list, st_str_dict, st_tuple_int, st_tuple_bool, st_tuple_str, st_tuple_tuple, st_tuple_list, st_tuple_dict, st_list_int, st_list_bool, st_list_str, st_list_tuple, st_list_list, st_list_dict, st_dict_int, st_dict_bool, st_dict_str, st_dict_tuple, st_dict_list, st_dict_dict, eq_self, Bool.true_eq_false, Bool.false_eq_true, false_implies, true_implies, implies_true, decide_eq_true_eq, decide_eq_false_iff_not, Bool.not_true, Bool.not_false, Bool.not_eq_true, Bool.not_eq_false, Bool.not_eq_true', Bool.not_eq_false', not_true_eq_false, not_false_eq_true, false_and, and_false, or_false, false_or, reduceCtorEq, ↓exLSu, ↓exDKu, ↓exDKd, ↓exLSd, ↓exLu, ↓dIxRu, ↓dPutu, ↓dGetAu, ↓dEq_int, ↓dNe_int, ↓dEq_bl, ↓dNe_bl, ↓dEq_str, ↓dNe_str, ↓dAdd_int, ↓exAt10, ↓exIx10, ↓exAt20, ↓exIx20, ↓exAt21, ↓exIx21, ↓exAt30, ↓exIx30, ↓exAt31, ↓exIx31, ↓exAt32, ↓exIx32, ↓exAt40, ↓exIx40, ↓exAt41, ↓exIx41, ↓exAt42, ↓exIx42, ↓exAt43, ↓exIx43, ↓exAt50, ↓exIx50, ↓exAt51, ↓exIx51, ↓exAt52, ↓exIx52, ↓exAt53, ↓exIx53, ↓exAt54, ↓exIx54, ↓exAt60, ↓exIx60, ↓exAt61, ↓exIx61, ↓exAt62, ↓exIx62, ↓exAt63, ↓exIx63, ↓exAt64, ↓exIx64, ↓exAt65, ↓exIx65, up_up, false_or, or_false, ↓exAtM, ↓dFlag_bl, ↓exBl, ↓exInt, ↓exRef, ↓dVar0, ↓dAug0, ↓dSet0, ↓dTgN0, ↓dTgW0, ↓dVar1, ↓dAug1, ↓dSet1, ↓dTgN1, ↓dTgW1, ↓dVar2, ↓dAug2, ↓dSet2, ↓dTgN2, ↓dTgW2, ↓dVar3, ↓dAug3, ↓dSet3, ↓dTgN3, ↓dTgW3, ↓dVar4, ↓dAug4, ↓dSet4, ↓dTgN4, ↓dTgW4, ↓dVar5, ↓dAug5, ↓dSet5, ↓dTgN5, ↓dTgW5, ↓dVar6, ↓dAug6, ↓dSet6, ↓dTgN6, ↓dTgW6, ↓dVar7, ↓dAug7, ↓dSet7, ↓dTgN7, ↓dTgW7, ↓dVar8, ↓dAug8, ↓dSet8, ↓dTgN8, ↓dTgW8, ↓dVar9, ↓dAug9, ↓dSet9, ↓dTgN9, ↓dTgW9, ↓dVar10, ↓dAug10, ↓dSet10, ↓dTgN10, ↓dTgW10, ↓dVar11, ↓dAug11, ↓dSet11, ↓dTgN11, ↓dTgW11, ↓dVar12, ↓dAug12, ↓dSet12, ↓dTgN12, ↓dTgW12, ↓dVar13, ↓dAug13, ↓dSet13, ↓dTgN13, ↓dTgW13, ↓dVar14, ↓dAug14, ↓dSet14, ↓dTgN14, ↓dTgW14, ↓dVar15, ↓dAug15, ↓dSet15, ↓dTgN15, ↓dTgW15, ↓dVar16, ↓dAug16, ↓dSet16, ↓dTgN16, ↓dTgW16, ↓dVar17, ↓dAug17, ↓dSet17, ↓dTgN17, ↓dTgW17, ↓dVar18, ↓dAug18, ↓dSet18, ↓dTgN18, ↓dTgW18, ↓dVar19, ↓dAug19, ↓dSet19, ↓dTgN19, ↓dTgW19, ↓dTg_t2, ↓dTg_t3, ↓exGetM, ↓exSumU, nD, plD, rwD, ↓dAdd_tup, ↓dAdd_ref, dSIndex, dInS, dKeysI, dValsI, dItemsI, dMulS, dEqK, dNeK, dClrK, dCntS]
    rw [ec]
    intro f hf
    refine ⟨by rw [List.length_map]; exact Nat.le_of_lt (small1000 (by omega)), lcF D.int (fun c => D.int (if c < 0 then -c else c)) (fun c => decide ((10 : Int) ^ Int.toNat 18 ≤ (if c < 0 then -c else c))) ns rfl (fun l1 c t pre acc P' e y1 y2 => ?_) ⟨.inl up_same, fun r1 hr1 => ?_⟩⟩
    · refine ⟨.inl up_same, ?_⟩
      subst t1; subst u1
      simp (config := {failIfUnchanged := false}) only [dC, dOp, dTest, dChain, dAnd, dOr, dNot, dAndV, dOrV, dNotV, dIf, dNil, dCons, dTup, dLst, dCB, d1, dIx, dNoPart, dPart, dSl, dCut, dNeg, dLen, dTupOf, dListOf, dSorted, dSum, dAll, dAny, dInt, dAbs, dMax, dMin, dIsi, isT, dNext, dSeq, dBrk, dCont, dNever, dExpr, dRet, dRetN, dIfS, dAsg, dPutI, dI0, dI, dIsN, dNotN, dSeqI, dRng1, dRng2, dRngDn, dEnumI, dZipI, dYes, dCall, dLM, dAppend, dExtend, dReverse, dInsert, dAugI, dRg1, dRg2, dTupRg, dLstRg, dNewK, dNewT, ↓S0_, ↓S1_, ↓S2_, ↓S3_, ↓S4_, ↓S5_, ↓S6_, List.map_cons, List.map_nil, List.length_cons, List.length_nil, List.replicate, List.cons_append, List.nil_append, Nat.reduceAdd, Nat.reduceSub, Nat.zero_add, List.getElem?_cons_zero, List.getElem?_cons_succ, Option.some.injEq, exists_eq_left, exists_eq_left', List.set_cons_zero, List.set_cons_succ, wipeD, D.int.injEq, D.bl.injEq, D.str.injEq, D.ref.injEq, D.tup.injEq, D.ty.injEq, true_and, and_true, forall_const, forall_eq', forall_eq, mt_int, mt_bool, mt_str, mt_tuple, mt_list, mt_dict, st_int_int, st_int_bool, st_int_str, st_int_tuple, st_int_list, st_int_dict, st_bool_int, st_bool_bool, st_bool_str, st_bool_tuple, st_bool_list, st_bool_dict, st_str_int, st_str_bool, st_str_str, st_str_tuple, st_str_list, st_str_dict, st_tuple_int, st_tuple_bool, st_tuple_str, st_tuple_tuple, st_tuple_list, st_tuple_dict, st_list_int, st_list_bool, st_list_str, st_list_tuple, st_list_list, st_list_dict, st_dict_int, st_dict_bool, st_dict_str, st_dict_tuple, st_dict_list, st_dict_dict, eq_self, Bool.true_eq_false, Bool.false_eq_true, false_implies, true_implies, implies_true, decide_eq_true_eq, decide_eq_false_iff_not, Bool.not_true, Bool.not_false, Bool.not_eq_true, Bool.not_eq_false, Bool.not_eq_true', Bool.not_eq_false', not_true_eq_false, not_false_eq_true, false_and, and_false, or_false, false_or, reduceCtorEq, ↓exLSu, ↓exDKu, ↓exDKd, ↓exLSd, ↓exLu, ↓dIxRu, ↓dPutu, ↓dGetAu, ↓dEq_int, ↓dNe_int, ↓dEq_bl, ↓dNe_bl, ↓dEq_str, ↓dNe_str, ↓dAdd_int, ↓exAt10, ↓exIx10, ↓exAt20, ↓exIx20, ↓exAt21, ↓exIx21, ↓exAt30, ↓exIx30, ↓exAt31, ↓exIx31, ↓exAt32, ↓exIx32, ↓exAt40, ↓exIx40, ↓exAt41, ↓exIx41, ↓exAt42, ↓exIx42, ↓exAt43, ↓exIx43, ↓exAt50, ↓exIx50, ↓exAt51, ↓exIx51, ↓exAt52, ↓exIx52, ↓exAt53, ↓exIx53, ↓exAt54, ↓exIx54, ↓exAt60, ↓exIx60, ↓exAt61, ↓exIx61, ↓exAt62, ↓exIx62, ↓exAt63, ↓exIx63, ↓exAt64, ↓exIx64, ↓exAt65, ↓exIx65, up_up, false_or, or_false, ↓exAtM, ↓dFlag_bl, ↓exBl, ↓exInt, ↓exRef, ↓dVar0, ↓dAug0, ↓dSet0, ↓dTgN0, ↓dTgW0, ↓dVar1, ↓dAug1, ↓dSet1, ↓dTgN1, ↓dTgW1, ↓dVar2, ↓dAug2, ↓dSet2, ↓dTgN2, ↓dTgW2, ↓dVar3, ↓dAug3, ↓dSet3, ↓dTgN3, ↓dTgW3, ↓dVar4, ↓dAug4, ↓dSet4, ↓dTgN4, ↓dTgW4, ↓dVar5, ↓dAug5, ↓dSet5, ↓dTgN5, ↓dTgW5, ↓dVar6, ↓dAug6, ↓dSet6, ↓dTgN6, ↓dTgW6, ↓dVar7, ↓dAug7, ↓dSet7, ↓dTgN7, ↓dTgW7, ↓dVar8, ↓dAug8, ↓dSet8, ↓dTgN8, ↓dTgW8, ↓dVar9, ↓dAug9, ↓dSet9, ↓dTgN9, ↓dTgW9, ↓dVar10, ↓dAug10, ↓dSet10, ↓dTgN10, ↓dTgW10, ↓dVar11, ↓dAug11, ↓dSet11, ↓dTgN11, ↓dTgW11, ↓dVar12, ↓dAug12, ↓dSet12, ↓dTgN12, ↓dTgW12, ↓dVar13, ↓dAug13, ↓dSet13, ↓dTgN13, ↓dTgW13, ↓dVar14, ↓dAug14, ↓dSet14, ↓dTgN14, ↓dTgW14, ↓dVar15, ↓dAug15, ↓dSet15, ↓dTgN15, ↓dTgW15, ↓dVar16, ↓dAug16, ↓dSet16, ↓dTgN16, ↓dTgW16, ↓dVar17, ↓dAug17, ↓dSet17, ↓dTgN17, ↓dTgW17, ↓dVar18, ↓dAug18, ↓dSet18, ↓dTgN18, ↓dTgW18, ↓dVar19, ↓dAug19, ↓dSet19, ↓dTgN19, ↓dTgW19, ↓dTg_t2, ↓dTg_t3, ↓exGetM, ↓exSumU, nD, plD, rwD, ↓dAdd_tup, ↓dAdd_ref, dSIndex, dInS, dKeysI, dValsI, dItemsI, dMulS, dEqK, dNeK, dClrK, dCntS]
      exact ⟨pw, fun z => sb0 (y1 (decide_eq_true z)), fun z => sb0 (y2 (decide_eq_false z))⟩
    rw [h1]; clear h1 t1 u1
    rw [e1]
    simp (config := {failIfUnchanged := false}) only [dC, dOp, dTest, dChain, dAnd, dOr, dNot, dAndV, dOrV, dNotV, dIf, dNil, dCons, dTup, dLst, dCB, d1, dIx, dNoPart, dPart, dSl, dCut, dNeg, dLen, dTupOf, dListOf, dSorted, dSum, dAll, dAny, dInt, dAbs, dMax, dMin, dIsi, isT, dNext, dSeq, dBrk, dCont, dNever, dExpr, dRet, dRetN, dIfS, dAsg, dPutI, dI0, dI, dIsN, dNotN, dSeqI, dRng1, dRng2, dRngDn, dEnumI, dZipI, dYes, dCall, dLM, dAppend, dExtend, dReverse, dInsert, dAugI, dRg1, dRg2, dTupRg, dLstRg, dNewK, dNewT, ↓S0_, ↓S1_, ↓S2_, ↓S3_, ↓S4_, ↓S5_, ↓S6_, List.map_cons, List.map_nil, List.length_cons, List.length_nil, List.replicate, List.cons_append, List.nil_append, Nat.reduceAdd, Nat.reduceSub, Nat.zero_add, List.getElem?_cons_zero, List.getElem?_cons_succ, Option.some.injEq, exists_eq_left, exists_eq_left', List.set_cons_zero, List.set_cons_succ, wipeD, D.int.injEq, D.bl.injEq, D.str.injEq, D.ref.injEq, D.tup.injEq, D.ty.injEq, true_and, and_true, forall_const, forall_eq', forall_eq, mt_int, mt_bool, mt_str, mt_tuple, mt_list, mt_dict, st_int_int, st_int_bool, st_int_str, st_int_tuple, st_int_list, st_int_dict, st_bool_int, st_bool_bool, st_bool_str, st_bool_tuple, st_bool_list, st_bool_dict, st_str_int, st_str_bool, st_str_str, st_str_tuple, st_str_list, st_str_dict, st_tuple_int, st_tuple_bool, st_tuple_str, st_tuple_tuple, st_tuple_list, st_tuple_dict, st_list_int, st_list_bool, st_list_str, st_list_tuple, st_list_list, st_list_dict, st_dict_int, st_dict_bool, st_dict_str, st_dict_tuple, st_dict_list, st_dict_dict, eq_self, Bool.true_eq_false, Bool.false_eq_true, false_implies, true_implies, implies_true, decide_eq_true_eq, decide_eq_false_iff_not, Bool.not_true, Bool.not_false, Bool.not_eq_true, Bool.not_eq_false, Bool.not_eq_true', Bool.not_eq_false', not_true_eq_false, not_false_eq_true, false_and, and_false, or_false, false_or, reduceCtorEq, ↓exLSu, ↓exDKu, ↓exDKd, ↓exLSd, ↓exLu, ↓dIxRu, ↓dPutu, ↓dGetAu, ↓dEq_int, ↓dNe_int, ↓dEq_bl, ↓dNe_bl, ↓dEq_str, ↓dNe_str, ↓dAdd_int, ↓exAt10, ↓exIx10, ↓exAt20, ↓exIx20, ↓exAt21, ↓exIx21, ↓exAt30, ↓exIx30, ↓exAt31, ↓exIx31, ↓exAt32, ↓exIx32, ↓exAt40, ↓exIx40, ↓exAt41, ↓exIx41, ↓exAt42, ↓exIx42, ↓exAt43, ↓exIx43, ↓exAt50, ↓exIx50, ↓exAt51, ↓exIx51, ↓exAt52, ↓exIx52, ↓exAt53, ↓exIx53, ↓exAt54, ↓exIx54, ↓exAt60, ↓exIx60, ↓exAt61, ↓exIx61, ↓exAt62, ↓exIx62, ↓exAt63, ↓exIx63, ↓exAt64, ↓exIx64, ↓exAt65, ↓exIx65, up_up, false_or, or_false, ↓exAtM, ↓dFlag_bl, ↓exBl, ↓exInt, ↓exRef, ↓dVar0, ↓dAug0, ↓dSet0, ↓dTgN0, ↓dTgW0, ↓dVar1, ↓dAug1, ↓dSet1, ↓dTgN1, ↓dTgW1, ↓dVar2, ↓dAug2, ↓dSet2, ↓dTgN2, ↓dTgW2, ↓dVar3, ↓dAug3, ↓dSet3, ↓dTgN3, ↓dTgW3, ↓dVar4, ↓dAug4, ↓dSet4, ↓dTgN4, ↓dTgW4, ↓dVar5, ↓dAug5, ↓dSet5, ↓dTgN5, ↓dTgW5, ↓dVar6, ↓dAug6, ↓dSet6, ↓dTgN6, ↓dTgW6, ↓dVar7, ↓dAug7, ↓dSet7, ↓dTgN7, ↓dTgW7, ↓dVar8, ↓dAug8, ↓dSet8, ↓dTgN8, ↓dTgW8, ↓dVar9, ↓dAug9, ↓dSet9, ↓dTgN9, ↓dTgW9, ↓dVar10, ↓dAug10, ↓dSet10, ↓dTgN10, ↓dTgW10, ↓dVar11, ↓dAug11, ↓dSet11, ↓dTgN11, ↓dTgW11, ↓dVar12, ↓dAug12, ↓dSet12, ↓dTgN12, ↓dTgW12, ↓dVar13, ↓dAug13, ↓dSet13, ↓dTgN13, ↓dTgW13, ↓dVar14, ↓dAug14, ↓dSet14, ↓dTgN14, ↓dTgW14, ↓dVar15, ↓dAug15, ↓dSet15, ↓dTgN15, ↓dTgW15, ↓dVar16, ↓dAug16, ↓dSet16, ↓dTgN16, ↓dTgW16, ↓dVar17, ↓dAug17, ↓dSet17, ↓dTgN17, ↓dTgW17, ↓dVar18, ↓dAug18, ↓dSet18, ↓dTgN18, ↓dTgW18, ↓dVar19, ↓dAug19, ↓dSet19, ↓dTgN19, ↓dTgW19, ↓dTg_t2, ↓dTg_t3, ↓exGetM, ↓exSumU, nD, plD, rwD, ↓dAdd_tup, ↓dAdd_ref, dSIndex, dInS, dKeysI, dValsI, dItemsI, dMulS, dEqK, dNeK, dClrK, dCntS]
    refine dLc_g fun F2 T2 U2 h2 t2 u2 => ?_; simp only [dLc, dC, dOp, dTest, dChain, dAnd, dOr, dNot, dAndV, dOrV, dNotV, dIf, dNil, dCons, dTup, dLst, dCB, d1, dIx, dNoPart, dPart, dSl, dCut, dNeg, dLen, dTupOf, dListOf, dSorted, dSum, dAll, dAny, dInt, dAbs, dMax, dMin, dIsi, isT, dNext, dSeq, dBrk, dCont, dNever, dExpr, dRet, dRetN, dIfS, dAsg, dPutI, dI0, dI, dIsN, dNotN, dSeqI, dRng1, dRng2, dRngDn, dEnumI, dZipI, dYes, dCall, dLM, dAppend, dExtend, dReverse, dInsert, dAugI, dRg1, dRg2, dTupRg, dLstRg, dNewK, dNewT, ↓S0_, ↓S1_, ↓S2_, ↓S3_, ↓S4_, ↓S5_, ↓S6_, List.map_cons, List.map_nil, List.length_cons, List.length_nil, List.replicate, List.cons_append, List.nil_append, Nat.reduceAdd, Nat.reduceSub, Nat.zero_add, List.getElem?_cons_zero, List.getElem?_cons_succ, Option.some.injEq, exists_eq_left, exists_eq_left', List.set_cons_zero, List.set_cons_succ, wipeD, D.int.injEq, D.bl.injEq, D.str.injEq, D.ref.injEq, D.tup.injEq, D.ty.injEq, true_and, and_true, forall_const, forall_eq', forall_eq, mt_int, mt_bool, mt_str, mt_tuple, mt_list, mt_dict, st_int_int, st_int_bool, st_int_str, st_int_tuple, st_int_list, st_int_dict, st_bool_int, st_bool_bool, st_bool_str, st_bool_tuple, st_bool_list, st_bool_dict, st_str_int, st_str_bool, st_str_str, st_str_tuple, st_str_list, st_str_dict, st_tuple_int, st_tuple_bool, st_tuple_str, st_tuple_tuple, st_tuple_list, st_tuple_dict, st_list_int, st_list_bool, st_list_str, st_list_tuple, st_list_list, st_list_dict, st_dict_int, st_dict_bool, st_dict_str, st_dict_tuple, st_dict_list, st_dict_dict, eq_self, Bool.true_eq_false, Bool.false_eq_true, false_implies, true_implies, implies_true, decide_eq_true_eq, decide_eq_false_iff_not, Bool.not_true, Bool.not_false, Bool.not_eq_true, Bool.not_eq_false, Bool.not_eq_true', Bool.not_eq_false', not_true_eq_false, not_false_eq_true, false_and, and_false, or_false, false_or, reduceCtorEq, ↓exLSu, ↓exDKu, ↓exDKd, ↓exLSd, ↓exLu, ↓dIxRu, ↓dPutu, ↓dGetAu, ↓dEq_int, ↓dNe_int, ↓dEq_bl, ↓dNe_bl, ↓dEq_str, ↓dNe_str, ↓dAdd_int, ↓exAt10, ↓exIx10, ↓exAt20, ↓exIx20, ↓exAt21, ↓exIx21, ↓exAt30, ↓exIx30, ↓exAt31, ↓exIx31, ↓exAt32, ↓exIx32, ↓exAt40, ↓exIx40, ↓exAt41, ↓exIx41, ↓exAt42, ↓exIx42, ↓exAt43, ↓exIx43, ↓exAt50, ↓exIx50, ↓exAt51, ↓exIx51, ↓exAt52, ↓exIx52, ↓exAt53, ↓exIx53, ↓exAt54, ↓exIx54, ↓exAt60, ↓exIx60, ↓exAt61, ↓exIx61, ↓exAt62, ↓exIx62, ↓exAt63, ↓exIx63, ↓exAt64, ↓exIx64, ↓exAt65, ↓exIx65, up_up, false_or, or_false, ↓exAtM, ↓dFlag_bl, ↓exBl, ↓exInt, ↓exRef, ↓dVar0, ↓dAug0, ↓dSet0, ↓dTgN0, ↓dTgW0, ↓dVar1, ↓dAug1, ↓dSet1, ↓dTgN1, ↓dTgW1, ↓dVar2, ↓dAug2, ↓dSet2, ↓dTgN2, ↓dTgW2, ↓dVar3, ↓dAug3, ↓dSet3, ↓dTgN3, ↓dTgW3, ↓dVar4, ↓dAug4, ↓dSet4, ↓dTgN4, ↓dTgW4, ↓dVar5, ↓dAug5, ↓dSet5, ↓dTgN5, ↓dTgW5, ↓dVar6, ↓dAug6, ↓dSet6, ↓dTgN6, ↓dTgW6, ↓dVar7, ↓dAug7, ↓dSet7, ↓dTgN7, ↓dTgW7, ↓dVar8, ↓dAug8, ↓dSet8, ↓dTgN8, ↓dTgW8, ↓dVar9, ↓dAug9, ↓dSet9, ↓dTgN9, ↓dTgW9, ↓dVar10, ↓dAug10, ↓dSet10, ↓dTgN10, ↓dTgW10, ↓dVar11, ↓dAug11, ↓dSet11, ↓dTgN11, ↓dTgW11, ↓dVar12, ↓dAug12, ↓dSet12, ↓dTgN12, ↓dTgW12, ↓dVar13, ↓dAug13, ↓dSet13, ↓dTgN13, ↓dTgW13, ↓dVar14, ↓dAug14, ↓dSet14, ↓dTgN14, ↓dTgW14, ↓dVar15, ↓dAug15, ↓dSet15, ↓dTgN15, ↓dTgW15, ↓dVar16, ↓dAug16, ↓dSet16, ↓dTgN16, ↓dTgW16, ↓dVar17, ↓dAug17, ↓dSet17, ↓dTgN17, ↓dTgW17, ↓dVar18, ↓dAug18, ↓dSet18, ↓dTgN18, ↓dTgW18, ↓dVar19, ↓dAug19, ↓dSet19, ↓dTgN19, ↓dTgW19, ↓dTg_t2, ↓dTg_t3, ↓exGetM, ↓exSumU, nD, plD, rwD, ↓dAdd_tup, ↓dAdd_ref, dSIndex, dInS, dKeysI, dValsI, dItemsI, dMulS, dEqK, dNeK, dClrK, dCntS]
    simp (config := {failIfUnchanged := false}) only [dC, dOp, dTest, dChain, dAnd, dOr, dNot, dAndV, dOrV, dNotV, dIf, dNil, dCons, dTup, dLst, dCB, d1, dIx, dNoPart, dPart, dSl, dCut, dNeg, dLen, dTupOf, dListOf, dSorted, dSum, dAll, dAny, dInt, dAbs, dMax, dMin, dIsi, isT, dNext, dSeq, dBrk, dCont, dNever, dExpr, dRet, dRetN, dIfS, dAsg, dPutI, dI0, dI, dIsN, dNotN, dSeqI, dRng1, dRng2, dRngDn, dEnumI, dZipI, dYes, dCall, dLM, dAppend, dExtend, dReverse, dInsert, dAugI, dRg1, dRg2, dTupRg, dLstRg, dNewK, dNewT, ↓S0_, ↓S1_, ↓S2_, ↓S3_, ↓S4_, ↓S5_, ↓S6_, List.map_cons, List.map_nil, List.length_cons, List.length_nil, List.replicate, List.cons_append, List.nil_append, Nat.reduceAdd, Nat.reduceSub, Nat.zero_add, List.getElem?_cons_zero, List.getElem?_cons_succ, Option.some.injEq, exists_eq_left, exists_eq_left', List.set_cons_zero, List.set_cons_succ, wipeD, D.int.injEq, D.bl.injEq, D.str.injEq, D.ref.injEq, D.tup.injEq, D.ty.injEq, true_and, and_true, forall_const, forall_eq', forall_eq, mt_int, mt_bool, mt_str, mt_tuple, mt_list, mt_dict, st_int_int, st_int_bool, st_int_str, st_int_tuple, st_int_list, st_int_dict, st_bool_int, st_bool_bool, st_bool_str, st_bool_tuple, st_bool_list, st_bool_dict, st_str_int, st_str_bool, st_str_str, st_str_tuple, st_str_list, st_str_dict, st_tuple_int, st_tuple_bool, st_tuple_str, st_tuple_tuple, st_tuple_list, st_tuple_dict, st_list_int, st_list_bool, st_list_str, st_list_tuple, st_list_list, st_list_dict, st_dict_int, st_dict_bool, st_dict_str, st_dict_tuple, st_dict_list, st_dict_dict, eq_self, Bool.true_eq_false, Bool.false_eq_true, false_implies, true_implies, implies_true, decide_eq_true_eq, decide_eq_false_iff_not, Bool.not_true, Bool.not_false, Bool.not_eq_true, Bool.not_eq_false, Bool.not_eq_true', Bool.not_eq_false', not_true_eq_false, not_false_eq_true, false_and, and_false, or_false, false_or, reduceCtorEq, ↓exLSu, ↓exDKu, ↓exDKd, ↓exLSd, ↓exLu, ↓dIxRu, ↓dPutu, ↓dGetAu, ↓dEq_int, ↓dNe_int, ↓dEq_bl, ↓dNe_bl, ↓dEq_str, ↓dNe_str, ↓dAdd_int, ↓exAt10, ↓exIx10, ↓exAt20, ↓exIx20, ↓exAt21, ↓exIx21, ↓exAt30, ↓exIx30, ↓exAt31, ↓exIx31, ↓exAt32, ↓exIx32, ↓exAt40, ↓exIx40, ↓exAt41, ↓exIx41, ↓exAt42, ↓exIx42, ↓exAt43, ↓exIx43, ↓exAt50, ↓exIx50, ↓exAt51, ↓exIx51, ↓exAt52, ↓exIx52, ↓exAt53, ↓exIx53, ↓exAt54, ↓exIx54, ↓exAt60, ↓exIx60, ↓exAt61, ↓exIx61, ↓exAt62, ↓exIx62, ↓exAt63, ↓exIx63, ↓exAt64, ↓exIx64, ↓exAt65, ↓exIx65, up_up, false_or, or_false, ↓exAtM, ↓dFlag_bl, ↓exBl, ↓exInt, ↓exRef, ↓dVar0, ↓dAug0, ↓dSet0, ↓dTgN0, ↓dTgW0, ↓dVar1, ↓dAug1, ↓dSet1, ↓dTgN1, ↓dTgW1, ↓dVar2, ↓dAug2, ↓dSet2, ↓dTgN2, ↓dTgW2, ↓dVar3, ↓dAug3, ↓dSet3, ↓dTgN3, ↓dTgW3, ↓dVar4, ↓dAug4, ↓dSet4, ↓dTgN4, ↓dTgW4, ↓dVar5, ↓dAug5, ↓dSet5, ↓dTgN5, ↓dTgW5, ↓dVar6, ↓dAug6, ↓dSet6, ↓dTgN6, ↓dTgW6, ↓dVar7, ↓dAug7, ↓dSet7, ↓dTgN7, ↓dTgW7, ↓dVar8, ↓dAug8, ↓dSet8, ↓dTgN8, ↓dTgW8, ↓dVar9, ↓dAug9, ↓dSet9, ↓dTgN9, ↓dTgW9, ↓dVar10, ↓dAug10, ↓dSet10, ↓dTgN10, ↓dTgW10, ↓dVar11, ↓dAug11, ↓dSet11, ↓dTgN11, ↓dTgW11, ↓dVar12, ↓dAug12, ↓dSet12, ↓dTgN12, ↓dTgW12, ↓dVar13, ↓dAug13, ↓dSet13, ↓dTgN13, ↓dTgW13, ↓dVar14, ↓dAug14, ↓dSet14, ↓dTgN14, ↓dTgW14, ↓dVar15, ↓dAug15, ↓dSet15, ↓dTgN15, ↓dTgW15, ↓dVar16, ↓dAug16, ↓dSet16, ↓dTgN16, ↓dTgW16, ↓dVar17, ↓dAug17, ↓dSet17, ↓dTgN17, ↓dTgW17, ↓dVar18, ↓dAug18, ↓dSet18, ↓dTgN18, ↓dTgW18, ↓dVar19, ↓dAug19, ↓dSet19, ↓dTgN19, ↓dTgW19, ↓dTg_t2, ↓dTg_t3, ↓exGetM, ↓exSumU, nD, plD, rwD, ↓dAdd_tup, ↓dAdd_ref, dSIndex, dInS, dKeysI, dValsI, dItemsI, dMulS, dEqK, dNeK, dClrK, dCntS]
    rw [ec]
    intro f2 hf2
    have n12 : r1 ≠ f2 := by rintro rfl; rw [up_same] at hf2; cases hf2
    have n1f : r1 ≠ f := by rintro rfl; rw [up_same] at hr1; cases hr1
    refine ⟨by rw [List.length_map]; exact Nat.le_of_lt (small1000 (by omega)), lcF D.int (fun c => D.int (c % 1000003)) (fun c => decide ((if c < 0 then -c else c) < (10 : Int) ^ Int.toNat 18)) ns rfl (fun l1 c t pre acc P' e y1 y2 => ?_) ⟨.inl up_same, fun r2 hr2 => ?_⟩⟩
    · refine ⟨.inl up_same, ?_⟩
      subst t2; subst u2
      simp (config := {failIfUnchanged := false}) only [dC, dOp, dTest, dChain, dAnd, dOr, dNot, dAndV, dOrV, dNotV, dIf, dNil, dCons, dTup, dLst, dCB, d1, dIx, dNoPart, dPart, dSl, dCut, dNeg, dLen, dTupOf, dListOf, dSorted, dSum, dAll, dAny, dInt, dAbs, dMax, dMin, dIsi, isT, dNext, dSeq, dBrk, dCont, dNever, dExpr, dRet, dRetN, dIfS, dAsg, dPutI, dI0, dI, dIsN, dNotN, dSeqI, dRng1, dRng2, dRngDn, dEnumI, dZipI, dYes, dCall, dLM, dAppend, dExtend, dReverse, dInsert, dAugI, dRg1, dRg2, dTupRg, dLstRg, dNewK, dNewT, ↓S0_, ↓S1_, ↓S2_, ↓S3_, ↓S4_, ↓S5_, ↓S6_, List.map_cons, List.map_nil, List.length_cons, List.length_nil, List.replicate, List.cons_append, List.nil_append, Nat.reduceAdd, Nat.reduceSub, Nat.zero_add, List.getElem?_cons_zero, List.getElem?_cons_succ, Option.some.injEq, exists_eq_left, exists_eq_left', List.set_cons_zero, List.set_cons_succ, wipeD, D.int.injEq, D.bl.injEq, D.str.injEq, D.ref.injEq, D.tup.injEq, D.ty.injEq, true_and, and_true, forall_const, forall_eq', forall_eq, mt_int, mt_bool, mt_str, mt_tuple, mt_list, mt_dict, st_int_int, st_int_bool, st_int_str, st_int_tuple, st_int_list, st_int_dict, st_bool_int, st_bool_bool, st_bool_str, st_bool_tuple, st_bool_list, st_bool_dict, st_str_int, st_str_bool, st_str_str, st_str_tuple, st_str_list, st_str_dict, st_tuple_int, st_tuple_bool, st_tuple_str, st_tuple_tuple, st_tuple_list, st_tuple_dict, st_list_int, st_list_bool, st_list_str, st_list_tuple, st_list_list, st_list_dict, st_dict_int, st_dict_bool, st_dict_str, st_dict_tuple, st_dict_list, st_dict_dict, eq_self, Bool.true_eq_false, Bool.false_eq_true, false_implies, true_implies, implies_true, decide_eq_true_eq, decide_eq_false_iff_not, Bool.not_true, Bool.not_false, Bool.not_eq_true, Bool.not_eq_false, Bool.not_eq_true', Bool.not_eq_false', not_true_eq_false, not_false_eq_true, false_and, and_false, or_false, false_or, reduceCtorEq, ↓exLSu, ↓exDKu, ↓exDKd, ↓exLSd, ↓exLu, ↓dIxRu, ↓dPutu, ↓dGetAu, ↓dEq_int, ↓dNe_int, ↓dEq_bl, ↓dNe_bl, ↓dEq_str, ↓dNe_str, ↓dAdd_int, ↓exAt10, ↓exIx10, ↓exAt20, ↓exIx20, ↓exAt21, ↓exIx21, ↓exAt30, ↓exIx30, ↓exAt31, ↓exIx31, ↓exAt32, ↓exIx32, ↓exAt40, ↓exIx40, ↓exAt41, ↓exIx41, ↓exAt42, ↓exIx42, ↓exAt43, ↓exIx43, ↓exAt50, ↓exIx50, ↓exAt51, ↓exIx51, ↓exAt52, ↓exIx52, ↓exAt53, ↓exIx53, ↓exAt54, ↓exIx54, ↓exAt60, ↓exIx60, ↓exAt61, ↓exIx61, ↓exAt62, ↓exIx62, ↓exAt63, ↓exIx63, ↓exAt64, ↓exIx64, ↓exAt65, ↓exIx65, up_up, false_or, or_false, ↓exAtM, ↓dFlag_bl, ↓exBl, ↓exInt, ↓exRef, ↓dVar0, ↓dAug0, ↓dSet0, ↓dTgN0, ↓dTgW0, ↓dVar1, ↓dAug1, ↓dSet1, ↓dTgN1, ↓dTgW1, ↓dVar2, ↓dAug2, ↓dSet2, ↓dTgN2, ↓dTgW2, ↓dVar3, ↓dAug3, ↓dSet3, ↓dTgN3, ↓dTgW3, ↓dVar4, ↓dAug4, ↓dSet4, ↓dTgN4, ↓dTgW4, ↓dVar5, ↓dAug5, ↓dSet5, ↓dTgN5, ↓dTgW5, ↓dVar6, ↓dAug6, ↓dSet6, ↓dTgN6, ↓dTgW6, ↓dVar7, ↓dAug7, ↓dSet7, ↓dTgN7, ↓dTgW7, ↓dVar8, ↓dAug8, ↓dSet8, ↓dTgN8, ↓dTgW8, ↓dVar9, ↓dAug9, ↓dSet9, ↓dTgN9, ↓dTgW9, ↓dVar10, ↓dAug10, ↓dSet10, ↓dTgN10, ↓dTgW10, ↓dVar11, ↓dAug11, ↓dSet11, ↓dTgN11, ↓dTgW11, ↓dVar12, ↓dAug12, ↓dSet12, ↓dTgN12, ↓dTgW12, ↓dVar13, ↓dAug13, ↓dSet13, ↓dTgN13, ↓dTgW13, ↓dVar14, ↓dAug14, ↓dSet14, ↓dTgN14, ↓dTgW14, ↓dVar15, ↓dAug15, ↓dSet15, ↓dTgN15, ↓dTgW15, ↓dVar16, ↓dAug16, ↓dSet16, ↓dTgN16, ↓dTgW16, ↓dVar17, ↓dAug17, ↓dSet17, ↓dTgN17, ↓dTgW17, ↓dVar18, ↓dAug18, ↓dSet18, ↓dTgN18, ↓dTgW18, ↓dVar19, ↓dAug19, ↓dSet19, ↓dTgN19, ↓dTgW19, ↓dTg_t2, ↓dTg_t3, ↓exGetM, ↓exSumU, nD, plD, rwD, ↓dAdd_tup, ↓dAdd_ref, dSIndex, dInS, dKeysI, dValsI, dItemsI, dMulS, dEqK, dNeK, dClrK, dCntS]
      exact ⟨pw, fun z => ⟨by decide, sb0 (y1 (decide_eq_true z))⟩, fun z => sb0 (y2 (decide_eq_false z))⟩
    rw [h2]; clear h2 t2 u2
    rw [e2]
    intro z hz
    have nr : r1 ≠ r2 := by rintro rfl; rw [up_ne n12, up_same] at hr2; cases hr2
    have nz2 : r2 ≠ z := by rintro rfl; rw [up_same] at hz; cases hz
    have nz1 : r1 ≠ z := by rintro rfl; rw [up_ne nr, up_ne n12, up_same] at hz; cases hz
    rw [up_comm n12]
    refine ⟨_, dbl_new (G := G5) nz1 nz2 nr g5, h _ _ ⟨z, r1, r2, rfl, dblN_at nz1 nz2 nr⟩⟩
theorem pr__law_draw (G : Gv K mg) : Pr P w K mg base "_law_draw" 1 ["_law_pool_here", "_law_many"] (S2 fun x m M Q => ∃ (k : Nat), m = nD k ∧ Pool M x ∧ 0 < k ∧ k < 1073741824 ∧ ∀ (v : Nat) M', v < k → Up M' M x → Q (nD v) M') := by
  refine (pr3 (k := 0) G.d__law_draw bi__law_draw sc__law_draw S2n (fun f cdv A outer s H E hr => (b_cut (s_if (PW3.pt (w_and (t_cmp od_le (e_ix (ixd (hu_of hr)) (e_var 0) e_int) e_int) (w_and1 (t_cmp od_gt (e_callB cd_len (by rfl) G.b_len rfl (a_cons (e_ix (ixd (hu_of hr)) (e_var 0) e_int) a_nil)) e_int)))) (b_cons (s_put (put3 (hu_of hr)) (e_var 0) e_int (e_ix (ixd (hu_of hr)) (e_ix (ixd (hu_of hr)) (e_var 0) e_int) e_int))
      (b_one (s_put (put3 (hu_of hr)) (e_var 0) e_int (e_slice slD (e_ix (ixd (hu_of hr)) (e_var 0) e_int) (o_some e_int) o_none)))) b_nil)
      (b_cons (s_if (t_cmp od_gt (e_ix (ixd (hu_of hr)) (e_var 0) e_int) e_int) (b_cons (s_set 4 sc__law_draw.nd (e_op od_mod (e_callTy cd_int (by rfl) G.b_int rfl (a_cons (e_ix (ixd (hu_of hr)) (e_var 0) e_int) a_nil)) (e_var 1)))
      (b_cons (s_put (put3 (hu_of hr)) (e_var 0) e_int (e_op od_fdiv (e_ix (ixd (hu_of hr)) (e_var 0) e_int) (e_var 1)))
      (b_one (s_ret (e_var 4))))) b_nil)
      (b_cons (s_put (put3 (hu_of hr)) (e_var 0) e_int (e_op od_add (e_ix (ixd (hu_of hr)) (e_var 0) e_int) e_int))
      (b_cons (s_set 2 sc__law_draw.nd e_int)
      (b_cons (s_if (t_cmp od_gt (e_callB cd_len (by rfl) G.b_len rfl (a_cons (e_ix (ixd (hu_of hr)) (e_var 0) e_int) a_nil)) e_int) (b_one (s_set 2 sc__law_draw.nd (e_ix (ixd (hu_of hr)) (e_ix (ixd (hu_of hr)) (e_var 0) e_int) (e_op od_mod (e_callTy cd_int (by rfl) G.b_int rfl (a_cons (e_ix (ixd (hu_of hr)) (e_var 0) e_int) a_nil)) (e_callB cd_len (by rfl) G.b_len rfl (a_cons (e_ix (ixd (hu_of hr)) (e_var 0) e_int) a_nil)))))) b_nil)
      (b_cons (s_set 3 sc__law_draw.nd (e_op od_mod (e_callTy cd_int (by rfl) G.b_int rfl (a_cons (e_op od_mul (e_op od_add (e_op od_add (e_var 2) (e_op od_mul e_int (e_ix (ixd (hu_of hr)) (e_var 0) e_int))) e_int) e_int) a_nil)) e_int))
      (b_cons (s_set 3 sc__law_draw.nd (e_op od_mod (e_callTy cd_int (by rfl) G.b_int rfl (a_cons (e_op od_mul (e_var 3) (e_op od_add (e_op od_fdiv (e_var 3) e_int) e_int)) a_nil)) e_int))
      (b_cons (s_set 3 sc__law_draw.nd (e_op od_mod (e_callTy cd_int (by rfl) G.b_int rfl (a_cons (e_op od_mul (e_var 3) (e_op od_add (e_op od_fdiv (e_var 3) e_int) e_int)) a_nil)) e_int))
      (b_one (s_ret (e_op od_mod (e_callTy cd_int (by rfl) G.b_int rfl (a_cons (e_op od_fdiv (e_var 3) e_int) a_nil)) (e_var 1)))))))))))))) ?_
  rintro _ M Q E ⟨_, _, rfl, k, rfl, ⟨p, r1, r2, rfl, dp⟩, hk, hk2, h⟩ H rep
  obtain ⟨ns, ms, s, t, ⟨g1, g2, g3, g4, g5, g6⟩, rep'⟩ := dbl_open rep dp
  refine ⟨_, rep', fun a ha => ?_, ?_⟩
  · have n0 : a ≠ p := by rintro rfl; rw [dp.at_] at ha; cases ha
    have n1 : a ≠ r1 := by rintro rfl; rw [dp.o1] at ha; cases ha
    have n2 : a ≠ r2 := by rintro rfl; rw [dp.o2] at ha; cases ha
    rw [dbl_x n0 n1 n2]; exact ha
  · have hp : dblM M p r1 r2 ns ms s t p = some (.lst [.ref r1, .ref r2, .int s, .int t]) := dbl_p
    have hr1 : dblM M p r1 r2 ns ms s t r1 = some (.lst (ns.map D.int)) := dbl_1 dp.n1 dp.ne
    have hr2 : dblM M p r1 r2 ns ms s t r2 = some (.lst (ms.map D.int)) := dbl_2 dp.n2
    simp only [startD, List.map_cons, List.map_nil, List.length_cons, List.length_nil, Nat.reduceAdd, Nat.reduceSub, Nat.zero_add, List.replicate, List.cons_append, List.nil_append]; simp (config := {failIfUnchanged := false}) only [dC, dOp, dTest, dChain, dAnd, dOr, dNot, dAndV, dOrV, dNotV, dIf, dNil, dCons, dTup, dLst, dCB, d1, dIx, dNoPart, dPart, dSl, dCut, dNeg, dLen, dTupOf, dListOf, dSorted, dSum, dAll, dAny, dInt, dAbs, dMax, dMin, dIsi, isT, dNext, dSeq, dBrk, dCont, dNever, dExpr, dRet, dRetN, dIfS, dAsg, dPutI, dI0, dI, dIsN, dNotN, dSeqI, dRng1, dRng2, dRngDn, dEnumI, dZipI, dYes, dCall, dLM, dAppend, dExtend, dReverse, dInsert, dAugI, dRg1, dRg2, dTupRg, dLstRg, dNewK, dNewT, ↓S0_, ↓S1_, ↓S2_, ↓S3_, ↓S4_, ↓S5_, ↓S6_, List.map_cons, List.map_nil, List.length_cons, List.length_nil, List.replicate, List.cons_append, List.nil_append, Nat.reduceAdd, Nat.reduceSub, Nat.zero_add, List.getElem?_cons_zero, List.getElem?_cons_succ, Option.some.injEq, exists_eq_left, exists_eq_left', List.set_cons_zero, List.set_cons_succ, wipeD, D.int.injEq, D.bl.injEq, D.str.injEq, D.ref.injEq, D.tup.injEq, D.ty.injEq, true_and, and_true, forall_const, forall_eq', forall_eq, mt_int, mt_bool, mt_str, mt_tuple, mt_list, mt_dict, st_int_int, st_int_bool, st_int_str, st_int_tuple, st_int_list, st_int_dict, st_bool_int, st_bool_bool, st_bool_str, st_bool_tuple, st_bool_list, st_bool_dict, st_str_int, st_str_bool, st_str_str, st_str_tuple, st_str_list, st_str_dict, st_tuple_int, st_tuple_bool, st_tuple_str, st_tuple_tuple, st_tuple_list, st_tuple_dict, st_list_int, st_list_bool, st_list_str, st_list_tuple, st_list_list, st_list_dict, st_dict_int, st_dict_bool, st_dict_str, st_dict_tuple, st_dict_list, st_dict_dict, eq_self, Bool.true_eq_false, Bool.false_eq_true, false_implies, true_implies, implies_true, decide_eq_true_eq, decide_eq_false_iff_not, Bool.not_true, Bool.not_false, Bool.not_eq_true, Bool.not_eq_false, Bool.not_eq_true', Bool.not_eq_false', not_true_eq_false, not_false_eq_true, false_and, and_false, or_false, false_or, reduceCtorEq, ↓exLSu, ↓exDKu, ↓exDKd, ↓exLSd, ↓exLu, ↓dIxRu, ↓dPutu, ↓dGetAu, ↓dEq_int, ↓dNe_int, ↓dEq_bl, ↓dNe_bl, ↓dEq_str, ↓dNe_str, ↓dAdd_int, ↓exAt10, ↓exIx10, ↓exAt20, ↓exIx20, ↓exAt21, ↓exIx21, ↓exAt30, ↓exIx30, ↓exAt31, ↓exIx31, ↓exAt32, ↓exIx32, ↓exAt40, ↓exIx40, ↓exAt41, ↓exIx41, ↓exAt42, ↓exIx42, ↓exAt43, ↓exIx43, ↓exAt50, ↓exIx50, ↓exAt51, ↓exIx51, ↓exAt52, ↓exIx52, ↓exAt53, ↓exIx53, ↓exAt54, ↓exIx54, ↓exAt60, ↓exIx60, ↓exAt61, ↓exIx61, ↓exAt62, ↓exIx62, ↓exAt63, ↓exIx63, ↓exAt64, ↓exIx64, ↓exAt65, ↓exIx65, up_up, false_or, or_false, ↓exAtM, ↓dFlag_bl, ↓exBl, ↓exInt, ↓exRef, ↓dVar0, ↓dAug0, ↓dSet0, ↓dTgN0, ↓dTgW0, ↓dVar1, ↓dAug1, ↓dSet1, ↓dTgN1, ↓dTgW1, ↓dVar2, ↓dAug2, ↓dSet2, ↓dTgN2, ↓dTgW2, ↓dVar3, ↓dAug3, ↓dSet3, ↓dTgN3, ↓dTgW3, ↓dVar4, ↓dAug4, ↓dSet4, ↓dTgN4, ↓dTgW4, ↓dVar5, ↓dAug5, ↓dSet5, ↓dTgN5, ↓dTgW5, ↓dVar6, ↓dAug6, ↓dSet6, ↓dTgN6, ↓dTgW6, ↓dVar7, ↓dAug7, ↓dSet7, ↓dTgN7, ↓dTgW7, ↓dVar8, ↓dAug8, ↓dSet8, ↓dTgN8, ↓dTgW8, ↓dVar9, ↓dAug9, ↓dSet9, ↓dTgN9, ↓dTgW9, ↓dVar10, ↓dAug10, ↓dSet10, ↓dTgN10, ↓dTgW10, ↓dVar11, ↓dAug11, ↓dSet11, ↓dTgN11, ↓dTgW11, ↓dVar12, ↓dAug12, ↓dSet12, ↓dTgN12, ↓dTgW12, ↓dVar13, ↓dAug13, ↓dSet13, ↓dTgN13, ↓dTgW13, ↓dVar14, ↓dAug14, ↓dSet14, ↓dTgN14, ↓dTgW14, ↓dVar15, ↓dAug15, ↓dSet15, ↓dTgN15, ↓dTgW15, ↓dVar16, ↓dAug16, ↓dSet16, ↓dTgN16, ↓dTgW16, ↓dVar17, ↓dAug17, ↓dSet17, ↓dTgN17, ↓dTgW17, ↓dVar18, ↓dAug18, ↓dSet18, ↓dTgN18, ↓dTgW18, ↓dVar19, ↓dAug19, ↓dSet19, ↓dTgN19, ↓dTgW19, ↓dTg_t2, ↓dTg_t3, ↓exGetM, ↓exSumU, nD, plD, rwD, ↓dAdd_tup, ↓dAdd_ref, dSIndex, dInS, dKeysI, dValsI, dItemsI, dMulS, dEqK, dNeK, dClrK, dCntS]
    refine ⟨fun δ' M' => ∃ (a : Addr) (ns2 : List Int) (s2 : Int), δ' = [some (.ref p), some (nD k), none, none, none] ∧ M' p = some (.lst [.ref a, .ref r2, .int s2, .int t]) ∧ M' r2 = some (.lst (ms.map D.int)) ∧ 0 ≤ s2 ∧ ∀ s' t' : Int, 0 ≤ s' → 0 ≤ t' → ∃ M2, Fgt K (up M' p (.lst [.ref a, .ref r2, .int s', .int t'])) M2 ∧ Up M2 M (.ref p), ?_, ?_⟩
    · have same : ∀ s' t' : Int, up (dblM M p r1 r2 ns ms s t) p (.lst [.ref r1, .ref r2, .int s', .int t']) = dblM M p r1 r2 ns ms s' t' := fun s' t' => by unfold dblM; rw [up_up]
      have stay : ∃ (a : Addr) (ns2 : List Int) (s2 : Int), dblM M p r1 r2 ns ms s t p = some (.lst [.ref a, .ref r2, .int s2, .int t]) ∧ dblM M p r1 r2 ns ms s t r2 = some (.lst (ms.map D.int)) ∧ 0 ≤ s2 ∧ ∀ s' t' : Int, 0 ≤ s' → 0 ≤ t' → ∃ M2, Fgt K (up (dblM M p r1 r2 ns ms s t) p (.lst [.ref a, .ref r2, .int s', .int t'])) M2 ∧ Up M2 M (.ref p) :=
        ⟨r1, ns, s, hp, hr2, g5, fun s' t' h1 h2 => ⟨M, by rw [same]; exact dbl_close dp ⟨g1, g2, g3, g4, h1, h2⟩, Up.refl ⟨p, r1, r2, rfl, dp⟩⟩⟩
      have n1 := dp.n1
      have n2 := dp.n2
      generalize hX : dblM M p r1 r2 ns ms s t = X at *
      simp (config := {failIfUnchanged := false}) only [dC, dOp, dTest, dChain, dAnd, dOr, dNot, dAndV, dOrV, dNotV, dIf, dNil, dCons, dTup, dLst, dCB, d1, dIx, dNoPart, dPart, dSl, dCut, dNeg, dLen, dTupOf, dListOf, dSorted, dSum, dAll, dAny, dInt, dAbs, dMax, dMin, dIsi, isT, dNext, dSeq, dBrk, dCont, dNever, dExpr, dRet, dRetN, dIfS, dAsg, dPutI, dI0, dI, dIsN, dNotN, dSeqI, dRng1, dRng2, dRngDn, dEnumI, dZipI, dYes, dCall, dLM, dAppend, dExtend, dReverse, dInsert, dAugI, dRg1, dRg2, dTupRg, dLstRg, dNewK, dNewT, ↓S0_, ↓S1_, ↓S2_, ↓S3_, ↓S4_, ↓S5_, ↓S6_, List.map_cons, List.map_nil, List.length_cons, List.length_nil, List.replicate, List.cons_append, List.nil_append, Nat.reduceAdd, Nat.reduceSub, Nat.zero_add, List.getElem?_cons_zero, List.getElem?_cons_succ, Option.some.injEq, exists_eq_left, exists_eq_left', List.set_cons_zero, List.set_cons_succ, wipeD, D.int.injEq, D.bl.injEq, D.str.injEq, D.ref.injEq, D.tup.injEq, D.ty.injEq, true_and, and_true, forall_const, forall_eq', forall_eq, mt_int, mt_bool, mt_str, mt_tuple, mt_list, mt_dict, st_int_int, st_int_bool, st_int_str, st_int_tuple, st_int_list, st_int_dict, st_bool_int, st_bool_bool, st_bool_str, st_bool_tuple, st_bool_list, st_bool_dict, st_str_int, st_str_bool, st_str_str, st_str_tuple, st_str_list, st_str_dict, st_tuple_int, st_tuple_bool, st_tuple_str, st_tuple_tuple, st_tuple_list, st_tuple_dict, st_list_int, st_list_bool, st_list_str, st_list_tuple, st_list_list, st_list_dict, st_dict_int, st_dict_bool, st_dict_str, st_dict_tuple, st_dict_list, st_dict_dict, eq_self, Bool.true_eq_false, Bool.false_eq_true, false_implies, true_implies, implies_true, decide_eq_true_eq, decide_eq_false_iff_not, Bool.not_true, Bool.not_false, Bool.not_eq_true, Bool.not_eq_false, Bool.not_eq_true', Bool.not_eq_false', not_true_eq_false, not_false_eq_true, false_and, and_false, or_false, false_or, reduceCtorEq, ↓exLSu, ↓exDKu, ↓exDKd, ↓exLSd, ↓exLu, ↓dIxRu, ↓dPutu, ↓dGetAu, ↓dEq_int, ↓dNe_int, ↓dEq_bl, ↓dNe_bl, ↓dEq_str, ↓dNe_str, ↓dAdd_int, ↓exAt10, ↓exIx10, ↓exAt20, ↓exIx20, ↓exAt21, ↓exIx21, ↓exAt30, ↓exIx30, ↓exAt31, ↓exIx31, ↓exAt32, ↓exIx32, ↓exAt40, ↓exIx40, ↓exAt41, ↓exIx41, ↓exAt42, ↓exIx42, ↓exAt43, ↓exIx43, ↓exAt50, ↓exIx50, ↓exAt51, ↓exIx51, ↓exAt52, ↓exIx52, ↓exAt53, ↓exIx53, ↓exAt54, ↓exIx54, ↓exAt60, ↓exIx60, ↓exAt61, ↓exIx61, ↓exAt62, ↓exIx62, ↓exAt63, ↓exIx63, ↓exAt64, ↓exIx64, ↓exAt65, ↓exIx65, up_up, false_or, or_false, ↓exAtM, ↓dFlag_bl, ↓exBl, ↓exInt, ↓exRef, ↓dVar0, ↓dAug0, ↓dSet0, ↓dTgN0, ↓dTgW0, ↓dVar1, ↓dAug1, ↓dSet1, ↓dTgN1, ↓dTgW1, ↓dVar2, ↓dAug2, ↓dSet2, ↓dTgN2, ↓dTgW2, ↓dVar3, ↓dAug3, ↓dSet3, ↓dTgN3, ↓dTgW3, ↓dVar4, ↓dAug4, ↓dSet4, ↓dTgN4, ↓dTgW4, ↓dVar5, ↓dAug5, ↓dSet5, ↓dTgN5, ↓dTgW5, ↓dVar6, ↓dAug6, ↓dSet6, ↓dTgN6, ↓dTgW6, ↓dVar7, ↓dAug7, ↓dSet7, ↓dTgN7, ↓dTgW7, ↓dVar8, ↓dAug8, ↓dSet8, ↓dTgN8, ↓dTgW8, ↓dVar9, ↓dAug9, ↓dSet9, ↓dTgN9, ↓dTgW9, ↓dVar10, ↓dAug10, ↓dSet10, ↓dTgN10, ↓dTgW10, ↓dVar11, ↓dAug11, ↓dSet11, ↓dTgN11, ↓dTgW11, ↓dVar12, ↓dAug12, ↓dSet12, ↓dTgN12, ↓dTgW12, ↓dVar13, ↓dAug13, ↓dSet13, ↓dTgN13, ↓dTgW13, ↓dVar14, ↓dAug14, ↓dSet14, ↓dTgN14, ↓dTgW14, ↓dVar15, ↓dAug15, ↓dSet15, ↓dTgN15, ↓dTgW15, ↓dVar16, ↓dAug16, ↓dSet16, ↓dTgN16, ↓dTgW16, ↓dVar17, ↓dAug17, ↓dSet17, ↓dTgN17, ↓dTgW17, ↓dVar18, ↓dAug18, ↓dSet18, ↓dTgN18, ↓dTgW18, ↓dVar19, ↓dAug19, ↓dSet19, ↓dTgN19, ↓dTgW19, ↓dTg_t2, ↓dTg_t3, ↓exGetM, ↓exSumU, nD, plD, rwD, ↓dAdd_tup, ↓dAdd_ref, dSIndex, dInS, dKeysI, dValsI, dItemsI, dMulS, dEqK, dNeK, dClrK, dCntS, ↓dIxRh hp, ↓dIxRh hr1, ↓exLS hr1, ↓exDKh hr1, ↓exLh hr1, ↓dPuth hp]
      refine ⟨fun _ => ⟨fun hn => ?_, fun _ => stay⟩, fun _ => stay⟩
      cases ns with
      | nil => exact absurd hn (by decide)
      | cons c cs =>
        refine ⟨c, atI_nat (j := 0) rfl, _, .inl (by rw [up_ne n1]; exact hr1), fun q hq => ?_⟩
        have nqp : q ≠ p := by rintro rfl; rw [up_same] at hq; cases hq
        have nq1 : q ≠ r1 := by rintro rfl; rw [up_ne n1, hr1] at hq; cases hq
        have nq2 : q ≠ r2 := by rintro rfl; rw [up_ne n2, hr2] at hq; cases hq
        have hqX : X q = none := by rw [up_ne nqp] at hq; exact hq
        have hqM : M q = none := by rw [← hX, dbl_x nqp nq1 nq2] at hqX; exact hqX
        have ec : cutD ((c :: cs).map D.int) (some 1) none = cs.map D.int := by
          rw [show (some (1 : Int)) = some ((1 : Nat) : Int) from rfl, cutD_from]; rfl
        rw [ec]
        refine (dPuth (by rw [up_ne nqp.symm, up_same])).mpr ⟨0, by rw [show ((0 : Int)) = ((0 : Nat) : Int) from rfl]; exact ixN_lt (by omega) (by simp), ?_⟩
        refine ⟨q, cs, c, up_same, by rw [up_ne n2, up_ne nq2.symm, up_ne n2]; exact hr2, g3 c (by simp), fun s' t' h1 h2 => ?_⟩
        have dq : DblAt G5 (up (up M q (.own p)) p (.ext (DblI p q r2 G5) [q, r2])) p q r2 := ⟨up_same, by rw [up_ne nqp, up_same], by rw [up_ne n2, up_ne nq2.symm]; exact dp.o2, nq2⟩
        have g1' : cs.length ≤ 63 := by have := g1; rw [List.length_cons] at this; omega
        have gq : G5 cs ms s' t' := ⟨g1', g2, fun d hd => g3 d (by simp [hd]), g4, h1, h2⟩
        refine ⟨_, Fgt.trans (own_fgt (r := r1) (c := p) (by rw [up_ne n1, up_ne n1, up_ne nq1.symm, up_ne n1]; exact hr1)) ?_, ⟨fun b o hb hn => ?_, ⟨p, q, r2, rfl, dq⟩, fun b e => ?_⟩⟩
        · have e := dbl_close (K := K) dq gq
          refine cast (congrArg (fun Y => Fgt K Y _) ?_) e
          funext b
          by_cases b0 : b = p
          · subst b0
            rw [dbl_p, up_ne n1.symm, up_same]
          · by_cases b1 : b = r1
            · subst b1
              rw [up_same, dbl_x b0 nq1.symm dp.ne, up_ne b0, up_ne nq1.symm]
              exact dp.o1
            · by_cases bq : b = q
              · subst bq
                rw [dbl_1 b0 nq2, up_ne b1, up_ne b0, up_ne b0, up_same]
              · by_cases b2 : b = r2
                · subst b2
                  rw [dbl_2 b0, up_ne b1, up_ne b0, up_ne b0, up_ne bq, up_ne b0, hr2]
                · rw [dbl_x b0 bq b2, up_ne b0, up_ne bq, up_ne b1, up_ne b0, up_ne b0, up_ne bq, up_ne b0, ← hX, dbl_x b0 b1 b2]
        · have b0 : b ≠ p := by rintro rfl; rw [dp.at_] at hb; cases hb; exact hn _ _ rfl
          have bq : b ≠ q := by rintro rfl; rw [hqM] at hb; cases hb
          rw [up_ne b0, up_ne bq]; exact hb
        · have b0 : b ≠ p := by rintro rfl; rw [up_same] at e; cases e
          have bq : b ≠ q := by rintro rfl; rw [up_ne b0, up_same] at e; cases e
          rw [up_ne b0, up_ne bq] at e; exact e
    rintro δ' M' ⟨a, ns2, s2, rfl, hp2, hr22, hs2, hcl⟩
    have n2 := dp.n2
    simp (config := {failIfUnchanged := false}) only [dC, dOp, dTest, dChain, dAnd, dOr, dNot, dAndV, dOrV, dNotV, dIf, dNil, dCons, dTup, dLst, dCB, d1, dIx, dNoPart, dPart, dSl, dCut, dNeg, dLen, dTupOf, dListOf, dSorted, dSum, dAll, dAny, dInt, dAbs, dMax, dMin, dIsi, isT, dNext, dSeq, dBrk, dCont, dNever, dExpr, dRet, dRetN, dIfS, dAsg, dPutI, dI0, dI, dIsN, dNotN, dSeqI, dRng1, dRng2, dRngDn, dEnumI, dZipI, dYes, dCall, dLM, dAppend, dExtend, dReverse, dInsert, dAugI, dRg1, dRg2, dTupRg, dLstRg, dNewK, dNewT, ↓S0_, ↓S1_, ↓S2_, ↓S3_, ↓S4_, ↓S5_, ↓S6_, List.map_cons, List.map_nil, List.length_cons, List.length_nil, List.replicate, List.cons_append, List.nil_append, Nat.reduceAdd, Nat.reduceSub, Nat.zero_add, List.getElem?_cons_zero, List.getElem?_cons_succ, Option.some.injEq, exists_eq_left, exists_eq_left', List.set_cons_zero, List.set_cons_succ, wipeD, D.int.injEq, D.bl.injEq, D.str.injEq, D.ref.injEq, D.tup.injEq, D.ty.injEq, true_and, and_true, forall_const, forall_eq', forall_eq, mt_int, mt_bool, mt_str, mt_tuple, mt_list, mt_dict, st_int_int, st_int_bool, st_int_str, st_int_tuple, st_int_list, st_int_dict, st_bool_int, st_bool_bool, st_bool_str, st_bool_tuple, st_bool_list, st_bool_dict, st_str_int, st_str_bool, st_str_str, st_str_tuple, st_str_list, st_str_dict, st_tuple_int, st_tuple_bool, st_tuple_str, st_tuple_tuple, st_tuple_list, st_tuple_dict, st_list_int, st_list_bool, st_list_str, st_list_tuple, st_list_list, st_list_dict, st_dict_int, st_dict_bool, st_dict_str, st_dict_tuple, st_dict_list, st_dict_dict, eq_self, Bool.true_eq_false, Bool.false_eq_true, false_implies, true_implies, implies_true, decide_eq_true_eq, decide_eq_false_iff_not, Bool.not_true, Bool.not_false, Bool.not_eq_true, Bool.not_eq_false, Bool.not_eq_true', Bool.not_eq_false', not_true_eq_false, not_false_eq_true, false_and, and_false, or_false, false_or, reduceCtorEq, ↓exLSu, ↓exDKu, ↓exDKd, ↓exLSd, ↓exLu, ↓dIxRu, ↓dPutu, ↓dGetAu, ↓dEq_int, ↓dNe_int, ↓dEq_bl, ↓dNe_bl, ↓dEq_str, ↓dNe_str, ↓dAdd_int, ↓exAt10, ↓exIx10, ↓exAt20, ↓exIx20, ↓exAt21, ↓exIx21, ↓exAt30, ↓exIx30, ↓exAt31, ↓exIx31, ↓exAt32, ↓exIx32, ↓exAt40, ↓exIx40, ↓exAt41, ↓exIx41, ↓exAt42, ↓exIx42, ↓exAt43, ↓exIx43, ↓exAt50, ↓exIx50, ↓exAt51, ↓exIx51, ↓exAt52, ↓exIx52, ↓exAt53, ↓exIx53, ↓exAt54, ↓exIx54, ↓exAt60, ↓exIx60, ↓exAt61, ↓exIx61, ↓exAt62, ↓exIx62, ↓exAt63, ↓exIx63, ↓exAt64, ↓exIx64, ↓exAt65, ↓exIx65, up_up, false_or, or_false, ↓exAtM, ↓dFlag_bl, ↓exBl, ↓exInt, ↓exRef, ↓dVar0, ↓dAug0, ↓dSet0, ↓dTgN0, ↓dTgW0, ↓dVar1, ↓dAug1, ↓dSet1, ↓dTgN1, ↓dTgW1, ↓dVar2, ↓dAug2, ↓dSet2, ↓dTgN2, ↓dTgW2, ↓dVar3, ↓dAug3, ↓dSet3, ↓dTgN3, ↓dTgW3, ↓dVar4, ↓dAug4, ↓dSet4, ↓dTgN4, ↓dTgW4, ↓dVar5, ↓dAug5, ↓dSet5, ↓dTgN5, ↓dTgW5, ↓dVar6, ↓dAug6, ↓dSet6, ↓dTgN6, ↓dTgW6, ↓dVar7, ↓dAug7, ↓dSet7, ↓dTgN7, ↓dTgW7, ↓dVar8, ↓dAug8, ↓dSet8, ↓dTgN8, ↓dTgW8, ↓dVar9, ↓dAug9, ↓dSet9, ↓dTgN9, ↓dTgW9, ↓dVar10, ↓dAug10, ↓dSet10, ↓dTgN10, ↓dTgW10, ↓dVar11, ↓dAug11, ↓dSet11, ↓dTgN11, ↓dTgW11, ↓dVar12, ↓dAug12, ↓dSet12, ↓dTgN12, ↓dTgW12, ↓dVar13, ↓dAug13, ↓dSet13, ↓dTgN13, ↓dTgW13, ↓dVar14, ↓dAug14, ↓dSet14, ↓dTgN14, ↓dTgW14, ↓dVar15, ↓dAug15, ↓dSet15, ↓dTgN15, ↓dTgW15, ↓dVar16, ↓dAug16, ↓dSet16, ↓dTgN16, ↓dTgW16, ↓dVar17, ↓dAug17, ↓dSet17, ↓dTgN17, ↓dTgW17, ↓dVar18, ↓dAug18, ↓dSet18, ↓dTgN18, ↓dTgW18, ↓dVar19, ↓dAug19, ↓dSet19, ↓dTgN19, ↓dTgW19, ↓dTg_t2, ↓dTg_t3, ↓exGetM, ↓exSumU, nD, plD, rwD, ↓dAdd_tup, ↓dAdd_ref, dSIndex, dInS, dKeysI, dValsI, dItemsI, dMulS, dEqK, dNeK, dClrK, dCntS, ↓dIxRh hp2, ↓dPuth hp2, ↓dIxRn n2, ↓exLSn n2, ↓exDKn n2, ↓dIxRh hr22, ↓exLS hr22, ↓exDKh hr22]
    refine ⟨fun _ => ?_, fun _ => ?_⟩
    · obtain ⟨v, hv, ev⟩ := drawn hk (x := s2)
      obtain ⟨M2, f2, u2⟩ := hcl (s2 / (k : Int)) t (Int.ediv_nonneg hs2 (by omega)) g6
      rw [ev]
      exact ⟨by omega, cd_k hk hk2, M2, f2, h v M2 hv u2⟩
    obtain ⟨M2, f2, u2⟩ := hcl s2 (t + 1) hs2 (by omega)
    refine ⟨fun hm => ?_, fun hm => ?_⟩
    · rw [List.length_map] at hm ⊢
      obtain ⟨j, hj, ej⟩ : ∃ j : Nat, j < ms.length ∧ (t + 1) % (ms.length : Int) = (j : Int) := by
        have h0 : 0 ≤ (t + 1) % (ms.length : Int) := Int.emod_nonneg _ (by omega)
        have h1 : (t + 1) % (ms.length : Int) < ms.length := Int.emod_lt_of_pos _ (by omega)
        exact ⟨((t + 1) % (ms.length : Int)).toNat, by omega, by omega⟩
      rw [ej]
      refine ⟨hm, ms[j], atI_nat (List.getElem?_eq_getElem hj), ?_⟩
      generalize ha : (ms[j] + 7919 * (t + 1) + 1) * 48271 % 2147483647 = a'
      have a0 : 0 ≤ a' := by rw [← ha]; exact Int.emod_nonneg _ (by decide)
      have a1 : a' < 2147483647 := by rw [← ha]; exact Int.emod_lt_of_pos _ (by decide)
      generalize hb : a' * (a' / 1009 + 69621) % 2147483647 = b
      have b0 : 0 ≤ b := by rw [← hb]; exact Int.emod_nonneg _ (by decide)
      have b1 : b < 2147483647 := by rw [← hb]; exact Int.emod_lt_of_pos _ (by decide)
      generalize hd : b * (b / 2003 + 40692) % 2147483399 = d
      obtain ⟨v, hv, ev⟩ := drawn hk (x := d / 16)
      rw [ev]
      exact ⟨cm_l (by decide) (by decide), cm_r (by decide) (by decide), by decide, ⟨by decide, by decide⟩, cm_l (by omega) (by omega), by decide, ⟨by decide, by decide⟩, cm_l (by omega) (by omega), by decide, ⟨by decide, by decide⟩, by omega, M2, f2, h v M2 hv u2⟩
    · generalize ha : (0 + 7919 * (t + 1) + 1) * 48271 % 2147483647 = a'
      have a0 : 0 ≤ a' := by rw [← ha]; exact Int.emod_nonneg _ (by decide)
      have a1 : a' < 2147483647 := by rw [← ha]; exact Int.emod_lt_of_pos _ (by decide)
      generalize hb : a' * (a' / 1009 + 69621) % 2147483647 = b
      have b0 : 0 ≤ b := by rw [← hb]; exact Int.emod_nonneg _ (by decide)
      have b1 : b < 2147483647 := by rw [← hb]; exact Int.emod_lt_of_pos _ (by decide)
      generalize hd : b * (b / 2003 + 40692) % 2147483399 = d
      obtain ⟨v, hv, ev⟩ := drawn hk (x := d / 16)
      rw [ev]
      exact ⟨cm_l (by decide) (by decide), cm_r (by decide) (by decide), by decide, ⟨by decide, by decide⟩, cm_l (by omega) (by omega), by decide, ⟨by decide, by decide⟩, cm_l (by omega) (by omega), by decide, ⟨by decide, by decide⟩, by omega, M2, f2, h v M2 hv u2⟩
end
section
variable {P : Program} {w : World} {K : PySem.W.Frag} {mg : Str → Option Value} {base : Heap}
theorem pr__law_is_int (G : Gv K mg) : Pr P w K mg base "_law_is_int" 1 ["_law_thing"] (S1 fun x M Q => ∃ i, x = .int i ∧ Q (.bl true) M) := by
  refine (pr3 (k := 0) G.d__law_is_int bi__law_is_int sc__law_is_int S1n (fun f cdv A outer s H E hr => (b_one (s_ret (e_and (e_callB cd_isi (by rfl) G.b_isinstance rfl (a_cons (e_var 0) (a_cons (e_ty (by rfl) G.b_int rfl) a_nil))) (e_one (e_not (e_callB cd_isi (by rfl) G.b_isinstance rfl (a_cons (e_var 0) (a_cons (e_ty (by rfl) G.b_bool rfl) a_nil)))))))))) ?_
  rintro _ M Q E ⟨_, rfl, i, rfl, h⟩ H rep
  refine ⟨M, rep, fun _ h => h, ?_⟩
  simp only [startD, List.map_cons, List.map_nil, List.length_cons, List.length_nil, Nat.reduceAdd, Nat.reduceSub, Nat.zero_add, List.replicate, List.cons_append, List.nil_append]; simp (config := {failIfUnchanged := false}) only [dC, dOp, dTest, dChain, dAnd, dOr, dNot, dAndV, dOrV, dNotV, dIf, dNil, dCons, dTup, dLst, dCB, d1, dIx, dNoPart, dPart, dSl, dCut, dNeg, dLen, dTupOf, dListOf, dSorted, dSum, dAll, dAny, dInt, dAbs, dMax, dMin, dIsi, isT, dNext, dSeq, dBrk, dCont, dNever, dExpr, dRet, dRetN, dIfS, dAsg, dPutI, dI0, dI, dIsN, dNotN, dSeqI, dRng1, dRng2, dRngDn, dEnumI, dZipI, dYes, dCall, dLM, dAppend, dExtend, dReverse, dInsert, dAugI, dRg1, dRg2, dTupRg, dLstRg, dNewK, dNewT, ↓S0_, ↓S1_, ↓S2_, ↓S3_, ↓S4_, ↓S5_, ↓S6_, List.map_cons, List.map_nil, List.length_cons, List.length_nil, List.replicate, List.cons_append, List.nil_append, Nat.reduceAdd, Nat.reduceSub, Nat.zero_add, List.getElem?_cons_zero, List.getElem?_cons_succ, Option.some.injEq, exists_eq_left, exists_eq_left', List.set_cons_zero, List.set_cons_succ, wipeD, D.int.injEq, D.bl.injEq, D.str.injEq, D.ref.injEq, D.tup.injEq, D.ty.injEq, true_and, and_true, forall_const, forall_eq', forall_eq, mt_int, mt_bool, mt_str, mt_tuple, mt_list, mt_dict, st_int_int, st_int_bool, st_int_str, st_int_tuple, st_int_list, st_int_dict, st_bool_int, st_bool_bool, st_bool_str, st_bool_tuple, st_bool_list, st_bool_dict, st_str_int, st_str_bool, st_str_str, st_str_tuple, st_str_list, st_str_dict, st_tuple_int, st_tuple_bool, st_tuple_str, st_tuple_tuple, st_tuple_list, st_tuple_dict, st_list_int, st_list_bool, st_list_str, st_list_tuple, st_list_list, st_list_dict, st_dict_int, st_dict_bool, st_dict_str, st_dict_tuple, st_dict_list, st_dict_dict, eq_self, Bool.true_eq_false, Bool.false_eq_true, false_implies, true_implies, implies_true, decide_eq_true_eq, decide_eq_false_iff_not, Bool.not_true, Bool.not_false, Bool.not_eq_true, Bool.not_eq_false, Bool.not_eq_true', Bool.not_eq_false', not_true_eq_false, not_false_eq_true, false_and, and_false, or_false, false_or, reduceCtorEq, ↓exLSu, ↓exDKu, ↓exDKd, ↓exLSd, ↓exLu, ↓dIxRu, ↓dPutu, ↓dGetAu, ↓dEq_int, ↓dNe_int, ↓dEq_bl, ↓dNe_bl, ↓dEq_str, ↓dNe_str, ↓dAdd_int, ↓exAt10, ↓exIx10, ↓exAt20, ↓exIx20, ↓exAt21, ↓exIx21, ↓exAt30, ↓exIx30, ↓exAt31, ↓exIx31, ↓exAt32, ↓exIx32, ↓exAt40, ↓exIx40, ↓exAt41, ↓exIx41, ↓exAt42, ↓exIx42, ↓exAt43, ↓exIx43, ↓exAt50, ↓exIx50, ↓exAt51, ↓exIx51, ↓exAt52, ↓exIx52, ↓exAt53, ↓exIx53, ↓exAt54, ↓exIx54, ↓exAt60, ↓exIx60, ↓exAt61, ↓exIx61, ↓exAt62, ↓exIx62, ↓exAt63, ↓exIx63, ↓exAt64, ↓exIx64, ↓exAt65, ↓exIx65, up_up, false_or, or_false, ↓exAtM, ↓dFlag_bl, ↓exBl, ↓exInt, ↓exRef, ↓dVar0, ↓dAug0, ↓dSet0, ↓dTgN0, ↓dTgW0, ↓dVar1, ↓dAug1, ↓dSet1, ↓dTgN1, ↓dTgW1, ↓dVar2, ↓dAug2, ↓dSet2, ↓dTgN2, ↓dTgW2, ↓dVar3, ↓dAug3, ↓dSet3, ↓dTgN3, ↓dTgW3, ↓dVar4, ↓dAug4, ↓dSet4, ↓dTgN4, ↓dTgW4, ↓dVar5, ↓dAug5, ↓dSet5, ↓dTgN5, ↓dTgW5, ↓dVar6, ↓dAug6, ↓dSet6, ↓dTgN6, ↓dTgW6, ↓dVar7, ↓dAug7, ↓dSet7, ↓dTgN7, ↓dTgW7, ↓dVar8, ↓dAug8, ↓dSet8, ↓dTgN8, ↓dTgW8, ↓dVar9, ↓dAug9, ↓dSet9, ↓dTgN9, ↓dTgW9, ↓dVar10, ↓dAug10, ↓dSet10, ↓dTgN10, ↓dTgW10, ↓dVar11, ↓dAug11, ↓dSet11, ↓dTgN11, ↓dTgW11, ↓dVar12, ↓dAug12, ↓dSet12, ↓dTgN12, ↓dTgW12, ↓dVar13, ↓dAug13, ↓dSet13, ↓dTgN13, ↓dTgW13, ↓dVar14, ↓dAug14, ↓dSet14, ↓dTgN14, ↓dTgW14, ↓dVar15, ↓dAug15, ↓dSet15, ↓dTgN15, ↓dTgW15, ↓dVar16, ↓dAug16, ↓dSet16, ↓dTgN16, ↓dTgW16, ↓dVar17, ↓dAug17, ↓dSet17, ↓dTgN17, ↓dTgW17, ↓dVar18, ↓dAug18, ↓dSet18, ↓dTgN18, ↓dTgW18, ↓dVar19, ↓dAug19, ↓dSet19, ↓dTgN19, ↓dTgW19, ↓dTg_t2, ↓dTg_t3, ↓exGetM, ↓exSumU, nD, plD, rwD, ↓dAdd_tup, ↓dAdd_ref, dSIndex, dInS, dKeysI, dValsI, dItemsI, dMulS, dEqK, dNeK, dClrK, dCntS]
  exact dn0 h
theorem pr__law_pick (G : Gv K mg) : Pr P w K mg base "_law_pick" 2 ["_law_pool_here", "_law_things"] (S2 fun x y M Q => ∃ (q : Addr) (xs : List D), y = .ref q ∧ M q = some (.lst xs) ∧ xs ≠ [] ∧ xs.length ≤ 1000 ∧ Pool M x ∧ ∀ d M', d ∈ xs → Up M' M x → Q d M') := by
  refine (pr3 (k := 1) G.d__law_pick bi__law_pick sc__law_pick S2n (fun f cdv A outer s H E hr => (b_one (s_ret (e_ix (ixd (hu_of hr)) (e_var 1) (e_callP (pr__law_draw G) (hr.mono (by decide)) (by rfl) pass0 (a_cons (e_var 0) (a_cons (e_callB cd_len (by rfl) G.b_len rfl (a_cons (e_var 1) a_nil)) a_nil)))))))) ?_
  rintro _ M Q E ⟨x, _, rfl, q, xs, rfl, hq, hne, hl, hx, h⟩ H rep
  refine ⟨M, rep, fun _ h => h, ?_⟩
  have h0 := List.length_pos_iff.mpr hne
  simp only [startD, List.map_cons, List.map_nil, List.length_cons, List.length_nil, Nat.reduceAdd, Nat.reduceSub, Nat.zero_add, List.replicate, List.cons_append, List.nil_append]; simp (config := {failIfUnchanged := false}) only [dC, dOp, dTest, dChain, dAnd, dOr, dNot, dAndV, dOrV, dNotV, dIf, dNil, dCons, dTup, dLst, dCB, d1, dIx, dNoPart, dPart, dSl, dCut, dNeg, dLen, dTupOf, dListOf, dSorted, dSum, dAll, dAny, dInt, dAbs, dMax, dMin, dIsi, isT, dNext, dSeq, dBrk, dCont, dNever, dExpr, dRet, dRetN, dIfS, dAsg, dPutI, dI0, dI, dIsN, dNotN, dSeqI, dRng1, dRng2, dRngDn, dEnumI, dZipI, dYes, dCall, dLM, dAppend, dExtend, dReverse, dInsert, dAugI, dRg1, dRg2, dTupRg, dLstRg, dNewK, dNewT, ↓S0_, ↓S1_, ↓S2_, ↓S3_, ↓S4_, ↓S5_, ↓S6_, List.map_cons, List.map_nil, List.length_cons, List.length_nil, List.replicate, List.cons_append, List.nil_append, Nat.reduceAdd, Nat.reduceSub, Nat.zero_add, List.getElem?_cons_zero, List.getElem?_cons_succ, Option.some.injEq, exists_eq_left, exists_eq_left', List.set_cons_zero, List.set_cons_succ, wipeD, D.int.injEq, D.bl.injEq, D.str.injEq, D.ref.injEq, D.tup.injEq, D.ty.injEq, true_and, and_true, forall_const, forall_eq', forall_eq, mt_int, mt_bool, mt_str, mt_tuple, mt_list, mt_dict, st_int_int, st_int_bool, st_int_str, st_int_tuple, st_int_list, st_int_dict, st_bool_int, st_bool_bool, st_bool_str, st_bool_tuple, st_bool_list, st_bool_dict, st_str_int, st_str_bool, st_str_str, st_str_tuple, st_str_list, st_str_dict, st_tuple_int, st_tuple_bool, st_tuple_str, st_tuple_tuple, st_tuple_list, st_tuple_dict, st_list_int, st_list_bool, st_list_str, st_list_tuple, st_list_list, st_list_dict, st_dict_int, st_dict_bool, st_dict_str, st_dict_tuple, st_dict_list, st_dict_dict, eq_self, Bool.true_eq_false, Bool.false_eq_true, false_implies, true_implies, implies_true, decide_eq_true_eq, decide_eq_false_iff_not, Bool.not_true, Bool.not_false, Bool.not_eq_true, Bool.not_eq_false, Bool.not_eq_true', Bool.not_eq_false', not_true_eq_false, not_false_eq_true, false_and, and_false, or_false, false_or, reduceCtorEq, ↓exLSu, ↓exDKu, ↓exDKd, ↓exLSd, ↓exLu, ↓dIxRu, ↓dPutu, ↓dGetAu, ↓dEq_int, ↓dNe_int, ↓dEq_bl, ↓dNe_bl, ↓dEq_str, ↓dNe_str, ↓dAdd_int, ↓exAt10, ↓exIx10, ↓exAt20, ↓exIx20, ↓exAt21, ↓exIx21, ↓exAt30, ↓exIx30, ↓exAt31, ↓exIx31, ↓exAt32, ↓exIx32, ↓exAt40, ↓exIx40, ↓exAt41, ↓exIx41, ↓exAt42, ↓exIx42, ↓exAt43, ↓exIx43, ↓exAt50, ↓exIx50, ↓exAt51, ↓exIx51, ↓exAt52, ↓exIx52, ↓exAt53, ↓exIx53, ↓exAt54, ↓exIx54, ↓exAt60, ↓exIx60, ↓exAt61, ↓exIx61, ↓exAt62, ↓exIx62, ↓exAt63, ↓exIx63, ↓exAt64, ↓exIx64, ↓exAt65, ↓exIx65, up_up, false_or, or_false, ↓exAtM, ↓dFlag_bl, ↓exBl, ↓exInt, ↓exRef, ↓dVar0, ↓dAug0, ↓dSet0, ↓dTgN0, ↓dTgW0, ↓dVar1, ↓dAug1, ↓dSet1, ↓dTgN1, ↓dTgW1, ↓dVar2, ↓dAug2, ↓dSet2, ↓dTgN2, ↓dTgW2, ↓dVar3, ↓dAug3, ↓dSet3, ↓dTgN3, ↓dTgW3, ↓dVar4, ↓dAug4, ↓dSet4, ↓dTgN4, ↓dTgW4, ↓dVar5, ↓dAug5, ↓dSet5, ↓dTgN5, ↓dTgW5, ↓dVar6, ↓dAug6, ↓dSet6, ↓dTgN6, ↓dTgW6, ↓dVar7, ↓dAug7, ↓dSet7, ↓dTgN7, ↓dTgW7, ↓dVar8, ↓dAug8, ↓dSet8, ↓dTgN8, ↓dTgW8, ↓dVar9, ↓dAug9, ↓dSet9, ↓dTgN9, ↓dTgW9, ↓dVar10, ↓dAug10, ↓dSet10, ↓dTgN10, ↓dTgW10, ↓dVar11, ↓dAug11, ↓dSet11, ↓dTgN11, ↓dTgW11, ↓dVar12, ↓dAug12, ↓dSet12, ↓dTgN12, ↓dTgW12, ↓dVar13, ↓dAug13, ↓dSet13, ↓dTgN13, ↓dTgW13, ↓dVar14, ↓dAug14, ↓dSet14, ↓dTgN14, ↓dTgW14, ↓dVar15, ↓dAug15, ↓dSet15, ↓dTgN15, ↓dTgW15, ↓dVar16, ↓dAug16, ↓dSet16, ↓dTgN16, ↓dTgW16, ↓dVar17, ↓dAug17, ↓dSet17, ↓dTgN17, ↓dTgW17, ↓dVar18, ↓dAug18, ↓dSet18, ↓dTgN18, ↓dTgW18, ↓dVar19, ↓dAug19, ↓dSet19, ↓dTgN19, ↓dTgW19, ↓dTg_t2, ↓dTg_t3, ↓exGetM, ↓exSumU, nD, plD, rwD, ↓dAdd_tup, ↓dAdd_ref, dSIndex, dInS, dKeysI, dValsI, dItemsI, dMulS, dEqK, dNeK, dClrK, dCntS]
  refine .inl ⟨_, .inl hq, xs.length, rfl, hx, h0, by omega, fun v M' hv u => ?_⟩
  refine (dIxRh (u.keep _ _ hq nofun)).mpr ⟨_, atI_nat (List.getElem?_eq_getElem hv), dn0 (h _ _ (List.getElem_mem hv) u)⟩
/-- the sums: the law's own fold is that of needed -/
theorem pr__law_grown (G : Gv K mg) : Pr P w K mg base "_law_grown" 1 ["_law_growth_here", "_law_row"] (S2 fun x y M Q => ∃ (p : Addr) (g : Gr) (q : Addr) (r : List Str), x = .ref p ∧ y = .ref q ∧ M p = some (.dK (gD g)) ∧ M q = some (.lst (r.map D.str)) ∧ Grw g ∧ (∀ k ∈ r, k ∈ g.map (·.1)) ∧ r.length ≤ 400 ∧ ∀ f, M f = none → Q (.ref f) (up M f (.lst ((r.flatMap (lf g)).map D.str)))) := by
  refine (pr3 (k := 0) G.d__law_grown bi__law_grown sc__law_grown S2n (fun f cdv A outer s H E hr => (b_cons (s_set 2 sc__law_grown.nd (e_lst a_nil))
      (b_cons (s_for PassesOwn.never rfl (i_seq (e_var 1)) (g_nm 3 sc__law_grown.nd)
      (b_one (s_expr (e_lm PySem.F.slot_list_extend PySem.F.type_list_extend m_extend (e_var 2) (a_cons (e_ix (ixd (hu_of hr)) (e_var 0) (e_var 3)) a_nil)))))
      (b_one (s_ret (e_var 2))))))) ?_
  rintro _ M Q E ⟨_, _, rfl, p, g, q, r, rfl, rfl, hp, hq, hg, hr, hl, h⟩ H rep
  refine ⟨M, rep, fun _ h => h, ?_⟩
  simp only [startD, List.map_cons, List.map_nil, List.length_cons, List.length_nil, Nat.reduceAdd, Nat.reduceSub, Nat.zero_add, List.replicate, List.cons_append, List.nil_append]; simp (config := {failIfUnchanged := false}) only [dC, dOp, dTest, dChain, dAnd, dOr, dNot, dAndV, dOrV, dNotV, dIf, dNil, dCons, dTup, dLst, dCB, d1, dIx, dNoPart, dPart, dSl, dCut, dNeg, dLen, dTupOf, dListOf, dSorted, dSum, dAll, dAny, dInt, dAbs, dMax, dMin, dIsi, isT, dNext, dSeq, dBrk, dCont, dNever, dExpr, dRet, dRetN, dIfS, dAsg, dPutI, dI0, dI, dIsN, dNotN, dSeqI, dRng1, dRng2, dRngDn, dEnumI, dZipI, dYes, dCall, dLM, dAppend, dExtend, dReverse, dInsert, dAugI, dRg1, dRg2, dTupRg, dLstRg, dNewK, dNewT, ↓S0_, ↓S1_, ↓S2_, ↓S3_, ↓S4_, ↓S5_, ↓S6_, List.map_cons, List.map_nil, List.length_cons, List.length_nil, List.replicate, List.cons_append, List.nil_append, Nat.reduceAdd, Nat.reduceSub, Nat.zero_add, List.getElem?_cons_zero, List.getElem?_cons_succ, Option.some.injEq, exists_eq_left, exists_eq_left', List.set_cons_zero, List.set_cons_succ, wipeD, D.int.injEq, D.bl.injEq, D.str.injEq, D.ref.injEq, D.tup.injEq, D.ty.injEq, true_and, and_true, forall_const, forall_eq', forall_eq, mt_int, mt_bool, mt_str, mt_tuple, mt_list, mt_dict, st_int_int, st_int_bool, st_int_str, st_int_tuple, st_int_list, st_int_dict, st_bool_int, st_bool_bool, st_bool_str, st_bool_tuple, st_bool_list, st_bool_dict, st_str_int, st_str_bool, st_str_str, st_str_tuple, st_str_list, st_str_dict, st_tuple_int, st_tuple_bool, st_tuple_str, st_tuple_tuple, st_tuple_list, st_tuple_dict, st_list_int, st_list_bool, st_list_str, st_list_tuple, st_list_list, st_list_dict, st_dict_int, st_dict_bool, st_dict_str, st_dict_tuple, st_dict_list, st_dict_dict, eq_self, Bool.true_eq_false, Bool.false_eq_true, false_implies, true_implies, implies_true, decide_eq_true_eq, decide_eq_false_iff_not, Bool.not_true, Bool.not_false, Bool.not_eq_true, Bool.not_eq_false, Bool.not_eq_true', Bool.not_eq_false', not_true_eq_false, not_false_eq_true, false_and, and_false, or_false, false_or, reduceCtorEq, ↓exLSu, ↓exDKu, ↓exDKd, ↓exLSd, ↓exLu, ↓dIxRu, ↓dPutu, ↓dGetAu, ↓dEq_int, ↓dNe_int, ↓dEq_bl, ↓dNe_bl, ↓dEq_str, ↓dNe_str, ↓dAdd_int, ↓exAt10, ↓exIx10, ↓exAt20, ↓exIx20, ↓exAt21, ↓exIx21, ↓exAt30, ↓exIx30, ↓exAt31, ↓exIx31, ↓exAt32, ↓exIx32, ↓exAt40, ↓exIx40, ↓exAt41, ↓exIx41, ↓exAt42, ↓exIx42, ↓exAt43, ↓exIx43, ↓exAt50, ↓exIx50, ↓exAt51, ↓exIx51, ↓exAt52, ↓exIx52, ↓exAt53, ↓exIx53, ↓exAt54, ↓exIx54, ↓exAt60, ↓exIx60, ↓exAt61, ↓exIx61, ↓exAt62, ↓exIx62, ↓exAt63, ↓exIx63, ↓exAt64, ↓exIx64, ↓exAt65, ↓exIx65, up_up, false_or, or_false, ↓exAtM, ↓dFlag_bl, ↓exBl, ↓exInt, ↓exRef, ↓dVar0, ↓dAug0, ↓dSet0, ↓dTgN0, ↓dTgW0, ↓dVar1, ↓dAug1, ↓dSet1, ↓dTgN1, ↓dTgW1, ↓dVar2, ↓dAug2, ↓dSet2, ↓dTgN2, ↓dTgW2, ↓dVar3, ↓dAug3, ↓dSet3, ↓dTgN3, ↓dTgW3, ↓dVar4, ↓dAug4, ↓dSet4, ↓dTgN4, ↓dTgW4, ↓dVar5, ↓dAug5, ↓dSet5, ↓dTgN5, ↓dTgW5, ↓dVar6, ↓dAug6, ↓dSet6, ↓dTgN6, ↓dTgW6, ↓dVar7, ↓dAug7, ↓dSet7, ↓dTgN7, ↓dTgW7, ↓dVar8, ↓dAug8, ↓dSet8, ↓dTgN8, ↓dTgW8, ↓dVar9, ↓dAug9, ↓dSet9, ↓dTgN9, ↓dTgW9, ↓dVar10, ↓dAug10, ↓dSet10, ↓dTgN10, ↓dTgW10, ↓dVar11, ↓dAug11, ↓dSet11, ↓dTgN11, ↓dTgW11, ↓dVar12, ↓dAug12, ↓dSet12, ↓dTgN12, ↓dTgW12, ↓dVar13, ↓dAug13, ↓dSet13, ↓dTgN13, ↓dTgW13, ↓dVar14, ↓dAug14, ↓dSet14, ↓dTgN14, ↓dTgW14, ↓dVar15, ↓dAug15, ↓dSet15, ↓dTgN15, ↓dTgW15, ↓dVar16, ↓dAug16, ↓dSet16, ↓dTgN16, ↓dTgW16, ↓dVar17, ↓dAug17, ↓dSet17, ↓dTgN17, ↓dTgW17, ↓dVar18, ↓dAug18, ↓dSet18, ↓dTgN18, ↓dTgW18, ↓dVar19, ↓dAug19, ↓dSet19, ↓dTgN19, ↓dTgW19, ↓dTg_t2, ↓dTg_t3, ↓exGetM, ↓exSumU, nD, plD, rwD, ↓dAdd_tup, ↓dAdd_ref, dSIndex, dInS, dKeysI, dValsI, dItemsI, dMulS, dEqK, dNeK, dClrK, dCntS]
  intro f hf
  refine dFor_g fun F1 T1 h1 t1 => ?_; simp only [dFor, dC, dOp, dTest, dChain, dAnd, dOr, dNot, dAndV, dOrV, dNotV, dIf, dNil, dCons, dTup, dLst, dCB, d1, dIx, dNoPart, dPart, dSl, dCut, dNeg, dLen, dTupOf, dListOf, dSorted, dSum, dAll, dAny, dInt, dAbs, dMax, dMin, dIsi, isT, dNext, dSeq, dBrk, dCont, dNever, dExpr, dRet, dRetN, dIfS, dAsg, dPutI, dI0, dI, dIsN, dNotN, dSeqI, dRng1, dRng2, dRngDn, dEnumI, dZipI, dYes, dCall, dLM, dAppend, dExtend, dReverse, dInsert, dAugI, dRg1, dRg2, dTupRg, dLstRg, dNewK, dNewT, ↓S0_, ↓S1_, ↓S2_, ↓S3_, ↓S4_, ↓S5_, ↓S6_, List.map_cons, List.map_nil, List.length_cons, List.length_nil, List.replicate, List.cons_append, List.nil_append, Nat.reduceAdd, Nat.reduceSub, Nat.zero_add, List.getElem?_cons_zero, List.getElem?_cons_succ, Option.some.injEq, exists_eq_left, exists_eq_left', List.set_cons_zero, List.set_cons_succ, wipeD, D.int.injEq, D.bl.injEq, D.str.injEq, D.ref.injEq, D.tup.injEq, D.ty.injEq, true_and, and_true, forall_const, forall_eq', forall_eq, mt_int, mt_bool, mt_str, mt_tuple, mt_list, mt_dict, st_int_int, st_int_bool, st_int_str, st_int_tuple, st_int_list, st_int_dict, st_bool_int, st_bool_bool, st_bool_str, st_bool_tuple, st_bool_list, st_bool_dict, st_str_int, st_str_bool, st_str_str, st_str_tuple, st_str_list, st_str_dict, st_tuple_int, st_tuple_bool, st_tuple_str, st_tuple_tuple, st_tuple_list, st_tuple_dict, st_list_int, st_list_bool, st_list_str, st_list_tuple, st_list_list, st_list_dict, st_dict_int, st_dict_bool, st_dict_str, st_dict_tuple, st_dict_list, st_dict_dict, eq_self, Bool.true_eq_false, Bool.false_eq_true, false_implies, true_implies, implies_true, decide_eq_true_eq, decide_eq_false_iff_not, Bool.not_true, Bool.not_false, Bool.not_eq_true, Bool.not_eq_false, Bool.not_eq_true', Bool.not_eq_false', not_true_eq_false, not_false_eq_true, false_and, and_false, or_false, false_or, reduceCtorEq, ↓exLSu, ↓exDKu, ↓exDKd, ↓exLSd, ↓exLu, ↓dIxRu, ↓dPutu, ↓dGetAu, ↓dEq_int, ↓dNe_int, ↓dEq_bl, ↓dNe_bl, ↓dEq_str, ↓dNe_str, ↓dAdd_int, ↓exAt10, ↓exIx10, ↓exAt20, ↓exIx20, ↓exAt21, ↓exIx21, ↓exAt30, ↓exIx30, ↓exAt31, ↓exIx31, ↓exAt32, ↓exIx32, ↓exAt40, ↓exIx40, ↓exAt41, ↓exIx41, ↓exAt42, ↓exIx42, ↓exAt43, ↓exIx43, ↓exAt50, ↓exIx50, ↓exAt51, ↓exIx51, ↓exAt52, ↓exIx52, ↓exAt53, ↓exIx53, ↓exAt54, ↓exIx54, ↓exAt60, ↓exIx60, ↓exAt61, ↓exIx61, ↓exAt62, ↓exIx62, ↓exAt63, ↓exIx63, ↓exAt64, ↓exIx64, ↓exAt65, ↓exIx65, up_up, false_or, or_false, ↓exAtM, ↓dFlag_bl, ↓exBl, ↓exInt, ↓exRef, ↓dVar0, ↓dAug0, ↓dSet0, ↓dTgN0, ↓dTgW0, ↓dVar1, ↓dAug1, ↓dSet1, ↓dTgN1, ↓dTgW1, ↓dVar2, ↓dAug2, ↓dSet2, ↓dTgN2, ↓dTgW2, ↓dVar3, ↓dAug3, ↓dSet3, ↓dTgN3, ↓dTgW3, ↓dVar4, ↓dAug4, ↓dSet4, ↓dTgN4, ↓dTgW4, ↓dVar5, ↓dAug5, ↓dSet5, ↓dTgN5, ↓dTgW5, ↓dVar6, ↓dAug6, ↓dSet6, ↓dTgN6, ↓dTgW6, ↓dVar7, ↓dAug7, ↓dSet7, ↓dTgN7, ↓dTgW7, ↓dVar8, ↓dAug8, ↓dSet8, ↓dTgN8, ↓dTgW8, ↓dVar9, ↓dAug9, ↓dSet9, ↓dTgN9, ↓dTgW9, ↓dVar10, ↓dAug10, ↓dSet10, ↓dTgN10, ↓dTgW10, ↓dVar11, ↓dAug11, ↓dSet11, ↓dTgN11, ↓dTgW11, ↓dVar12, ↓dAug12, ↓dSet12, ↓dTgN12, ↓dTgW12, ↓dVar13, ↓dAug13, ↓dSet13, ↓dTgN13, ↓dTgW13, ↓dVar14, ↓dAug14, ↓dSet14, ↓dTgN14, ↓dTgW14, ↓dVar15, ↓dAug15, ↓dSet15, ↓dTgN15, ↓dTgW15, ↓dVar16, ↓dAug16, ↓dSet16, ↓dTgN16, ↓dTgW16, ↓dVar17, ↓dAug17, ↓dSet17, ↓dTgN17, ↓dTgW17, ↓dVar18, ↓dAug18, ↓dSet18, ↓dTgN18, ↓dTgW18, ↓dVar19, ↓dAug19, ↓dSet19, ↓dTgN19, ↓dTgW19, ↓dTg_t2, ↓dTg_t3, ↓exGetM, ↓exSumU, nD, plD, rwD, ↓dAdd_tup, ↓dAdd_ref, dSIndex, dInS, dKeysI, dValsI, dItemsI, dMulS, dEqK, dNeK, dClrK, dCntS]
  have nfq : f ≠ q := by rintro rfl; rw [hq] at hf; cases hf
  have nfp : f ≠ p := by rintro rfl; rw [hp] at hf; cases hf
  have hq2 : ∀ o, up M f o q = some (.lst (r.map D.str)) := fun o => by rw [up_ne nfq.symm]; exact hq
  have hp2 : ∀ o, up M f o p = some (.dK (gD g)) := fun o => by rw [up_ne nfp.symm]; exact hp
  refine ⟨_, .inl (hq2 _), forL D.str r (fun l δ M' => M' = up M f (.lst ((l.flatMap (lf g)).map D.str)) ∧ (l.flatMap (lf g)).length ≤ 4 * l.length ∧ ∃ a : Option D, δ = [some (.ref p), some (.ref q), some (.ref f), a]) rfl ⟨rfl, Nat.le_refl _, _, rfl⟩ ?_ ?_⟩
  · rintro l k t δ' _ pre P' e ⟨rfl, hl2, a, rfl⟩ hP
    have hk := hr k (by rw [e]; simp)
    have hll : l.length ≤ 400 := by
      have := congrArg List.length e
      rw [List.length_append] at this; omega
    have h4 : (lf g k).length ≤ 4 := by
      obtain ⟨e5, he, rfl⟩ := List.mem_map.mp hk
      rw [lf_of hg he]
      exact (hg.left e5 he).1
    refine ⟨.inl (hq2 _), ?_⟩
    subst t1
    simp (config := {failIfUnchanged := false}) only [dC, dOp, dTest, dChain, dAnd, dOr, dNot, dAndV, dOrV, dNotV, dIf, dNil, dCons, dTup, dLst, dCB, d1, dIx, dNoPart, dPart, dSl, dCut, dNeg, dLen, dTupOf, dListOf, dSorted, dSum, dAll, dAny, dInt, dAbs, dMax, dMin, dIsi, isT, dNext, dSeq, dBrk, dCont, dNever, dExpr, dRet, dRetN, dIfS, dAsg, dPutI, dI0, dI, dIsN, dNotN, dSeqI, dRng1, dRng2, dRngDn, dEnumI, dZipI, dYes, dCall, dLM, dAppend, dExtend, dReverse, dInsert, dAugI, dRg1, dRg2, dTupRg, dLstRg, dNewK, dNewT, ↓S0_, ↓S1_, ↓S2_, ↓S3_, ↓S4_, ↓S5_, ↓S6_, List.map_cons, List.map_nil, List.length_cons, List.length_nil, List.replicate, List.cons_append, List.nil_append, Nat.reduceAdd, Nat.reduceSub, Nat.zero_add, List.getElem?_cons_zero, List.getElem?_cons_succ, Option.some.injEq, exists_eq_left, exists_eq_left', List.set_cons_zero, List.set_cons_succ, wipeD, D.int.injEq, D.bl.injEq, D.str.injEq, D.ref.injEq, D.tup.injEq, D.ty.injEq, true_and, and_true, forall_const, forall_eq', forall_eq, mt_int, mt_bool, mt_str, mt_tuple, mt_list, mt_dict, st_int_int, st_int_bool, st_int_str, st_int_tuple, st_int_list, st_int_dict, st_bool_int, st_bool_bool, st_bool_str, st_bool_tuple, st_bool_list, st_bool_dict, st_str_int, st_str_bool, st_str_str, st_str_tuple, st_str_list, st_str_dict, st_tuple_int, st_tuple_bool, st_tuple_str, st_tuple_tuple, st_tuple_list, st_tuple_dict, st_list_int, st_list_bool, st_list_str, st_list_tuple, st_list_list, st_list_dict, st_dict_int, st_dict_bool, st_dict_str, st_dict_tuple, st_dict_list, st_dict_dict, eq_self, Bool.true_eq_false, Bool.false_eq_true, false_implies, true_implies, implies_true, decide_eq_true_eq, decide_eq_false_iff_not, Bool.not_true, Bool.not_false, Bool.not_eq_true, Bool.not_eq_false, Bool.not_eq_true', Bool.not_eq_false', not_true_eq_false, not_false_eq_true, false_and, and_false, or_false, false_or, reduceCtorEq, ↓exLSu, ↓exDKu, ↓exDKd, ↓exLSd, ↓exLu, ↓dIxRu, ↓dPutu, ↓dGetAu, ↓dEq_int, ↓dNe_int, ↓dEq_bl, ↓dNe_bl, ↓dEq_str, ↓dNe_str, ↓dAdd_int, ↓exAt10, ↓exIx10, ↓exAt20, ↓exIx20, ↓exAt21, ↓exIx21, ↓exAt30, ↓exIx30, ↓exAt31, ↓exIx31, ↓exAt32, ↓exIx32, ↓exAt40, ↓exIx40, ↓exAt41, ↓exIx41, ↓exAt42, ↓exIx42, ↓exAt43, ↓exIx43, ↓exAt50, ↓exIx50, ↓exAt51, ↓exIx51, ↓exAt52, ↓exIx52, ↓exAt53, ↓exIx53, ↓exAt54, ↓exIx54, ↓exAt60, ↓exIx60, ↓exAt61, ↓exIx61, ↓exAt62, ↓exIx62, ↓exAt63, ↓exIx63, ↓exAt64, ↓exIx64, ↓exAt65, ↓exIx65, up_up, false_or, or_false, ↓exAtM, ↓dFlag_bl, ↓exBl, ↓exInt, ↓exRef, ↓dVar0, ↓dAug0, ↓dSet0, ↓dTgN0, ↓dTgW0, ↓dVar1, ↓dAug1, ↓dSet1, ↓dTgN1, ↓dTgW1, ↓dVar2, ↓dAug2, ↓dSet2, ↓dTgN2, ↓dTgW2, ↓dVar3, ↓dAug3, ↓dSet3, ↓dTgN3, ↓dTgW3, ↓dVar4, ↓dAug4, ↓dSet4, ↓dTgN4, ↓dTgW4, ↓dVar5, ↓dAug5, ↓dSet5, ↓dTgN5, ↓dTgW5, ↓dVar6, ↓dAug6, ↓dSet6, ↓dTgN6, ↓dTgW6, ↓dVar7, ↓dAug7, ↓dSet7, ↓dTgN7, ↓dTgW7, ↓dVar8, ↓dAug8, ↓dSet8, ↓dTgN8, ↓dTgW8, ↓dVar9, ↓dAug9, ↓dSet9, ↓dTgN9, ↓dTgW9, ↓dVar10, ↓dAug10, ↓dSet10, ↓dTgN10, ↓dTgW10, ↓dVar11, ↓dAug11, ↓dSet11, ↓dTgN11, ↓dTgW11, ↓dVar12, ↓dAug12, ↓dSet12, ↓dTgN12, ↓dTgW12, ↓dVar13, ↓dAug13, ↓dSet13, ↓dTgN13, ↓dTgW13, ↓dVar14, ↓dAug14, ↓dSet14, ↓dTgN14, ↓dTgW14, ↓dVar15, ↓dAug15, ↓dSet15, ↓dTgN15, ↓dTgW15, ↓dVar16, ↓dAug16, ↓dSet16, ↓dTgN16, ↓dTgW16, ↓dVar17, ↓dAug17, ↓dSet17, ↓dTgN17, ↓dTgW17, ↓dVar18, ↓dAug18, ↓dSet18, ↓dTgN18, ↓dTgW18, ↓dVar19, ↓dAug19, ↓dSet19, ↓dTgN19, ↓dTgW19, ↓dTg_t2, ↓dTg_t3, ↓exGetM, ↓exSumU, nD, plD, rwD, ↓dAdd_tup, ↓dAdd_ref, dSIndex, dInS, dKeysI, dValsI, dItemsI, dMulS, dEqK, dNeK, dClrK, dCntS]
    refine ⟨⟨f, _, rfl, .inl up_same⟩, .inr (.inl ⟨gD g, .inr k, _, rfl, .inl (hp2 _), val_g hg hk, ?_⟩)⟩
    refine ⟨_, up_same, by rw [List.length_map, List.length_map]; exact Nat.le_trans (show _ ≤ 2000 by omega) (by decide), sb0 (hP _ _ ⟨?_, ?_, _, rfl⟩)⟩
    · rw [up_up, List.flatMap_append, List.flatMap_cons, List.flatMap_nil, List.append_nil, List.map_append]
    · rw [List.flatMap_append, List.flatMap_cons, List.flatMap_nil, List.append_nil, List.length_append, List.length_append, List.length_singleton]; omega
  · rintro δ' _ ⟨rfl, hl2, a, rfl⟩
    refine ⟨.inl (hq2 _), ?_⟩
    rw [h1]
    simp (config := {failIfUnchanged := false}) only [dC, dOp, dTest, dChain, dAnd, dOr, dNot, dAndV, dOrV, dNotV, dIf, dNil, dCons, dTup, dLst, dCB, d1, dIx, dNoPart, dPart, dSl, dCut, dNeg, dLen, dTupOf, dListOf, dSorted, dSum, dAll, dAny, dInt, dAbs, dMax, dMin, dIsi, isT, dNext, dSeq, dBrk, dCont, dNever, dExpr, dRet, dRetN, dIfS, dAsg, dPutI, dI0, dI, dIsN, dNotN, dSeqI, dRng1, dRng2, dRngDn, dEnumI, dZipI, dYes, dCall, dLM, dAppend, dExtend, dReverse, dInsert, dAugI, dRg1, dRg2, dTupRg, dLstRg, dNewK, dNewT, ↓S0_, ↓S1_, ↓S2_, ↓S3_, ↓S4_, ↓S5_, ↓S6_, List.map_cons, List.map_nil, List.length_cons, List.length_nil, List.replicate, List.cons_append, List.nil_append, Nat.reduceAdd, Nat.reduceSub, Nat.zero_add, List.getElem?_cons_zero, List.getElem?_cons_succ, Option.some.injEq, exists_eq_left, exists_eq_left', List.set_cons_zero, List.set_cons_succ, wipeD, D.int.injEq, D.bl.injEq, D.str.injEq, D.ref.injEq, D.tup.injEq, D.ty.injEq, true_and, and_true, forall_const, forall_eq', forall_eq, mt_int, mt_bool, mt_str, mt_tuple, mt_list, mt_dict, st_int_int, st_int_bool, st_int_str, st_int_tuple, st_int_list, st_int_dict, st_bool_int, st_bool_bool, st_bool_str, st_bool_tuple, st_bool_list, st_bool_dict, st_str_int, st_str_bool, st_str_str, st_str_tuple, st_str_list, st_str_dict, st_tuple_int, st_tuple_bool, st_tuple_str, st_tuple_tuple, st_tuple_list, st_tuple_dict, st_list_int, st_list_bool, st_list_str, st_list_tuple, st_list_list, st_list_dict, st_dict_int, st_dict_bool, st_dict_str, st_dict_tuple, st_dict_list, st_dict_dict, eq_self, Bool.true_eq_false, Bool.false_eq_true, false_implies, true_implies, implies_true, decide_eq_true_eq, decide_eq_false_iff_not, Bool.not_true, Bool.not_false, Bool.not_eq_true, Bool.not_eq_false, Bool.not_eq_true', Bool.not_eq_false', not_true_eq_false, not_false_eq_true, false_and, and_false, or_false, false_or, reduceCtorEq, ↓exLSu, ↓exDKu, ↓exDKd, ↓exLSd, ↓exLu, ↓dIxRu, ↓dPutu, ↓dGetAu, ↓dEq_int, ↓dNe_int, ↓dEq_bl, ↓dNe_bl, ↓dEq_str, ↓dNe_str, ↓dAdd_int, ↓exAt10, ↓exIx10, ↓exAt20, ↓exIx20, ↓exAt21, ↓exIx21, ↓exAt30, ↓exIx30, ↓exAt31, ↓exIx31, ↓exAt32, ↓exIx32, ↓exAt40, ↓exIx40, ↓exAt41, ↓exIx41, ↓exAt42, ↓exIx42, ↓exAt43, ↓exIx43, ↓exAt50, ↓exIx50, ↓exAt51, ↓exIx51, ↓exAt52, ↓exIx52, ↓exAt53, ↓exIx53, ↓exAt54, ↓exIx54, ↓exAt60, ↓exIx60, ↓exAt61, ↓exIx61, ↓exAt62, ↓exIx62, ↓exAt63, ↓exIx63, ↓exAt64, ↓exIx64, ↓exAt65, ↓exIx65, up_up, false_or, or_false, ↓exAtM, ↓dFlag_bl, ↓exBl, ↓exInt, ↓exRef, ↓dVar0, ↓dAug0, ↓dSet0, ↓dTgN0, ↓dTgW0, ↓dVar1, ↓dAug1, ↓dSet1, ↓dTgN1, ↓dTgW1, ↓dVar2, ↓dAug2, ↓dSet2, ↓dTgN2, ↓dTgW2, ↓dVar3, ↓dAug3, ↓dSet3, ↓dTgN3, ↓dTgW3, ↓dVar4, ↓dAug4, ↓dSet4, ↓dTgN4, ↓dTgW4, ↓dVar5, ↓dAug5, ↓dSet5, ↓dTgN5, ↓dTgW5, ↓dVar6, ↓dAug6, ↓dSet6, ↓dTgN6, ↓dTgW6, ↓dVar7, ↓dAug7, ↓dSet7, ↓dTgN7, ↓dTgW7, ↓dVar8, ↓dAug8, ↓dSet8, ↓dTgN8, ↓dTgW8, ↓dVar9, ↓dAug9, ↓dSet9, ↓dTgN9, ↓dTgW9, ↓dVar10, ↓dAug10, ↓dSet10, ↓dTgN10, ↓dTgW10, ↓dVar11, ↓dAug11, ↓dSet11, ↓dTgN11, ↓dTgW11, ↓dVar12, ↓dAug12, ↓dSet12, ↓dTgN12, ↓dTgW12, ↓dVar13, ↓dAug13, ↓dSet13, ↓dTgN13, ↓dTgW13, ↓dVar14, ↓dAug14, ↓dSet14, ↓dTgN14, ↓dTgW14, ↓dVar15, ↓dAug15, ↓dSet15, ↓dTgN15, ↓dTgW15, ↓dVar16, ↓dAug16, ↓dSet16, ↓dTgN16, ↓dTgW16, ↓dVar17, ↓dAug17, ↓dSet17, ↓dTgN17, ↓dTgW17, ↓dVar18, ↓dAug18, ↓dSet18, ↓dTgN18, ↓dTgW18, ↓dVar19, ↓dAug19, ↓dSet19, ↓dTgN19, ↓dTgW19, ↓dTg_t2, ↓dTg_t3, ↓exGetM, ↓exSumU, nD, plD, rwD, ↓dAdd_tup, ↓dAdd_ref, dSIndex, dInS, dKeysI, dValsI, dItemsI, dMulS, dEqK, dNeK, dClrK, dCntS]
    exact dn0 (h f hf)
end
theorem nd_new {g : Gr} (G : Grw g) {l t : Gr} {e : Str × List Str} (h : g = l ++ e :: t) (v : Str → D) : putKD (l.map fun e => ((.inr e.1 : Key), v e.1)) (.inr e.1) (v e.1) = (l ++ [e]).map fun e => ((.inr e.1 : Key), v e.1) := by
  rw [put_new, List.map_append]
  · rfl
  · have := keys_nd G
    rw [h, List.map_append, List.map_cons, List.nodup_append] at this
    rw [List.map_map]
    exact fun z => this.2.2 _ z _ (by simp) rfl
section
variable {P : Program} {w : World} {K : PySem.W.Frag} {mg : Str → Option Value} {base : Heap}
end
def AZ : Str := Str.ofString "abcdefghijklmnopqrstuvwxyz"
theorem az_at {v : Nat} (h : v < 26) : AZ.cps.toList[v]? = some (97 + v) := by
  have : ∀ v < 26, AZ.cps.toList[v]? = some (97 + v) := by decide +kernel
  exact this v h
theorem str_app_list (a b : Str) : (a ++ b).cps.toList = a.cps.toList ++ b.cps.toList := by
  show (a.cps ++ b.cps).toList = _
  rw [Array.toList_append]
theorem str_len_list (a : Str) : a.length = a.cps.toList.length := by rw [Array.length_toList]; rfl
theorem Up.new {M : Hd} {x : D} {p : Addr} {o : O} (hx : Pool M x) (h : M p = none) (ho : ∀ c, o ≠ .own c) : Up (up M p o) M x := by
  have ne : ∀ {a : Addr} {u : O}, M a = some u → a ≠ p := fun {a u} e z => by rw [z, h] at e; cases e
  refine ⟨fun a u e _ => by rw [up_ne (ne e)]; exact e, ?_, fun a e => by
    have na : a ≠ p := by rintro rfl; rw [up_same] at e; cases e
    rw [up_ne na] at e; exact e⟩
  obtain ⟨q, r1, r2, rfl, d⟩ := hx
  exact ⟨q, r1, r2, rfl, by rw [up_ne (ne d.at_)]; exact d.at_, by rw [up_ne (ne d.o1)]; exact d.o1, by rw [up_ne (ne d.o2)]; exact d.o2, d.ne⟩
/-- a list or a dict of the law's own is written -/
theorem Pool.put {M : Hd} {x : D} {p : Addr} {o u : O} (hx : Pool M x) (h : M p = some u) (h1 : ∀ I own, u ≠ .ext I own) (h2 : ∀ c, u ≠ .own c) : Pool (up M p o) x := by
  obtain ⟨q, r1, r2, rfl, d⟩ := hx
  have n0 : q ≠ p := by rintro rfl; rw [d.at_] at h; cases h; exact h1 _ _ rfl
  have n1 : r1 ≠ p := by rintro rfl; rw [d.o1] at h; cases h; exact h2 _ rfl
  have n2 : r2 ≠ p := by rintro rfl; rw [d.o2] at h; cases h; exact h2 _ rfl
  exact ⟨q, r1, r2, rfl, by rw [up_ne n0]; exact d.at_, by rw [up_ne n1]; exact d.o1, by rw [up_ne n2]; exact d.o2, d.ne⟩
/-- a cell that was free at first is written -/
theorem Up.put {M M' : Hd} {x : D} {p : Addr} {o u : O} (h : Up M' M x) (hp : M' p = some u) (h1 : ∀ I own, u ≠ .ext I own) (h2 : ∀ c, u ≠ .own c) (hf : M p = none) : Up (up M' p o) M x := by
  refine ⟨fun a w e hn => ?_, h.pool.put hp h1 h2, fun a e => ?_⟩
  · have na : a ≠ p := by rintro rfl; rw [hf] at e; cases e
    rw [up_ne na]; exact h.keep a w e hn
  · have na : a ≠ p := by rintro rfl; rw [up_same] at e; cases e
    rw [up_ne na] at e; exact h.free a e
theorem sml_q {v : Nat} (h : v < 26) : Sml (repS ⟨#[97 + v]⟩ 7 ++ Str.ofString "q") := by
  have e : (repS ⟨#[97 + v]⟩ 7 ++ Str.ofString "q").cps.toList = List.replicate 7 (97 + v) ++ [113] := by
    rw [str_app_list, repS_list]; rfl
  refine ⟨by rw [str_len_list, e]; simp, by rw [str_len_list, e]; simp, fun c hc => ?_⟩
  rw [e] at hc
  rcases List.mem_append.mp hc with z | z
  · rw [(List.mem_replicate.mp z).2]; omega
  · rw [List.mem_singleton] at z; subst z; omega
/-! the dict that is filled -/
def putG (g : Gr) (k : Str) (r : List Str) : Gr := if k ∈ g.map (·.1) then g.map fun e => if e.1 = k then (e.1, r) else e else g ++ [(k, r)]
theorem put_gD (g : Gr) (k : Str) (r : List Str) : putKD (gD g) (.inr k) (.tup (r.map D.str)) = gD (putG g k r) := by
  unfold putKD putG gD
  have ha : ((g.map fun e => ((.inr e.1 : Key), D.tup (e.2.map D.str))).any fun kv => decide (kv.1 = .inr k)) = decide (k ∈ g.map (·.1)) := by
    rw [Bool.eq_iff_iff, List.any_eq_true, decide_eq_true_eq]
    constructor
    · rintro ⟨kv, h1, h2⟩
      obtain ⟨e, he, rfl⟩ := List.mem_map.mp h1
      have := of_decide_eq_true h2
      injection this with this
      exact List.mem_map.mpr ⟨e, he, this⟩
    · intro h
      obtain ⟨e, he, rfl⟩ := List.mem_map.mp h
      exact ⟨_, List.mem_map.mpr ⟨e, he, rfl⟩, decide_eq_true rfl⟩
  rw [ha]
  by_cases h : k ∈ g.map (·.1)
  · rw [decide_eq_true h, if_pos rfl, if_pos h, List.map_map, List.map_map]
    refine List.map_congr_left fun e _ => ?_
    show (if (.inr e.1 : Key) = .inr k then ((.inr e.1 : Key), D.tup (r.map D.str)) else (.inr e.1, D.tup (e.2.map D.str))) = _
    by_cases z : e.1 = k
    · rw [if_pos (by rw [z])]
      show _ = ((.inr (if e.1 = k then (e.1, r) else e).1 : Key), D.tup ((if e.1 = k then (e.1, r) else e).2.map D.str))
      rw [if_pos z]
    · rw [if_neg (fun y => z (by injection y))]
      show _ = ((.inr (if e.1 = k then (e.1, r) else e).1 : Key), D.tup ((if e.1 = k then (e.1, r) else e).2.map D.str))
      rw [if_neg z]
  · rw [decide_eq_false h, if_neg (by decide), if_neg h, List.map_append]; rfl
/-- the kinds met so far have rows of kinds -/
structure Half (g : Gr) (ks : List Str) (i : Nat) : Prop where
  nd : (g.map (·.1)).Nodup
  row : ∀ e ∈ g, e.2.length ≤ 4 ∧ ∀ o ∈ e.2, o ∈ ks
  sub : ∀ e ∈ g, e.1 ∈ ks
  has : ∀ j < i, ∀ k, ks[j]? = some k → k ∈ g.map (·.1)
  few : g.length ≤ i
theorem putG_keys (g : Gr) (k : Str) (r : List Str) : (putG g k r).map (·.1) = if k ∈ g.map (·.1) then g.map (·.1) else g.map (·.1) ++ [k] := by
  unfold putG
  by_cases h : k ∈ g.map (·.1)
  · rw [if_pos h, if_pos h, List.map_map]
    refine List.map_congr_left fun e _ => ?_
    show (if e.1 = k then (e.1, r) else e).1 = e.1
    split <;> rfl
  · rw [if_neg h, if_neg h, List.map_append]; rfl
theorem putG_mem {g : Gr} {k : Str} {r : List Str} {e : Str × List Str} (h : e ∈ putG g k r) : e ∈ g ∨ e = (k, r) := by
  unfold putG at h
  split at h
  · obtain ⟨f, hf, rfl⟩ := List.mem_map.mp h
    split
    · rename_i z; exact .inr (by rw [z])
    · exact .inl hf
  · rcases List.mem_append.mp h with z | z
    · exact .inl z
    · rw [List.mem_singleton] at z; exact .inr z
theorem Half.put {g : Gr} {ks : List Str} {i : Nat} (h : Half g ks i) {k : Str} {r : List Str} (hk : ks[i]? = some k) (hr : r.length ≤ 4 ∧ ∀ o ∈ r, o ∈ ks) : Half (putG g k r) ks (i + 1) := by
  have hkm := List.mem_of_getElem? hk
  refine ⟨?_, fun e he => ?_, fun e he => ?_, fun j hj k2 hk2 => ?_, ?_⟩
  · rw [putG_keys]
    split
    · exact h.nd
    · rename_i z
      exact List.nodup_append.mpr ⟨h.nd, by simp, fun a ha b hb e => by rw [List.mem_singleton] at hb; subst hb; subst e; exact z ha⟩
  · rcases putG_mem he with z | rfl
    · exact h.row e z
    · exact hr
  · rcases putG_mem he with z | rfl
    · exact h.sub e z
    · exact hkm
  · rw [putG_keys]
    by_cases z : j < i
    · have := h.has j z k2 hk2
      split
      · exact this
      · exact List.mem_append_left _ this
    · obtain rfl : j = i := by omega
      rw [hk] at hk2
      cases hk2
      split
      · assumption
      · simp
  · have := h.few
    have e : (putG g k r).length = ((putG g k r).map (·.1)).length := by rw [List.length_map]
    rw [e, putG_keys]
    split
    · rw [List.length_map]; omega
    · rw [List.length_append, List.length_map]; simp only [List.length_singleton]; omega
theorem Half.grw {g : Gr} {ks : List Str} (h : Half g ks ks.length) (h1 : 1 ≤ ks.length) (h2 : ks.length ≤ 12) (hs : ∀ k ∈ ks, Sml k) : Grw g := by
  have hk : ∀ k ∈ ks, k ∈ g.map (·.1) := fun k hk => by
    obtain ⟨j, hj, e⟩ := List.getElem_of_mem hk
    exact h.has j hj k (by rw [List.getElem?_eq_getElem hj, e])
  refine ⟨?_, Nat.le_trans h.few h2, h.nd, fun e he => hs _ (h.sub e he), fun e he => ⟨(h.row e he).1, fun o ho => hk o ((h.row e he).2 o ho)⟩⟩
  have h0 := List.length_pos_of_mem (hk ks[0] (List.getElem_mem _))
  rw [List.length_map] at h0; exact h0
theorem Grw.rev {g : Gr} (h : Grw g) : Grw g.reverse := by
  have e : g.reverse.map (·.1) = (g.map (·.1)).reverse := List.map_reverse
  refine ⟨by rw [List.length_reverse]; exact h.pos, by rw [List.length_reverse]; exact h.few, by rw [e]; exact (List.reverse_perm _).nodup_iff.mpr h.nd, fun x hx => h.sml x (List.mem_reverse.mp hx), fun x hx => ⟨(h.left x (List.mem_reverse.mp hx)).1, fun o ho => ?_⟩⟩
  rw [e]
  exact List.mem_reverse.mpr ((h.left x (List.mem_reverse.mp hx)).2 o ho)
theorem merge_gD {g : Gr} (h : Grw g) : mergeD [] (gD g) = gD g := by
  unfold mergeD
  have := fold_put (kf := fun kv : Key × D => kv.1) (v := fun kv : Key × D => kv.2) (gD g) [] (by
    rw [List.map_nil, List.nil_append]
    have := keys_nd h
    unfold gD
    rw [List.map_map]; exact this)
  rw [this, List.nil_append]
  exact List.map_id'' (fun _ => rfl) _
section
variable {P : Program} {w : World} {K : PySem.W.Frag} {mg : Str → Option Value} {base : Heap}
theorem pr__law_growth (G : Gv K mg) : Pr P w K mg base "_law_growth" 3 ["_law_pool_here"] (S1 fun x M Q => Pool M x ∧ ∀ q M' g, Up M' M x → M' q = some (.dK (gD g)) → Grw g → Q (.ref q) M') := by
  refine (pr3 (k := 2) G.d__law_growth bi__law_growth sc__law_growth S1n (fun f cdv A outer s H E hr => (b_cons (s_set 1 sc__law_growth.nd (e_callP (pr__law_pick G) (hr.mono (by decide)) (by rfl) pass0 (a_cons (e_var 0) (a_cons (e_lst (a_cons e_int (a_cons e_int (a_cons e_int (a_cons e_int (a_cons e_int (a_cons e_int (a_cons e_int (a_cons e_int a_nil))))))))) a_nil))))
      (b_cons (s_set 2 sc__law_growth.nd e_str)
      (b_cons (s_set 3 sc__law_growth.nd (e_lst a_nil))
      (b_cons (s_for PassesOwn.never rfl (i_rng1 (by rfl) G.b_range (a_cons (e_var 1) a_nil)) (g_nm 4 sc__law_growth.nd)
      (b_cons (s_set 9 sc__law_growth.nd e_str)
      (b_cons (s_for PassesOwn.never rfl (i_rng1 (by rfl) G.b_range (a_cons (e_callP (pr__law_pick G) (hr.mono (by decide)) (by rfl) pass0 (a_cons (e_var 0) (a_cons (e_lst (a_cons e_int (a_cons e_int (a_cons e_int (a_cons e_int a_nil))))) a_nil))) a_nil)) (g_nm 10 sc__law_growth.nd)
      (b_one (s_set 9 sc__law_growth.nd (e_op od_add (e_var 9) (e_ix (ixd (hu_of hr)) (e_var 2) (e_callP (pr__law_draw G) (hr.mono (by decide)) (by rfl) pass0 (a_cons (e_var 0) (a_cons e_int a_nil))))))))
      (b_one (s_expr (e_lm PySem.F.slot_list_append PySem.F.type_list_append m_append (e_var 3) (a_cons (e_if (t_cmp (od_notin (hu_of hr)) (e_var 9) (e_var 3)) (e_var 9) (e_op od_add (e_op od_mulS (e_ix (ixd (hu_of hr)) (e_var 2) (e_var 4)) e_int) e_str)) a_nil)))))))
      (b_cons (s_set 5 sc__law_growth.nd (e_callP (pr__law_pick G) (hr.mono (by decide)) (by rfl) pass0 (a_cons (e_var 0) (a_cons (e_lst (a_cons e_int (a_cons e_int (a_cons e_int (a_cons e_int a_nil))))) a_nil))))
      (b_cons (s_set 6 sc__law_growth.nd e_newK)
      (b_cons (s_for PassesOwn.never rfl (i_rng1 (by rfl) G.b_range (a_cons (e_callB cd_len (by rfl) G.b_len rfl (a_cons (e_var 3) a_nil)) a_nil)) (g_nm 7 sc__law_growth.nd)
      (b_cons (s_set 11 sc__law_growth.nd (e_lst a_nil))
      (b_cons (s_for PassesOwn.never rfl (i_rng1 (by rfl) G.b_range (a_cons (e_callP (pr__law_pick G) (hr.mono (by decide)) (by rfl) pass0 (a_cons (e_var 0) (a_cons (e_lst (a_cons e_int (a_cons e_int (a_cons e_int (a_cons e_int (a_cons e_int (a_cons e_int a_nil))))))) a_nil))) a_nil)) (g_nm 10 sc__law_growth.nd)
      (b_cons (s_set 12 sc__law_growth.nd (e_and (e_cmp od_gt (e_callP (pr__law_draw G) (hr.mono (by decide)) (by rfl) pass0 (a_cons (e_var 0) (a_cons (e_var 5) a_nil))) e_int) (e_one (e_cmp od_lt (e_op od_add (e_var 7) e_int) (e_callB cd_len (by rfl) G.b_len rfl (a_cons (e_var 3) a_nil))))))
      (b_one (s_expr (e_lm PySem.F.slot_list_append PySem.F.type_list_append m_append (e_var 11) (a_cons (e_if (t_val (e_var 12)) (e_callP (pr__law_pick G) (hr.mono (by decide)) (by rfl) pass0 (a_cons (e_var 0) (a_cons (e_slice slD (e_var 3) (o_some (e_op od_add (e_var 7) e_int)) o_none) a_nil))) (e_callP (pr__law_pick G) (hr.mono (by decide)) (by rfl) pass0 (a_cons (e_var 0) (a_cons (e_var 3) a_nil)))) a_nil))))))
      (b_one (s_put (put3 (hu_of hr)) (e_var 6) (e_ix (ixd (hu_of hr)) (e_var 3) (e_var 7)) (e_callTy cd_tuple (by rfl) G.b_tuple rfl (a_cons (e_var 11) a_nil)))))))
      (b_cons (s_set 8 sc__law_growth.nd (e_callTy (cd_list rfl) (by rfl) G.b_list rfl (a_cons (e_var 6) a_nil)))
      (b_cut (s_if (t_cmp (od_eq (hu3 hr)) (e_callP (pr__law_draw G) (hr.mono (by decide)) (by rfl) pass0 (a_cons (e_var 0) (a_cons e_int a_nil))) e_int) (b_one (s_expr (e_lm0 PySem.F.slot_list_reverse PySem.F.type_list_reverse m_reverse (e_var 8)))) b_nil)
      (b_one (s_ret (e_callTy (cd_dict rfl) (by rfl) G.b_dict rfl (a_cons (e_lc (own := [("_law_each", 13)]) rfl sc__law_growth.nd (i_seq (e_var 8)) (blkOk_by (by rfl)) (fun _ _ _ _ _ => (g_nm 13 sc__law_growth.nd)) (fun _ _ _ _ _ => ts_nil) (fun _ _ _ _ _ => (e_tup (a_cons (e_var 13) (a_cons (e_ix (ixd (hu_of hr)) (e_var 6) (e_var 13)) a_nil))))) a_nil))))))))))))))) ?_
  rintro _ M Q E ⟨x, rfl, hx, h⟩ H rep
  refine ⟨M, rep, fun _ h => h, ?_⟩
  simp only [startD, List.map_cons, List.map_nil, List.length_cons, List.length_nil, Nat.reduceAdd, Nat.reduceSub, Nat.zero_add, List.replicate, List.cons_append, List.nil_append]; simp (config := {failIfUnchanged := false}) only [dC, dOp, dTest, dChain, dAnd, dOr, dNot, dAndV, dOrV, dNotV, dIf, dNil, dCons, dTup, dLst, dCB, d1, dIx, dNoPart, dPart, dSl, dCut, dNeg, dLen, dTupOf, dListOf, dSorted, dSum, dAll, dAny, dInt, dAbs, dMax, dMin, dIsi, isT, dNext, dSeq, dBrk, dCont, dNever, dExpr, dRet, dRetN, dIfS, dAsg, dPutI, dI0, dI, dIsN, dNotN, dSeqI, dRng1, dRng2, dRngDn, dEnumI, dZipI, dYes, dCall, dLM, dAppend, dExtend, dReverse, dInsert, dAugI, dRg1, dRg2, dTupRg, dLstRg, dNewK, dNewT, ↓S0_, ↓S1_, ↓S2_, ↓S3_, ↓S4_, ↓S5_, ↓S6_, List.map_cons, List.map_nil, List.length_cons, List.length_nil, List.replicate, List.cons_append, List.nil_append, Nat.reduceAdd, Nat.reduceSub, Nat.zero_add, List.getElem?_cons_zero, List.getElem?_cons_succ, Option.some.injEq, exists_eq_left, exists_eq_left', List.set_cons_zero, List.set_cons_succ, wipeD, D.int.injEq, D.bl.injEq, D.str.injEq, D.ref.injEq, D.tup.injEq, D.ty.injEq, true_and, and_true, forall_const, forall_eq', forall_eq, mt_int, mt_bool, mt_str, mt_tuple, mt_list, mt_dict, st_int_int, st_int_bool, st_int_str, st_int_tuple, st_int_list, st_int_dict, st_bool_int, st_bool_bool, st_bool_str, st_bool_tuple, st_bool_list, st_bool_dict, st_str_int, st_str_bool, st_str_str, st_str_tuple, st_str_list, st_str_dict, st_tuple_int, st_tuple_bool, st_tuple_str, st_tuple_tuple, st_tuple_list, st_tuple_dict, st_list_int, st_list_bool, st_list_str, st_list_tuple, st_list_list, st_list_dict, st_dict_int, st_dict_bool, st_dict_str, st_dict_tuple, st_dict_list, st_dict_dict, eq_self, Bool.true_eq_false, Bool.false_eq_true, false_implies, true_implies, implies_true, decide_eq_true_eq, decide_eq_false_iff_not, Bool.not_true, Bool.not_false, Bool.not_eq_true, Bool.not_eq_false, Bool.not_eq_true', Bool.not_eq_false', not_true_eq_false, not_false_eq_true, false_and, and_false, or_false, false_or, reduceCtorEq, ↓exLSu, ↓exDKu, ↓exDKd, ↓exLSd, ↓exLu, ↓dIxRu, ↓dPutu, ↓dGetAu, ↓dEq_int, ↓dNe_int, ↓dEq_bl, ↓dNe_bl, ↓dEq_str, ↓dNe_str, ↓dAdd_int, ↓exAt10, ↓exIx10, ↓exAt20, ↓exIx20, ↓exAt21, ↓exIx21, ↓exAt30, ↓exIx30, ↓exAt31, ↓exIx31, ↓exAt32, ↓exIx32, ↓exAt40, ↓exIx40, ↓exAt41, ↓exIx41, ↓exAt42, ↓exIx42, ↓exAt43, ↓exIx43, ↓exAt50, ↓exIx50, ↓exAt51, ↓exIx51, ↓exAt52, ↓exIx52, ↓exAt53, ↓exIx53, ↓exAt54, ↓exIx54, ↓exAt60, ↓exIx60, ↓exAt61, ↓exIx61, ↓exAt62, ↓exIx62, ↓exAt63, ↓exIx63, ↓exAt64, ↓exIx64, ↓exAt65, ↓exIx65, up_up, false_or, or_false, ↓exAtM, ↓dFlag_bl, ↓exBl, ↓exInt, ↓exRef, ↓dVar0, ↓dAug0, ↓dSet0, ↓dTgN0, ↓dTgW0, ↓dVar1, ↓dAug1, ↓dSet1, ↓dTgN1, ↓dTgW1, ↓dVar2, ↓dAug2, ↓dSet2, ↓dTgN2, ↓dTgW2, ↓dVar3, ↓dAug3, ↓dSet3, ↓dTgN3, ↓dTgW3, ↓dVar4, ↓dAug4, ↓dSet4, ↓dTgN4, ↓dTgW4, ↓dVar5, ↓dAug5, ↓dSet5, ↓dTgN5, ↓dTgW5, ↓dVar6, ↓dAug6, ↓dSet6, ↓dTgN6, ↓dTgW6, ↓dVar7, ↓dAug7, ↓dSet7, ↓dTgN7, ↓dTgW7, ↓dVar8, ↓dAug8, ↓dSet8, ↓dTgN8, ↓dTgW8, ↓dVar9, ↓dAug9, ↓dSet9, ↓dTgN9, ↓dTgW9, ↓dVar10, ↓dAug10, ↓dSet10, ↓dTgN10, ↓dTgW10, ↓dVar11, ↓dAug11, ↓dSet11, ↓dTgN11, ↓dTgW11, ↓dVar12, ↓dAug12, ↓dSet12, ↓dTgN12, ↓dTgW12, ↓dVar13, ↓dAug13, ↓dSet13, ↓dTgN13, ↓dTgW13, ↓dVar14, ↓dAug14, ↓dSet14, ↓dTgN14, ↓dTgW14, ↓dVar15, ↓dAug15, ↓dSet15, ↓dTgN15, ↓dTgW15, ↓dVar16, ↓dAug16, ↓dSet16, ↓dTgN16, ↓dTgW16, ↓dVar17, ↓dAug17, ↓dSet17, ↓dTgN17, ↓dTgW17, ↓dVar18, ↓dAug18, ↓dSet18, ↓dTgN18, ↓dTgW18, ↓dVar19, ↓dAug19, ↓dSet19, ↓dTgN19, ↓dTgW19, ↓dTg_t2, ↓dTg_t3, ↓exGetM, ↓exSumU, nD, plD, rwD, ↓dAdd_tup, ↓dAdd_ref, dSIndex, dInS, dKeysI, dValsI, dItemsI, dMulS, dEqK, dNeK, dClrK, dCntS]
  intro f hf
  have u0 := Up.new (o := .lst [D.int 1, D.int 2, D.int 3, D.int 3, D.int 4, D.int 5, D.int 6, D.int 12]) hx hf (by intro _ z; cases z)
  refine ⟨f, _, rfl, up_same, by simp, by simp, u0.pool, fun d M1 hd u1 K hK => ?_⟩
  obtain ⟨n, n1, n12, rfl⟩ : ∃ n : Nat, 1 ≤ n ∧ n ≤ 12 ∧ d = D.int (n : Int) := by
    simp only [List.mem_cons, List.not_mem_nil, or_false] at hd
    rcases hd with rfl | rfl | rfl | rfl | rfl | rfl | rfl | rfl
    · exact ⟨1, by omega, by omega, rfl⟩
    · exact ⟨2, by omega, by omega, rfl⟩
    · exact ⟨3, by omega, by omega, rfl⟩
    · exact ⟨3, by omega, by omega, rfl⟩
    · exact ⟨4, by omega, by omega, rfl⟩
    · exact ⟨5, by omega, by omega, rfl⟩
    · exact ⟨6, by omega, by omega, rfl⟩
    · exact ⟨12, by omega, by omega, rfl⟩
  have u2 := (Up.new (o := .lst []) u1.pool hK (by intro _ z; cases z)).trans (u1.trans u0)
  refine dFor_g fun F1 T1 h1 t1 => ?_; simp only [dFor, dC, dOp, dTest, dChain, dAnd, dOr, dNot, dAndV, dOrV, dNotV, dIf, dNil, dCons, dTup, dLst, dCB, d1, dIx, dNoPart, dPart, dSl, dCut, dNeg, dLen, dTupOf, dListOf, dSorted, dSum, dAll, dAny, dInt, dAbs, dMax, dMin, dIsi, isT, dNext, dSeq, dBrk, dCont, dNever, dExpr, dRet, dRetN, dIfS, dAsg, dPutI, dI0, dI, dIsN, dNotN, dSeqI, dRng1, dRng2, dRngDn, dEnumI, dZipI, dYes, dCall, dLM, dAppend, dExtend, dReverse, dInsert, dAugI, dRg1, dRg2, dTupRg, dLstRg, dNewK, dNewT, ↓S0_, ↓S1_, ↓S2_, ↓S3_, ↓S4_, ↓S5_, ↓S6_, List.map_cons, List.map_nil, List.length_cons, List.length_nil, List.replicate, List.cons_append, List.nil_append, Nat.reduceAdd, Nat.reduceSub, Nat.zero_add, List.getElem?_cons_zero, List.getElem?_cons_succ, Option.some.injEq, exists_eq_left, exists_eq_left', List.set_cons_zero, List.set_cons_succ, wipeD, D.int.injEq, D.bl.injEq, D.str.injEq, D.ref.injEq, D.tup.injEq, D.ty.injEq, true_and, and_true, forall_const, forall_eq', forall_eq, mt_int, mt_bool, mt_str, mt_tuple, mt_list, mt_dict, st_int_int, st_int_bool, st_int_str, st_int_tuple, st_int_list, st_int_dict, st_bool_int, st_bool_bool, st_bool_str, st_bool_tuple, st_bool_list, st_bool_dict, st_str_int, st_str_bool, st_str_str, st_str_tuple, st_str_list, st_str_dict, st_tuple_int, st_tuple_bool, st_tuple_str, st_tuple_tuple, st_tuple_list, st_tuple_dict, st_list_int, st_list_bool, st_list_str, st_list_tuple, st_list_list, st_list_dict, st_dict_int, st_dict_bool, st_dict_str, st_dict_tuple, st_dict_list, st_dict_dict, eq_self, Bool.true_eq_false, Bool.false_eq_true, false_implies, true_implies, implies_true, decide_eq_true_eq, decide_eq_false_iff_not, Bool.not_true, Bool.not_false, Bool.not_eq_true, Bool.not_eq_false, Bool.not_eq_true', Bool.not_eq_false', not_true_eq_false, not_false_eq_true, false_and, and_false, or_false, false_or, reduceCtorEq, ↓exLSu, ↓exDKu, ↓exDKd, ↓exLSd, ↓exLu, ↓dIxRu, ↓dPutu, ↓dGetAu, ↓dEq_int, ↓dNe_int, ↓dEq_bl, ↓dNe_bl, ↓dEq_str, ↓dNe_str, ↓dAdd_int, ↓exAt10, ↓exIx10, ↓exAt20, ↓exIx20, ↓exAt21, ↓exIx21, ↓exAt30, ↓exIx30, ↓exAt31, ↓exIx31, ↓exAt32, ↓exIx32, ↓exAt40, ↓exIx40, ↓exAt41, ↓exIx41, ↓exAt42, ↓exIx42, ↓exAt43, ↓exIx43, ↓exAt50, ↓exIx50, ↓exAt51, ↓exIx51, ↓exAt52, ↓exIx52, ↓exAt53, ↓exIx53, ↓exAt54, ↓exIx54, ↓exAt60, ↓exIx60, ↓exAt61, ↓exIx61, ↓exAt62, ↓exIx62, ↓exAt63, ↓exIx63, ↓exAt64, ↓exIx64, ↓exAt65, ↓exIx65, up_up, false_or, or_false, ↓exAtM, ↓dFlag_bl, ↓exBl, ↓exInt, ↓exRef, ↓dVar0, ↓dAug0, ↓dSet0, ↓dTgN0, ↓dTgW0, ↓dVar1, ↓dAug1, ↓dSet1, ↓dTgN1, ↓dTgW1, ↓dVar2, ↓dAug2, ↓dSet2, ↓dTgN2, ↓dTgW2, ↓dVar3, ↓dAug3, ↓dSet3, ↓dTgN3, ↓dTgW3, ↓dVar4, ↓dAug4, ↓dSet4, ↓dTgN4, ↓dTgW4, ↓dVar5, ↓dAug5, ↓dSet5, ↓dTgN5, ↓dTgW5, ↓dVar6, ↓dAug6, ↓dSet6, ↓dTgN6, ↓dTgW6, ↓dVar7, ↓dAug7, ↓dSet7, ↓dTgN7, ↓dTgW7, ↓dVar8, ↓dAug8, ↓dSet8, ↓dTgN8, ↓dTgW8, ↓dVar9, ↓dAug9, ↓dSet9, ↓dTgN9, ↓dTgW9, ↓dVar10, ↓dAug10, ↓dSet10, ↓dTgN10, ↓dTgW10, ↓dVar11, ↓dAug11, ↓dSet11, ↓dTgN11, ↓dTgW11, ↓dVar12, ↓dAug12, ↓dSet12, ↓dTgN12, ↓dTgW12, ↓dVar13, ↓dAug13, ↓dSet13, ↓dTgN13, ↓dTgW13, ↓dVar14, ↓dAug14, ↓dSet14, ↓dTgN14, ↓dTgW14, ↓dVar15, ↓dAug15, ↓dSet15, ↓dTgN15, ↓dTgW15, ↓dVar16, ↓dAug16, ↓dSet16, ↓dTgN16, ↓dTgW16, ↓dVar17, ↓dAug17, ↓dSet17, ↓dTgN17, ↓dTgW17, ↓dVar18, ↓dAug18, ↓dSet18, ↓dTgN18, ↓dTgW18, ↓dVar19, ↓dAug19, ↓dSet19, ↓dTgN19, ↓dTgW19, ↓dTg_t2, ↓dTg_t3, ↓exGetM, ↓exSumU, nD, plD, rwD, ↓dAdd_tup, ↓dAdd_ref, dSIndex, dInS, dKeysI, dValsI, dItemsI, dMulS, dEqK, dNeK, dClrK, dCntS]
  simp (config := {failIfUnchanged := false}) only [dC, dOp, dTest, dChain, dAnd, dOr, dNot, dAndV, dOrV, dNotV, dIf, dNil, dCons, dTup, dLst, dCB, d1, dIx, dNoPart, dPart, dSl, dCut, dNeg, dLen, dTupOf, dListOf, dSorted, dSum, dAll, dAny, dInt, dAbs, dMax, dMin, dIsi, isT, dNext, dSeq, dBrk, dCont, dNever, dExpr, dRet, dRetN, dIfS, dAsg, dPutI, dI0, dI, dIsN, dNotN, dSeqI, dRng1, dRng2, dRngDn, dEnumI, dZipI, dYes, dCall, dLM, dAppend, dExtend, dReverse, dInsert, dAugI, dRg1, dRg2, dTupRg, dLstRg, dNewK, dNewT, ↓S0_, ↓S1_, ↓S2_, ↓S3_, ↓S4_, ↓S5_, ↓S6_, List.map_cons, List.map_nil, List.length_cons, List.length_nil, List.replicate, List.cons_append, List.nil_append, Nat.reduceAdd, Nat.reduceSub, Nat.zero_add, List.getElem?_cons_zero, List.getElem?_cons_succ, Option.some.injEq, exists_eq_left, exists_eq_left', List.set_cons_zero, List.set_cons_succ, wipeD, D.int.injEq, D.bl.injEq, D.str.injEq, D.ref.injEq, D.tup.injEq, D.ty.injEq, true_and, and_true, forall_const, forall_eq', forall_eq, mt_int, mt_bool, mt_str, mt_tuple, mt_list, mt_dict, st_int_int, st_int_bool, st_int_str, st_int_tuple, st_int_list, st_int_dict, st_bool_int, st_bool_bool, st_bool_str, st_bool_tuple, st_bool_list, st_bool_dict, st_str_int, st_str_bool, st_str_str, st_str_tuple, st_str_list, st_str_dict, st_tuple_int, st_tuple_bool, st_tuple_str, st_tuple_tuple, st_tuple_list, st_tuple_dict, st_list_int, st_list_bool, st_list_str, st_list_tuple, st_list_list, st_list_dict, st_dict_int, st_dict_bool, st_dict_str, st_dict_tuple, st_dict_list, st_dict_dict, eq_self, Bool.true_eq_false, Bool.false_eq_true, false_implies, true_implies, implies_true, decide_eq_true_eq, decide_eq_false_iff_not, Bool.not_true, Bool.not_false, Bool.not_eq_true, Bool.not_eq_false, Bool.not_eq_true', Bool.not_eq_false', not_true_eq_false, not_false_eq_true, false_and, and_false, or_false, false_or, reduceCtorEq, ↓exLSu, ↓exDKu, ↓exDKd, ↓exLSd, ↓exLu, ↓dIxRu, ↓dPutu, ↓dGetAu, ↓dEq_int, ↓dNe_int, ↓dEq_bl, ↓dNe_bl, ↓dEq_str, ↓dNe_str, ↓dAdd_int, ↓exAt10, ↓exIx10, ↓exAt20, ↓exIx20, ↓exAt21, ↓exIx21, ↓exAt30, ↓exIx30, ↓exAt31, ↓exIx31, ↓exAt32, ↓exIx32, ↓exAt40, ↓exIx40, ↓exAt41, ↓exIx41, ↓exAt42, ↓exIx42, ↓exAt43, ↓exIx43, ↓exAt50, ↓exIx50, ↓exAt51, ↓exIx51, ↓exAt52, ↓exIx52, ↓exAt53, ↓exIx53, ↓exAt54, ↓exIx54, ↓exAt60, ↓exIx60, ↓exAt61, ↓exIx61, ↓exAt62, ↓exIx62, ↓exAt63, ↓exIx63, ↓exAt64, ↓exIx64, ↓exAt65, ↓exIx65, up_up, false_or, or_false, ↓exAtM, ↓dFlag_bl, ↓exBl, ↓exInt, ↓exRef, ↓dVar0, ↓dAug0, ↓dSet0, ↓dTgN0, ↓dTgW0, ↓dVar1, ↓dAug1, ↓dSet1, ↓dTgN1, ↓dTgW1, ↓dVar2, ↓dAug2, ↓dSet2, ↓dTgN2, ↓dTgW2, ↓dVar3, ↓dAug3, ↓dSet3, ↓dTgN3, ↓dTgW3, ↓dVar4, ↓dAug4, ↓dSet4, ↓dTgN4, ↓dTgW4, ↓dVar5, ↓dAug5, ↓dSet5, ↓dTgN5, ↓dTgW5, ↓dVar6, ↓dAug6, ↓dSet6, ↓dTgN6, ↓dTgW6, ↓dVar7, ↓dAug7, ↓dSet7, ↓dTgN7, ↓dTgW7, ↓dVar8, ↓dAug8, ↓dSet8, ↓dTgN8, ↓dTgW8, ↓dVar9, ↓dAug9, ↓dSet9, ↓dTgN9, ↓dTgW9, ↓dVar10, ↓dAug10, ↓dSet10, ↓dTgN10, ↓dTgW10, ↓dVar11, ↓dAug11, ↓dSet11, ↓dTgN11, ↓dTgW11, ↓dVar12, ↓dAug12, ↓dSet12, ↓dTgN12, ↓dTgW12, ↓dVar13, ↓dAug13, ↓dSet13, ↓dTgN13, ↓dTgW13, ↓dVar14, ↓dAug14, ↓dSet14, ↓dTgN14, ↓dTgW14, ↓dVar15, ↓dAug15, ↓dSet15, ↓dTgN15, ↓dTgW15, ↓dVar16, ↓dAug16, ↓dSet16, ↓dTgN16, ↓dTgW16, ↓dVar17, ↓dAug17, ↓dSet17, ↓dTgN17, ↓dTgW17, ↓dVar18, ↓dAug18, ↓dSet18, ↓dTgN18, ↓dTgW18, ↓dVar19, ↓dAug19, ↓dSet19, ↓dTgN19, ↓dTgW19, ↓dTg_t2, ↓dTg_t3, ↓exGetM, ↓exSumU, nD, plD, rwD, ↓dAdd_tup, ↓dAdd_ref, dSIndex, dInS, dKeysI, dValsI, dItemsI, dMulS, dEqK, dNeK, dClrK, dCntS]
  rw [rng0]
  refine ⟨by omega, forN (fun i δ M' => Up M' M x ∧ ∃ ks : List Str, M' K = some (.lst (ks.map D.str)) ∧ ks.length = i ∧ (∀ k ∈ ks, Sml k) ∧ ∃ a4 a9 a10 : Option D, δ = [some x, some (nD n), some (.str (Str.ofString "abcdefghijklmnopqrstuvwxyz")), some (.ref K), a4, none, none, none, none, a9, a10, none, none, none]) ⟨u2, [], up_same, rfl, by simp, _, _, _, rfl⟩ ?_ ?_⟩
  · rintro i z δ' M2 pre P' hz ⟨u3, ks, hK2, hkl, hks, a4, a9, a10, rfl⟩ hP
    obtain ⟨hi, rfl⟩ := rgx hz
    subst t1
    simp (config := {failIfUnchanged := false}) only [dC, dOp, dTest, dChain, dAnd, dOr, dNot, dAndV, dOrV, dNotV, dIf, dNil, dCons, dTup, dLst, dCB, d1, dIx, dNoPart, dPart, dSl, dCut, dNeg, dLen, dTupOf, dListOf, dSorted, dSum, dAll, dAny, dInt, dAbs, dMax, dMin, dIsi, isT, dNext, dSeq, dBrk, dCont, dNever, dExpr, dRet, dRetN, dIfS, dAsg, dPutI, dI0, dI, dIsN, dNotN, dSeqI, dRng1, dRng2, dRngDn, dEnumI, dZipI, dYes, dCall, dLM, dAppend, dExtend, dReverse, dInsert, dAugI, dRg1, dRg2, dTupRg, dLstRg, dNewK, dNewT, ↓S0_, ↓S1_, ↓S2_, ↓S3_, ↓S4_, ↓S5_, ↓S6_, List.map_cons, List.map_nil, List.length_cons, List.length_nil, List.replicate, List.cons_append, List.nil_append, Nat.reduceAdd, Nat.reduceSub, Nat.zero_add, List.getElem?_cons_zero, List.getElem?_cons_succ, Option.some.injEq, exists_eq_left, exists_eq_left', List.set_cons_zero, List.set_cons_succ, wipeD, D.int.injEq, D.bl.injEq, D.str.injEq, D.ref.injEq, D.tup.injEq, D.ty.injEq, true_and, and_true, forall_const, forall_eq', forall_eq, mt_int, mt_bool, mt_str, mt_tuple, mt_list, mt_dict, st_int_int, st_int_bool, st_int_str, st_int_tuple, st_int_list, st_int_dict, st_bool_int, st_bool_bool, st_bool_str, st_bool_tuple, st_bool_list, st_bool_dict, st_str_int, st_str_bool, st_str_str, st_str_tuple, st_str_list, st_str_dict, st_tuple_int, st_tuple_bool, st_tuple_str, st_tuple_tuple, st_tuple_list, st_tuple_dict, st_list_int, st_list_bool, st_list_str, st_list_tuple, st_list_list, st_list_dict, st_dict_int, st_dict_bool, st_dict_str, st_dict_tuple, st_dict_list, st_dict_dict, eq_self, Bool.true_eq_false, Bool.false_eq_true, false_implies, true_implies, implies_true, decide_eq_true_eq, decide_eq_false_iff_not, Bool.not_true, Bool.not_false, Bool.not_eq_true, Bool.not_eq_false, Bool.not_eq_true', Bool.not_eq_false', not_true_eq_false, not_false_eq_true, false_and, and_false, or_false, false_or, reduceCtorEq, ↓exLSu, ↓exDKu, ↓exDKd, ↓exLSd, ↓exLu, ↓dIxRu, ↓dPutu, ↓dGetAu, ↓dEq_int, ↓dNe_int, ↓dEq_bl, ↓dNe_bl, ↓dEq_str, ↓dNe_str, ↓dAdd_int, ↓exAt10, ↓exIx10, ↓exAt20, ↓exIx20, ↓exAt21, ↓exIx21, ↓exAt30, ↓exIx30, ↓exAt31, ↓exIx31, ↓exAt32, ↓exIx32, ↓exAt40, ↓exIx40, ↓exAt41, ↓exIx41, ↓exAt42, ↓exIx42, ↓exAt43, ↓exIx43, ↓exAt50, ↓exIx50, ↓exAt51, ↓exIx51, ↓exAt52, ↓exIx52, ↓exAt53, ↓exIx53, ↓exAt54, ↓exIx54, ↓exAt60, ↓exIx60, ↓exAt61, ↓exIx61, ↓exAt62, ↓exIx62, ↓exAt63, ↓exIx63, ↓exAt64, ↓exIx64, ↓exAt65, ↓exIx65, up_up, false_or, or_false, ↓exAtM, ↓dFlag_bl, ↓exBl, ↓exInt, ↓exRef, ↓dVar0, ↓dAug0, ↓dSet0, ↓dTgN0, ↓dTgW0, ↓dVar1, ↓dAug1, ↓dSet1, ↓dTgN1, ↓dTgW1, ↓dVar2, ↓dAug2, ↓dSet2, ↓dTgN2, ↓dTgW2, ↓dVar3, ↓dAug3, ↓dSet3, ↓dTgN3, ↓dTgW3, ↓dVar4, ↓dAug4, ↓dSet4, ↓dTgN4, ↓dTgW4, ↓dVar5, ↓dAug5, ↓dSet5, ↓dTgN5, ↓dTgW5, ↓dVar6, ↓dAug6, ↓dSet6, ↓dTgN6, ↓dTgW6, ↓dVar7, ↓dAug7, ↓dSet7, ↓dTgN7, ↓dTgW7, ↓dVar8, ↓dAug8, ↓dSet8, ↓dTgN8, ↓dTgW8, ↓dVar9, ↓dAug9, ↓dSet9, ↓dTgN9, ↓dTgW9, ↓dVar10, ↓dAug10, ↓dSet10, ↓dTgN10, ↓dTgW10, ↓dVar11, ↓dAug11, ↓dSet11, ↓dTgN11, ↓dTgW11, ↓dVar12, ↓dAug12, ↓dSet12, ↓dTgN12, ↓dTgW12, ↓dVar13, ↓dAug13, ↓dSet13, ↓dTgN13, ↓dTgW13, ↓dVar14, ↓dAug14, ↓dSet14, ↓dTgN14, ↓dTgW14, ↓dVar15, ↓dAug15, ↓dSet15, ↓dTgN15, ↓dTgW15, ↓dVar16, ↓dAug16, ↓dSet16, ↓dTgN16, ↓dTgW16, ↓dVar17, ↓dAug17, ↓dSet17, ↓dTgN17, ↓dTgW17, ↓dVar18, ↓dAug18, ↓dSet18, ↓dTgN18, ↓dTgW18, ↓dVar19, ↓dAug19, ↓dSet19, ↓dTgN19, ↓dTgW19, ↓dTg_t2, ↓dTg_t3, ↓exGetM, ↓exSumU, nD, plD, rwD, ↓dAdd_tup, ↓dAdd_ref, dSIndex, dInS, dKeysI, dValsI, dItemsI, dMulS, dEqK, dNeK, dClrK, dCntS]
    refine dFor_g fun F2 T2 h2 t2 => ?_; simp only [dFor, dC, dOp, dTest, dChain, dAnd, dOr, dNot, dAndV, dOrV, dNotV, dIf, dNil, dCons, dTup, dLst, dCB, d1, dIx, dNoPart, dPart, dSl, dCut, dNeg, dLen, dTupOf, dListOf, dSorted, dSum, dAll, dAny, dInt, dAbs, dMax, dMin, dIsi, isT, dNext, dSeq, dBrk, dCont, dNever, dExpr, dRet, dRetN, dIfS, dAsg, dPutI, dI0, dI, dIsN, dNotN, dSeqI, dRng1, dRng2, dRngDn, dEnumI, dZipI, dYes, dCall, dLM, dAppend, dExtend, dReverse, dInsert, dAugI, dRg1, dRg2, dTupRg, dLstRg, dNewK, dNewT, ↓S0_, ↓S1_, ↓S2_, ↓S3_, ↓S4_, ↓S5_, ↓S6_, List.map_cons, List.map_nil, List.length_cons, List.length_nil, List.replicate, List.cons_append, List.nil_append, Nat.reduceAdd, Nat.reduceSub, Nat.zero_add, List.getElem?_cons_zero, List.getElem?_cons_succ, Option.some.injEq, exists_eq_left, exists_eq_left', List.set_cons_zero, List.set_cons_succ, wipeD, D.int.injEq, D.bl.injEq, D.str.injEq, D.ref.injEq, D.tup.injEq, D.ty.injEq, true_and, and_true, forall_const, forall_eq', forall_eq, mt_int, mt_bool, mt_str, mt_tuple, mt_list, mt_dict, st_int_int, st_int_bool, st_int_str, st_int_tuple, st_int_list, st_int_dict, st_bool_int, st_bool_bool, st_bool_str, st_bool_tuple, st_bool_list, st_bool_dict, st_str_int, st_str_bool, st_str_str, st_str_tuple, st_str_list, st_str_dict, st_tuple_int, st_tuple_bool, st_tuple_str, st_tuple_tuple, st_tuple_list, st_tuple_dict, st_list_int, st_list_bool, st_list_str, st_list_tuple, st_list_list, st_list_dict, st_dict_int, st_dict_bool, st_dict_str, st_dict_tuple, st_dict_list, st_dict_dict, eq_self, Bool.true_eq_false, Bool.false_eq_true, false_implies, true_implies, implies_true, decide_eq_true_eq, decide_eq_false_iff_not, Bool.not_true, Bool.not_false, Bool.not_eq_true, Bool.not_eq_false, Bool.not_eq_true', Bool.not_eq_false', not_true_eq_false, not_false_eq_true, false_and, and_false, or_false, false_or, reduceCtorEq, ↓exLSu, ↓exDKu, ↓exDKd, ↓exLSd, ↓exLu, ↓dIxRu, ↓dPutu, ↓dGetAu, ↓dEq_int, ↓dNe_int, ↓dEq_bl, ↓dNe_bl, ↓dEq_str, ↓dNe_str, ↓dAdd_int, ↓exAt10, ↓exIx10, ↓exAt20, ↓exIx20, ↓exAt21, ↓exIx21, ↓exAt30, ↓exIx30, ↓exAt31, ↓exIx31, ↓exAt32, ↓exIx32, ↓exAt40, ↓exIx40, ↓exAt41, ↓exIx41, ↓exAt42, ↓exIx42, ↓exAt43, ↓exIx43, ↓exAt50, ↓exIx50, ↓exAt51, ↓exIx51, ↓exAt52, ↓exIx52, ↓exAt53, ↓exIx53, ↓exAt54, ↓exIx54, ↓exAt60, ↓exIx60, ↓exAt61, ↓exIx61, ↓exAt62, ↓exIx62, ↓exAt63, ↓exIx63, ↓exAt64, ↓exIx64, ↓exAt65, ↓exIx65, up_up, false_or, or_false, ↓exAtM, ↓dFlag_bl, ↓exBl, ↓exInt, ↓exRef, ↓dVar0, ↓dAug0, ↓dSet0, ↓dTgN0, ↓dTgW0, ↓dVar1, ↓dAug1, ↓dSet1, ↓dTgN1, ↓dTgW1, ↓dVar2, ↓dAug2, ↓dSet2, ↓dTgN2, ↓dTgW2, ↓dVar3, ↓dAug3, ↓dSet3, ↓dTgN3, ↓dTgW3, ↓dVar4, ↓dAug4, ↓dSet4, ↓dTgN4, ↓dTgW4, ↓dVar5, ↓dAug5, ↓dSet5, ↓dTgN5, ↓dTgW5, ↓dVar6, ↓dAug6, ↓dSet6, ↓dTgN6, ↓dTgW6, ↓dVar7, ↓dAug7, ↓dSet7, ↓dTgN7, ↓dTgW7, ↓dVar8, ↓dAug8, ↓dSet8, ↓dTgN8, ↓dTgW8, ↓dVar9, ↓dAug9, ↓dSet9, ↓dTgN9, ↓dTgW9, ↓dVar10, ↓dAug10, ↓dSet10, ↓dTgN10, ↓dTgW10, ↓dVar11, ↓dAug11, ↓dSet11, ↓dTgN11, ↓dTgW11, ↓dVar12, ↓dAug12, ↓dSet12, ↓dTgN12, ↓dTgW12, ↓dVar13, ↓dAug13, ↓dSet13, ↓dTgN13, ↓dTgW13, ↓dVar14, ↓dAug14, ↓dSet14, ↓dTgN14, ↓dTgW14, ↓dVar15, ↓dAug15, ↓dSet15, ↓dTgN15, ↓dTgW15, ↓dVar16, ↓dAug16, ↓dSet16, ↓dTgN16, ↓dTgW16, ↓dVar17, ↓dAug17, ↓dSet17, ↓dTgN17, ↓dTgW17, ↓dVar18, ↓dAug18, ↓dSet18, ↓dTgN18, ↓dTgW18, ↓dVar19, ↓dAug19, ↓dSet19, ↓dTgN19, ↓dTgW19, ↓dTg_t2, ↓dTg_t3, ↓exGetM, ↓exSumU, nD, plD, rwD, ↓dAdd_tup, ↓dAdd_ref, dSIndex, dInS, dKeysI, dValsI, dItemsI, dMulS, dEqK, dNeK, dClrK, dCntS]
    simp (config := {failIfUnchanged := false}) only [dC, dOp, dTest, dChain, dAnd, dOr, dNot, dAndV, dOrV, dNotV, dIf, dNil, dCons, dTup, dLst, dCB, d1, dIx, dNoPart, dPart, dSl, dCut, dNeg, dLen, dTupOf, dListOf, dSorted, dSum, dAll, dAny, dInt, dAbs, dMax, dMin, dIsi, isT, dNext, dSeq, dBrk, dCont, dNever, dExpr, dRet, dRetN, dIfS, dAsg, dPutI, dI0, dI, dIsN, dNotN, dSeqI, dRng1, dRng2, dRngDn, dEnumI, dZipI, dYes, dCall, dLM, dAppend, dExtend, dReverse, dInsert, dAugI, dRg1, dRg2, dTupRg, dLstRg, dNewK, dNewT, ↓S0_, ↓S1_, ↓S2_, ↓S3_, ↓S4_, ↓S5_, ↓S6_, List.map_cons, List.map_nil, List.length_cons, List.length_nil, List.replicate, List.cons_append, List.nil_append, Nat.reduceAdd, Nat.reduceSub, Nat.zero_add, List.getElem?_cons_zero, List.getElem?_cons_succ, Option.some.injEq, exists_eq_left, exists_eq_left', List.set_cons_zero, List.set_cons_succ, wipeD, D.int.injEq, D.bl.injEq, D.str.injEq, D.ref.injEq, D.tup.injEq, D.ty.injEq, true_and, and_true, forall_const, forall_eq', forall_eq, mt_int, mt_bool, mt_str, mt_tuple, mt_list, mt_dict, st_int_int, st_int_bool, st_int_str, st_int_tuple, st_int_list, st_int_dict, st_bool_int, st_bool_bool, st_bool_str, st_bool_tuple, st_bool_list, st_bool_dict, st_str_int, st_str_bool, st_str_str, st_str_tuple, st_str_list, st_str_dict, st_tuple_int, st_tuple_bool, st_tuple_str, st_tuple_tuple, st_tuple_list, st_tuple_dict, st_list_int, st_list_bool, st_list_str, st_list_tuple, st_list_list, st_list_dict, st_dict_int, st_dict_bool, st_dict_str, st_dict_tuple, st_dict_list, st_dict_dict, eq_self, Bool.true_eq_false, Bool.false_eq_true, false_implies, true_implies, implies_true, decide_eq_true_eq, decide_eq_false_iff_not, Bool.not_true, Bool.not_false, Bool.not_eq_true, Bool.not_eq_false, Bool.not_eq_true', Bool.not_eq_false', not_true_eq_false, not_false_eq_true, false_and, and_false, or_false, false_or, reduceCtorEq, ↓exLSu, ↓exDKu, ↓exDKd, ↓exLSd, ↓exLu, ↓dIxRu, ↓dPutu, ↓dGetAu, ↓dEq_int, ↓dNe_int, ↓dEq_bl, ↓dNe_bl, ↓dEq_str, ↓dNe_str, ↓dAdd_int, ↓exAt10, ↓exIx10, ↓exAt20, ↓exIx20, ↓exAt21, ↓exIx21, ↓exAt30, ↓exIx30, ↓exAt31, ↓exIx31, ↓exAt32, ↓exIx32, ↓exAt40, ↓exIx40, ↓exAt41, ↓exIx41, ↓exAt42, ↓exIx42, ↓exAt43, ↓exIx43, ↓exAt50, ↓exIx50, ↓exAt51, ↓exIx51, ↓exAt52, ↓exIx52, ↓exAt53, ↓exIx53, ↓exAt54, ↓exIx54, ↓exAt60, ↓exIx60, ↓exAt61, ↓exIx61, ↓exAt62, ↓exIx62, ↓exAt63, ↓exIx63, ↓exAt64, ↓exIx64, ↓exAt65, ↓exIx65, up_up, false_or, or_false, ↓exAtM, ↓dFlag_bl, ↓exBl, ↓exInt, ↓exRef, ↓dVar0, ↓dAug0, ↓dSet0, ↓dTgN0, ↓dTgW0, ↓dVar1, ↓dAug1, ↓dSet1, ↓dTgN1, ↓dTgW1, ↓dVar2, ↓dAug2, ↓dSet2, ↓dTgN2, ↓dTgW2, ↓dVar3, ↓dAug3, ↓dSet3, ↓dTgN3, ↓dTgW3, ↓dVar4, ↓dAug4, ↓dSet4, ↓dTgN4, ↓dTgW4, ↓dVar5, ↓dAug5, ↓dSet5, ↓dTgN5, ↓dTgW5, ↓dVar6, ↓dAug6, ↓dSet6, ↓dTgN6, ↓dTgW6, ↓dVar7, ↓dAug7, ↓dSet7, ↓dTgN7, ↓dTgW7, ↓dVar8, ↓dAug8, ↓dSet8, ↓dTgN8, ↓dTgW8, ↓dVar9, ↓dAug9, ↓dSet9, ↓dTgN9, ↓dTgW9, ↓dVar10, ↓dAug10, ↓dSet10, ↓dTgN10, ↓dTgW10, ↓dVar11, ↓dAug11, ↓dSet11, ↓dTgN11, ↓dTgW11, ↓dVar12, ↓dAug12, ↓dSet12, ↓dTgN12, ↓dTgW12, ↓dVar13, ↓dAug13, ↓dSet13, ↓dTgN13, ↓dTgW13, ↓dVar14, ↓dAug14, ↓dSet14, ↓dTgN14, ↓dTgW14, ↓dVar15, ↓dAug15, ↓dSet15, ↓dTgN15, ↓dTgW15, ↓dVar16, ↓dAug16, ↓dSet16, ↓dTgN16, ↓dTgW16, ↓dVar17, ↓dAug17, ↓dSet17, ↓dTgN17, ↓dTgW17, ↓dVar18, ↓dAug18, ↓dSet18, ↓dTgN18, ↓dTgW18, ↓dVar19, ↓dAug19, ↓dSet19, ↓dTgN19, ↓dTgW19, ↓dTg_t2, ↓dTg_t3, ↓exGetM, ↓exSumU, nD, plD, rwD, ↓dAdd_tup, ↓dAdd_ref, dSIndex, dInS, dKeysI, dValsI, dItemsI, dMulS, dEqK, dNeK, dClrK, dCntS]
    intro f2 hf2
    have u4 := Up.new (o := .lst [D.int 1, D.int 1, D.int 2, D.int 8]) u3.pool hf2 (by intro _ z; cases z)
    refine ⟨f2, _, rfl, up_same, by simp, by simp, u4.pool, fun d M3 hd u5 => ?_⟩
    obtain ⟨w, w1, w8, rfl⟩ : ∃ n : Nat, 1 ≤ n ∧ n ≤ 8 ∧ d = D.int (n : Int) := by
      simp only [List.mem_cons, List.not_mem_nil, or_false] at hd
      rcases hd with rfl | rfl | rfl | rfl
      · exact ⟨1, by omega, by omega, rfl⟩
      · exact ⟨1, by omega, by omega, rfl⟩
      · exact ⟨2, by omega, by omega, rfl⟩
      · exact ⟨8, by omega, by omega, rfl⟩
    have u6 := u5.trans u4
    have hK3 := u6.keep _ _ hK2 nofun
    have u7 := u6.trans u3
    show (_ ∧ _) ∧ _
    rw [rng0]
    refine ⟨by omega, forN (fun j δ M' => Up M' M3 x ∧ ∃ (s : Str) (a10 : Option D), s.length = j ∧ (∀ c ∈ s.cps.toList, 97 ≤ c ∧ c ≤ 122) ∧ δ = [some x, some (nD n), some (.str (Str.ofString "abcdefghijklmnopqrstuvwxyz")), some (.ref K), some (nD i), none, none, none, none, some (.str s), a10, none, none, none]) ⟨Up.refl u5.pool, _, _, rfl, by decide, rfl⟩ ?_ ?_⟩
    · rintro j z δ' M4 pre2 P2 hz2 ⟨u8, s, a10, hs1, hs2, rfl⟩ hP2
      obtain ⟨hj, rfl⟩ := rgx hz2
      subst t2
      simp (config := {failIfUnchanged := false}) only [dC, dOp, dTest, dChain, dAnd, dOr, dNot, dAndV, dOrV, dNotV, dIf, dNil, dCons, dTup, dLst, dCB, d1, dIx, dNoPart, dPart, dSl, dCut, dNeg, dLen, dTupOf, dListOf, dSorted, dSum, dAll, dAny, dInt, dAbs, dMax, dMin, dIsi, isT, dNext, dSeq, dBrk, dCont, dNever, dExpr, dRet, dRetN, dIfS, dAsg, dPutI, dI0, dI, dIsN, dNotN, dSeqI, dRng1, dRng2, dRngDn, dEnumI, dZipI, dYes, dCall, dLM, dAppend, dExtend, dReverse, dInsert, dAugI, dRg1, dRg2, dTupRg, dLstRg, dNewK, dNewT, ↓S0_, ↓S1_, ↓S2_, ↓S3_, ↓S4_, ↓S5_, ↓S6_, List.map_cons, List.map_nil, List.length_cons, List.length_nil, List.replicate, List.cons_append, List.nil_append, Nat.reduceAdd, Nat.reduceSub, Nat.zero_add, List.getElem?_cons_zero, List.getElem?_cons_succ, Option.some.injEq, exists_eq_left, exists_eq_left', List.set_cons_zero, List.set_cons_succ, wipeD, D.int.injEq, D.bl.injEq, D.str.injEq, D.ref.injEq, D.tup.injEq, D.ty.injEq, true_and, and_true, forall_const, forall_eq', forall_eq, mt_int, mt_bool, mt_str, mt_tuple, mt_list, mt_dict, st_int_int, st_int_bool, st_int_str, st_int_tuple, st_int_list, st_int_dict, st_bool_int, st_bool_bool, st_bool_str, st_bool_tuple, st_bool_list, st_bool_dict, st_str_int, st_str_bool, st_str_str, st_str_tuple, st_str_list, st_str_dict, st_tuple_int, st_tuple_bool, st_tuple_str, st_tuple_tuple, st_tuple_list, st_tuple_dict, st_list_int, st_list_bool, st_list_str, st_list_tuple, st_list_list, st_list_dict, st_dict_int, st_dict_bool, st_dict_str, st_dict_tuple, st_dict_list, st_dict_dict, eq_self, Bool.true_eq_false, Bool.false_eq_true, false_implies, true_implies, implies_true, decide_eq_true_eq, decide_eq_false_iff_not, Bool.not_true, Bool.not_false, Bool.not_eq_true, Bool.not_eq_false, Bool.not_eq_true', Bool.not_eq_false', not_true_eq_false, not_false_eq_true, false_and, and_false, or_false, false_or, reduceCtorEq, ↓exLSu, ↓exDKu, ↓exDKd, ↓exLSd, ↓exLu, ↓dIxRu, ↓dPutu, ↓dGetAu, ↓dEq_int, ↓dNe_int, ↓dEq_bl, ↓dNe_bl, ↓dEq_str, ↓dNe_str, ↓dAdd_int, ↓exAt10, ↓exIx10, ↓exAt20, ↓exIx20, ↓exAt21, ↓exIx21, ↓exAt30, ↓exIx30, ↓exAt31, ↓exIx31, ↓exAt32, ↓exIx32, ↓exAt40, ↓exIx40, ↓exAt41, ↓exIx41, ↓exAt42, ↓exIx42, ↓exAt43, ↓exIx43, ↓exAt50, ↓exIx50, ↓exAt51, ↓exIx51, ↓exAt52, ↓exIx52, ↓exAt53, ↓exIx53, ↓exAt54, ↓exIx54, ↓exAt60, ↓exIx60, ↓exAt61, ↓exIx61, ↓exAt62, ↓exIx62, ↓exAt63, ↓exIx63, ↓exAt64, ↓exIx64, ↓exAt65, ↓exIx65, up_up, false_or, or_false, ↓exAtM, ↓dFlag_bl, ↓exBl, ↓exInt, ↓exRef, ↓dVar0, ↓dAug0, ↓dSet0, ↓dTgN0, ↓dTgW0, ↓dVar1, ↓dAug1, ↓dSet1, ↓dTgN1, ↓dTgW1, ↓dVar2, ↓dAug2, ↓dSet2, ↓dTgN2, ↓dTgW2, ↓dVar3, ↓dAug3, ↓dSet3, ↓dTgN3, ↓dTgW3, ↓dVar4, ↓dAug4, ↓dSet4, ↓dTgN4, ↓dTgW4, ↓dVar5, ↓dAug5, ↓dSet5, ↓dTgN5, ↓dTgW5, ↓dVar6, ↓dAug6, ↓dSet6, ↓dTgN6, ↓dTgW6, ↓dVar7, ↓dAug7, ↓dSet7, ↓dTgN7, ↓dTgW7, ↓dVar8, ↓dAug8, ↓dSet8, ↓dTgN8, ↓dTgW8, ↓dVar9, ↓dAug9, ↓dSet9, ↓dTgN9, ↓dTgW9, ↓dVar10, ↓dAug10, ↓dSet10, ↓dTgN10, ↓dTgW10, ↓dVar11, ↓dAug11, ↓dSet11, ↓dTgN11, ↓dTgW11, ↓dVar12, ↓dAug12, ↓dSet12, ↓dTgN12, ↓dTgW12, ↓dVar13, ↓dAug13, ↓dSet13, ↓dTgN13, ↓dTgW13, ↓dVar14, ↓dAug14, ↓dSet14, ↓dTgN14, ↓dTgW14, ↓dVar15, ↓dAug15, ↓dSet15, ↓dTgN15, ↓dTgW15, ↓dVar16, ↓dAug16, ↓dSet16, ↓dTgN16, ↓dTgW16, ↓dVar17, ↓dAug17, ↓dSet17, ↓dTgN17, ↓dTgW17, ↓dVar18, ↓dAug18, ↓dSet18, ↓dTgN18, ↓dTgW18, ↓dVar19, ↓dAug19, ↓dSet19, ↓dTgN19, ↓dTgW19, ↓dTg_t2, ↓dTg_t3, ↓exGetM, ↓exSumU, nD, plD, rwD, ↓dAdd_tup, ↓dAdd_ref, dSIndex, dInS, dKeysI, dValsI, dItemsI, dMulS, dEqK, dNeK, dClrK, dCntS]
      refine ⟨26, rfl, u8.pool, by omega, by omega, fun v M5 hv u9 => ⟨97 + v, by decide, atI_nat (az_at hv), ?_⟩⟩
      have es : (s ++ (⟨#[97 + v]⟩ : Str)).cps.toList = s.cps.toList ++ [97 + v] := str_app_list _ _
      have hsl : s.length ≤ 8 := by omega
      show s.length + 1 ≤ sizeLine ∧ _
      refine ⟨Nat.le_trans (show _ ≤ 9 by omega) (by decide), sb0 (hP2 _ _ ⟨u9.trans u8, _, _, ?_, fun c hc => ?_, rfl⟩)⟩
      · rw [str_len_list, es, List.length_append, ← str_len_list, hs1]; rfl
      · rw [es] at hc
        rcases List.mem_append.mp hc with z | z
        · exact hs2 c z
        · rw [List.mem_singleton] at z; subst z; omega
    · rintro δ' M4 ⟨u8, s, a10, hs1, hs2, rfl⟩
      rw [rg_len] at hs1
      rw [h2]
      clear h2 t2
      simp (config := {failIfUnchanged := false}) only [dC, dOp, dTest, dChain, dAnd, dOr, dNot, dAndV, dOrV, dNotV, dIf, dNil, dCons, dTup, dLst, dCB, d1, dIx, dNoPart, dPart, dSl, dCut, dNeg, dLen, dTupOf, dListOf, dSorted, dSum, dAll, dAny, dInt, dAbs, dMax, dMin, dIsi, isT, dNext, dSeq, dBrk, dCont, dNever, dExpr, dRet, dRetN, dIfS, dAsg, dPutI, dI0, dI, dIsN, dNotN, dSeqI, dRng1, dRng2, dRngDn, dEnumI, dZipI, dYes, dCall, dLM, dAppend, dExtend, dReverse, dInsert, dAugI, dRg1, dRg2, dTupRg, dLstRg, dNewK, dNewT, ↓S0_, ↓S1_, ↓S2_, ↓S3_, ↓S4_, ↓S5_, ↓S6_, List.map_cons, List.map_nil, List.length_cons, List.length_nil, List.replicate, List.cons_append, List.nil_append, Nat.reduceAdd, Nat.reduceSub, Nat.zero_add, List.getElem?_cons_zero, List.getElem?_cons_succ, Option.some.injEq, exists_eq_left, exists_eq_left', List.set_cons_zero, List.set_cons_succ, wipeD, D.int.injEq, D.bl.injEq, D.str.injEq, D.ref.injEq, D.tup.injEq, D.ty.injEq, true_and, and_true, forall_const, forall_eq', forall_eq, mt_int, mt_bool, mt_str, mt_tuple, mt_list, mt_dict, st_int_int, st_int_bool, st_int_str, st_int_tuple, st_int_list, st_int_dict, st_bool_int, st_bool_bool, st_bool_str, st_bool_tuple, st_bool_list, st_bool_dict, st_str_int, st_str_bool, st_str_str, st_str_tuple, st_str_list, st_str_dict, st_tuple_int, st_tuple_bool, st_tuple_str, st_tuple_tuple, st_tuple_list, st_tuple_dict, st_list_int, st_list_bool, st_list_str, st_list_tuple, st_list_list, st_list_dict, st_dict_int, st_dict_bool, st_dict_str, st_dict_tuple, st_dict_list, st_dict_dict, eq_self, Bool.true_eq_false, Bool.false_eq_true, false_implies, true_implies, implies_true, decide_eq_true_eq, decide_eq_false_iff_not, Bool.not_true, Bool.not_false, Bool.not_eq_true, Bool.not_eq_false, Bool.not_eq_true', Bool.not_eq_false', not_true_eq_false, not_false_eq_true, false_and, and_false, or_false, false_or, reduceCtorEq, ↓exLSu, ↓exDKu, ↓exDKd, ↓exLSd, ↓exLu, ↓dIxRu, ↓dPutu, ↓dGetAu, ↓dEq_int, ↓dNe_int, ↓dEq_bl, ↓dNe_bl, ↓dEq_str, ↓dNe_str, ↓dAdd_int, ↓exAt10, ↓exIx10, ↓exAt20, ↓exIx20, ↓exAt21, ↓exIx21, ↓exAt30, ↓exIx30, ↓exAt31, ↓exIx31, ↓exAt32, ↓exIx32, ↓exAt40, ↓exIx40, ↓exAt41, ↓exIx41, ↓exAt42, ↓exIx42, ↓exAt43, ↓exIx43, ↓exAt50, ↓exIx50, ↓exAt51, ↓exIx51, ↓exAt52, ↓exIx52, ↓exAt53, ↓exIx53, ↓exAt54, ↓exIx54, ↓exAt60, ↓exIx60, ↓exAt61, ↓exIx61, ↓exAt62, ↓exIx62, ↓exAt63, ↓exIx63, ↓exAt64, ↓exIx64, ↓exAt65, ↓exIx65, up_up, false_or, or_false, ↓exAtM, ↓dFlag_bl, ↓exBl, ↓exInt, ↓exRef, ↓dVar0, ↓dAug0, ↓dSet0, ↓dTgN0, ↓dTgW0, ↓dVar1, ↓dAug1, ↓dSet1, ↓dTgN1, ↓dTgW1, ↓dVar2, ↓dAug2, ↓dSet2, ↓dTgN2, ↓dTgW2, ↓dVar3, ↓dAug3, ↓dSet3, ↓dTgN3, ↓dTgW3, ↓dVar4, ↓dAug4, ↓dSet4, ↓dTgN4, ↓dTgW4, ↓dVar5, ↓dAug5, ↓dSet5, ↓dTgN5, ↓dTgW5, ↓dVar6, ↓dAug6, ↓dSet6, ↓dTgN6, ↓dTgW6, ↓dVar7, ↓dAug7, ↓dSet7, ↓dTgN7, ↓dTgW7, ↓dVar8, ↓dAug8, ↓dSet8, ↓dTgN8, ↓dTgW8, ↓dVar9, ↓dAug9, ↓dSet9, ↓dTgN9, ↓dTgW9, ↓dVar10, ↓dAug10, ↓dSet10, ↓dTgN10, ↓dTgW10, ↓dVar11, ↓dAug11, ↓dSet11, ↓dTgN11, ↓dTgW11, ↓dVar12, ↓dAug12, ↓dSet12, ↓dTgN12, ↓dTgW12, ↓dVar13, ↓dAug13, ↓dSet13, ↓dTgN13, ↓dTgW13, ↓dVar14, ↓dAug14, ↓dSet14, ↓dTgN14, ↓dTgW14, ↓dVar15, ↓dAug15, ↓dSet15, ↓dTgN15, ↓dTgW15, ↓dVar16, ↓dAug16, ↓dSet16, ↓dTgN16, ↓dTgW16, ↓dVar17, ↓dAug17, ↓dSet17, ↓dTgN17, ↓dTgW17, ↓dVar18, ↓dAug18, ↓dSet18, ↓dTgN18, ↓dTgW18, ↓dVar19, ↓dAug19, ↓dSet19, ↓dTgN19, ↓dTgW19, ↓dTg_t2, ↓dTg_t3, ↓exGetM, ↓exSumU, nD, plD, rwD, ↓dAdd_tup, ↓dAdd_ref, dSIndex, dInS, dKeysI, dValsI, dItemsI, dMulS, dEqK, dNeK, dClrK, dCntS]
      have u9 := u8.trans u7
      have hK4 := u8.keep _ _ hK3 nofun
      have hKM : M K = none := u0.free _ (u1.free _ hK)
      have hi2 : i < 26 := by omega
      have small : (ks.map D.str).length < sizeLine := by rw [List.length_map]; exact small1000 (by omega)
      have fin : ∀ k : Str, Sml k → ∃ M5, T3.Sub (up M4 K (.lst (ks.map D.str ++ [D.str k]))) M5 ∧ P' (pre ++ [D.int (i : Int)]) [some x, some (nD n), some (.str (Str.ofString "abcdefghijklmnopqrstuvwxyz")), some (.ref K), some (nD i), none, none, none, none, some (.str s), a10, none, none, none] M5 := fun k hk => by
        refine sb0 (hP _ _ ⟨u9.put hK4 nofun nofun hKM, ks ++ [k], by rw [up_same, List.map_append]; rfl, by rw [List.length_append, hkl]; rfl, fun z hz => ?_, _, _, _, rfl⟩)
        rcases List.mem_append.mp hz with q | q
        · exact hks z q
        · rw [List.mem_singleton] at q; subst q; exact hk
      refine ⟨⟨K, _, rfl, .inl hK4⟩, .inr (.inl ⟨s, ks, rfl, .l hK4, fun _ => ⟨_, hK4, small, fin s ⟨by omega, by omega, hs2⟩⟩, fun _ => ⟨97 + i, by decide, atI_nat (az_at hi2), ⟨#[97 + i]⟩, 7, rfl, rfl, by show 1 ≤ 1; omega, by omega, by omega, by show 1 ≤ 1000; omega, ?_⟩⟩)⟩
      refine ⟨?_, _, hK4, small, fin _ (sml_q hi2)⟩
      have : (repS (⟨#[97 + i]⟩ : Str) 7).length = 7 := by rw [str_len_list, repS_list]; rfl
      rw [this]
      decide
  · rintro δ' M2 ⟨u3, ks, hK2, hkl, hks, a4, a9, a10, rfl⟩
    rw [rg_len] at hkl
    rw [h1]
    clear h1 t1
    simp (config := {failIfUnchanged := false}) only [dC, dOp, dTest, dChain, dAnd, dOr, dNot, dAndV, dOrV, dNotV, dIf, dNil, dCons, dTup, dLst, dCB, d1, dIx, dNoPart, dPart, dSl, dCut, dNeg, dLen, dTupOf, dListOf, dSorted, dSum, dAll, dAny, dInt, dAbs, dMax, dMin, dIsi, isT, dNext, dSeq, dBrk, dCont, dNever, dExpr, dRet, dRetN, dIfS, dAsg, dPutI, dI0, dI, dIsN, dNotN, dSeqI, dRng1, dRng2, dRngDn, dEnumI, dZipI, dYes, dCall, dLM, dAppend, dExtend, dReverse, dInsert, dAugI, dRg1, dRg2, dTupRg, dLstRg, dNewK, dNewT, ↓S0_, ↓S1_, ↓S2_, ↓S3_, ↓S4_, ↓S5_, ↓S6_, List.map_cons, List.map_nil, List.length_cons, List.length_nil, List.replicate, List.cons_append, List.nil_append, Nat.reduceAdd, Nat.reduceSub, Nat.zero_add, List.getElem?_cons_zero, List.getElem?_cons_succ, Option.some.injEq, exists_eq_left, exists_eq_left', List.set_cons_zero, List.set_cons_succ, wipeD, D.int.injEq, D.bl.injEq, D.str.injEq, D.ref.injEq, D.tup.injEq, D.ty.injEq, true_and, and_true, forall_const, forall_eq', forall_eq, mt_int, mt_bool, mt_str, mt_tuple, mt_list, mt_dict, st_int_int, st_int_bool, st_int_str, st_int_tuple, st_int_list, st_int_dict, st_bool_int, st_bool_bool, st_bool_str, st_bool_tuple, st_bool_list, st_bool_dict, st_str_int, st_str_bool, st_str_str, st_str_tuple, st_str_list, st_str_dict, st_tuple_int, st_tuple_bool, st_tuple_str, st_tuple_tuple, st_tuple_list, st_tuple_dict, st_list_int, st_list_bool, st_list_str, st_list_tuple, st_list_list, st_list_dict, st_dict_int, st_dict_bool, st_dict_str, st_dict_tuple, st_dict_list, st_dict_dict, eq_self, Bool.true_eq_false, Bool.false_eq_true, false_implies, true_implies, implies_true, decide_eq_true_eq, decide_eq_false_iff_not, Bool.not_true, Bool.not_false, Bool.not_eq_true, Bool.not_eq_false, Bool.not_eq_true', Bool.not_eq_false', not_true_eq_false, not_false_eq_true, false_and, and_false, or_false, false_or, reduceCtorEq, ↓exLSu, ↓exDKu, ↓exDKd, ↓exLSd, ↓exLu, ↓dIxRu, ↓dPutu, ↓dGetAu, ↓dEq_int, ↓dNe_int, ↓dEq_bl, ↓dNe_bl, ↓dEq_str, ↓dNe_str, ↓dAdd_int, ↓exAt10, ↓exIx10, ↓exAt20, ↓exIx20, ↓exAt21, ↓exIx21, ↓exAt30, ↓exIx30, ↓exAt31, ↓exIx31, ↓exAt32, ↓exIx32, ↓exAt40, ↓exIx40, ↓exAt41, ↓exIx41, ↓exAt42, ↓exIx42, ↓exAt43, ↓exIx43, ↓exAt50, ↓exIx50, ↓exAt51, ↓exIx51, ↓exAt52, ↓exIx52, ↓exAt53, ↓exIx53, ↓exAt54, ↓exIx54, ↓exAt60, ↓exIx60, ↓exAt61, ↓exIx61, ↓exAt62, ↓exIx62, ↓exAt63, ↓exIx63, ↓exAt64, ↓exIx64, ↓exAt65, ↓exIx65, up_up, false_or, or_false, ↓exAtM, ↓dFlag_bl, ↓exBl, ↓exInt, ↓exRef, ↓dVar0, ↓dAug0, ↓dSet0, ↓dTgN0, ↓dTgW0, ↓dVar1, ↓dAug1, ↓dSet1, ↓dTgN1, ↓dTgW1, ↓dVar2, ↓dAug2, ↓dSet2, ↓dTgN2, ↓dTgW2, ↓dVar3, ↓dAug3, ↓dSet3, ↓dTgN3, ↓dTgW3, ↓dVar4, ↓dAug4, ↓dSet4, ↓dTgN4, ↓dTgW4, ↓dVar5, ↓dAug5, ↓dSet5, ↓dTgN5, ↓dTgW5, ↓dVar6, ↓dAug6, ↓dSet6, ↓dTgN6, ↓dTgW6, ↓dVar7, ↓dAug7, ↓dSet7, ↓dTgN7, ↓dTgW7, ↓dVar8, ↓dAug8, ↓dSet8, ↓dTgN8, ↓dTgW8, ↓dVar9, ↓dAug9, ↓dSet9, ↓dTgN9, ↓dTgW9, ↓dVar10, ↓dAug10, ↓dSet10, ↓dTgN10, ↓dTgW10, ↓dVar11, ↓dAug11, ↓dSet11, ↓dTgN11, ↓dTgW11, ↓dVar12, ↓dAug12, ↓dSet12, ↓dTgN12, ↓dTgW12, ↓dVar13, ↓dAug13, ↓dSet13, ↓dTgN13, ↓dTgW13, ↓dVar14, ↓dAug14, ↓dSet14, ↓dTgN14, ↓dTgW14, ↓dVar15, ↓dAug15, ↓dSet15, ↓dTgN15, ↓dTgW15, ↓dVar16, ↓dAug16, ↓dSet16, ↓dTgN16, ↓dTgW16, ↓dVar17, ↓dAug17, ↓dSet17, ↓dTgN17, ↓dTgW17, ↓dVar18, ↓dAug18, ↓dSet18, ↓dTgN18, ↓dTgW18, ↓dVar19, ↓dAug19, ↓dSet19, ↓dTgN19, ↓dTgW19, ↓dTg_t2, ↓dTg_t3, ↓exGetM, ↓exSumU, nD, plD, rwD, ↓dAdd_tup, ↓dAdd_ref, dSIndex, dInS, dKeysI, dValsI, dItemsI, dMulS, dEqK, dNeK, dClrK, dCntS]
    intro f3 hf3
    have hKM : M K = none := u0.free _ (u1.free _ hK)
    have v0 := Up.new (o := .lst [D.int 1, D.int 2, D.int 3, D.int 5]) u3.pool hf3 (by intro _ z; cases z)
    refine ⟨f3, _, rfl, up_same, by simp, by simp, v0.pool, fun d M3 hd v1 F hF => ?_⟩
    obtain ⟨dn, dn0, dn9, rfl⟩ : ∃ n : Nat, 1 ≤ n ∧ n ≤ 5 ∧ d = D.int (n : Int) := by
      simp only [List.mem_cons, List.not_mem_nil, or_false] at hd
      rcases hd with rfl | rfl | rfl | rfl
      · exact ⟨1, by omega, by omega, rfl⟩
      · exact ⟨2, by omega, by omega, rfl⟩
      · exact ⟨3, by omega, by omega, rfl⟩
      · exact ⟨5, by omega, by omega, rfl⟩
    have v2 := v1.trans v0
    have hFM : M F = none := u3.free _ (v2.free _ hF)
    have hK3 := v2.keep _ _ hK2 nofun
    have nFK : F ≠ K := by rintro rfl; rw [hK3] at hF; cases hF
    have v3 := ((Up.new (o := .dK []) v2.pool hF (by intro _ z; cases z)).trans v2).trans u3
    have hK4 : up M3 F (.dK []) K = some (.lst (ks.map D.str)) := by rw [up_ne nFK.symm]; exact hK3
    have hF4 : up M3 F (.dK []) F = some (.dK (gD [])) := up_same
    generalize up M3 F (.dK []) = M4 at *
    refine dFor_g fun F3 T3 h3 t3 => ?_; simp only [dFor, dC, dOp, dTest, dChain, dAnd, dOr, dNot, dAndV, dOrV, dNotV, dIf, dNil, dCons, dTup, dLst, dCB, d1, dIx, dNoPart, dPart, dSl, dCut, dNeg, dLen, dTupOf, dListOf, dSorted, dSum, dAll, dAny, dInt, dAbs, dMax, dMin, dIsi, isT, dNext, dSeq, dBrk, dCont, dNever, dExpr, dRet, dRetN, dIfS, dAsg, dPutI, dI0, dI, dIsN, dNotN, dSeqI, dRng1, dRng2, dRngDn, dEnumI, dZipI, dYes, dCall, dLM, dAppend, dExtend, dReverse, dInsert, dAugI, dRg1, dRg2, dTupRg, dLstRg, dNewK, dNewT, ↓S0_, ↓S1_, ↓S2_, ↓S3_, ↓S4_, ↓S5_, ↓S6_, List.map_cons, List.map_nil, List.length_cons, List.length_nil, List.replicate, List.cons_append, List.nil_append, Nat.reduceAdd, Nat.reduceSub, Nat.zero_add, List.getElem?_cons_zero, List.getElem?_cons_succ, Option.some.injEq, exists_eq_left, exists_eq_left', List.set_cons_zero, List.set_cons_succ, wipeD, D.int.injEq, D.bl.injEq, D.str.injEq, D.ref.injEq, D.tup.injEq, D.ty.injEq, true_and, and_true, forall_const, forall_eq', forall_eq, mt_int, mt_bool, mt_str, mt_tuple, mt_list, mt_dict, st_int_int, st_int_bool, st_int_str, st_int_tuple, st_int_list, st_int_dict, st_bool_int, st_bool_bool, st_bool_str, st_bool_tuple, st_bool_list, st_bool_dict, st_str_int, st_str_bool, st_str_str, st_str_tuple, st_str_list, st_str_dict, st_tuple_int, st_tuple_bool, st_tuple_str, st_tuple_tuple, st_tuple_list, st_tuple_dict, st_list_int, st_list_bool, st_list_str, st_list_tuple, st_list_list, st_list_dict, st_dict_int, st_dict_bool, st_dict_str, st_dict_tuple, st_dict_list, st_dict_dict, eq_self, Bool.true_eq_false, Bool.false_eq_true, false_implies, true_implies, implies_true, decide_eq_true_eq, decide_eq_false_iff_not, Bool.not_true, Bool.not_false, Bool.not_eq_true, Bool.not_eq_false, Bool.not_eq_true', Bool.not_eq_false', not_true_eq_false, not_false_eq_true, false_and, and_false, or_false, false_or, reduceCtorEq, ↓exLSu, ↓exDKu, ↓exDKd, ↓exLSd, ↓exLu, ↓dIxRu, ↓dPutu, ↓dGetAu, ↓dEq_int, ↓dNe_int, ↓dEq_bl, ↓dNe_bl, ↓dEq_str, ↓dNe_str, ↓dAdd_int, ↓exAt10, ↓exIx10, ↓exAt20, ↓exIx20, ↓exAt21, ↓exIx21, ↓exAt30, ↓exIx30, ↓exAt31, ↓exIx31, ↓exAt32, ↓exIx32, ↓exAt40, ↓exIx40, ↓exAt41, ↓exIx41, ↓exAt42, ↓exIx42, ↓exAt43, ↓exIx43, ↓exAt50, ↓exIx50, ↓exAt51, ↓exIx51, ↓exAt52, ↓exIx52, ↓exAt53, ↓exIx53, ↓exAt54, ↓exIx54, ↓exAt60, ↓exIx60, ↓exAt61, ↓exIx61, ↓exAt62, ↓exIx62, ↓exAt63, ↓exIx63, ↓exAt64, ↓exIx64, ↓exAt65, ↓exIx65, up_up, false_or, or_false, ↓exAtM, ↓dFlag_bl, ↓exBl, ↓exInt, ↓exRef, ↓dVar0, ↓dAug0, ↓dSet0, ↓dTgN0, ↓dTgW0, ↓dVar1, ↓dAug1, ↓dSet1, ↓dTgN1, ↓dTgW1, ↓dVar2, ↓dAug2, ↓dSet2, ↓dTgN2, ↓dTgW2, ↓dVar3, ↓dAug3, ↓dSet3, ↓dTgN3, ↓dTgW3, ↓dVar4, ↓dAug4, ↓dSet4, ↓dTgN4, ↓dTgW4, ↓dVar5, ↓dAug5, ↓dSet5, ↓dTgN5, ↓dTgW5, ↓dVar6, ↓dAug6, ↓dSet6, ↓dTgN6, ↓dTgW6, ↓dVar7, ↓dAug7, ↓dSet7, ↓dTgN7, ↓dTgW7, ↓dVar8, ↓dAug8, ↓dSet8, ↓dTgN8, ↓dTgW8, ↓dVar9, ↓dAug9, ↓dSet9, ↓dTgN9, ↓dTgW9, ↓dVar10, ↓dAug10, ↓dSet10, ↓dTgN10, ↓dTgW10, ↓dVar11, ↓dAug11, ↓dSet11, ↓dTgN11, ↓dTgW11, ↓dVar12, ↓dAug12, ↓dSet12, ↓dTgN12, ↓dTgW12, ↓dVar13, ↓dAug13, ↓dSet13, ↓dTgN13, ↓dTgW13, ↓dVar14, ↓dAug14, ↓dSet14, ↓dTgN14, ↓dTgW14, ↓dVar15, ↓dAug15, ↓dSet15, ↓dTgN15, ↓dTgW15, ↓dVar16, ↓dAug16, ↓dSet16, ↓dTgN16, ↓dTgW16, ↓dVar17, ↓dAug17, ↓dSet17, ↓dTgN17, ↓dTgW17, ↓dVar18, ↓dAug18, ↓dSet18, ↓dTgN18, ↓dTgW18, ↓dVar19, ↓dAug19, ↓dSet19, ↓dTgN19, ↓dTgW19, ↓dTg_t2, ↓dTg_t3, ↓exGetM, ↓exSumU, nD, plD, rwD, ↓dAdd_tup, ↓dAdd_ref, dSIndex, dInS, dKeysI, dValsI, dItemsI, dMulS, dEqK, dNeK, dClrK, dCntS]
    simp (config := {failIfUnchanged := false}) only [dC, dOp, dTest, dChain, dAnd, dOr, dNot, dAndV, dOrV, dNotV, dIf, dNil, dCons, dTup, dLst, dCB, d1, dIx, dNoPart, dPart, dSl, dCut, dNeg, dLen, dTupOf, dListOf, dSorted, dSum, dAll, dAny, dInt, dAbs, dMax, dMin, dIsi, isT, dNext, dSeq, dBrk, dCont, dNever, dExpr, dRet, dRetN, dIfS, dAsg, dPutI, dI0, dI, dIsN, dNotN, dSeqI, dRng1, dRng2, dRngDn, dEnumI, dZipI, dYes, dCall, dLM, dAppend, dExtend, dReverse, dInsert, dAugI, dRg1, dRg2, dTupRg, dLstRg, dNewK, dNewT, ↓S0_, ↓S1_, ↓S2_, ↓S3_, ↓S4_, ↓S5_, ↓S6_, List.map_cons, List.map_nil, List.length_cons, List.length_nil, List.replicate, List.cons_append, List.nil_append, Nat.reduceAdd, Nat.reduceSub, Nat.zero_add, List.getElem?_cons_zero, List.getElem?_cons_succ, Option.some.injEq, exists_eq_left, exists_eq_left', List.set_cons_zero, List.set_cons_succ, wipeD, D.int.injEq, D.bl.injEq, D.str.injEq, D.ref.injEq, D.tup.injEq, D.ty.injEq, true_and, and_true, forall_const, forall_eq', forall_eq, mt_int, mt_bool, mt_str, mt_tuple, mt_list, mt_dict, st_int_int, st_int_bool, st_int_str, st_int_tuple, st_int_list, st_int_dict, st_bool_int, st_bool_bool, st_bool_str, st_bool_tuple, st_bool_list, st_bool_dict, st_str_int, st_str_bool, st_str_str, st_str_tuple, st_str_list, st_str_dict, st_tuple_int, st_tuple_bool, st_tuple_str, st_tuple_tuple, st_tuple_list, st_tuple_dict, st_list_int, st_list_bool, st_list_str, st_list_tuple, st_list_list, st_list_dict, st_dict_int, st_dict_bool, st_dict_str, st_dict_tuple, st_dict_list, st_dict_dict, eq_self, Bool.true_eq_false, Bool.false_eq_true, false_implies, true_implies, implies_true, decide_eq_true_eq, decide_eq_false_iff_not, Bool.not_true, Bool.not_false, Bool.not_eq_true, Bool.not_eq_false, Bool.not_eq_true', Bool.not_eq_false', not_true_eq_false, not_false_eq_true, false_and, and_false, or_false, false_or, reduceCtorEq, ↓exLSu, ↓exDKu, ↓exDKd, ↓exLSd, ↓exLu, ↓dIxRu, ↓dPutu, ↓dGetAu, ↓dEq_int, ↓dNe_int, ↓dEq_bl, ↓dNe_bl, ↓dEq_str, ↓dNe_str, ↓dAdd_int, ↓exAt10, ↓exIx10, ↓exAt20, ↓exIx20, ↓exAt21, ↓exIx21, ↓exAt30, ↓exIx30, ↓exAt31, ↓exIx31, ↓exAt32, ↓exIx32, ↓exAt40, ↓exIx40, ↓exAt41, ↓exIx41, ↓exAt42, ↓exIx42, ↓exAt43, ↓exIx43, ↓exAt50, ↓exIx50, ↓exAt51, ↓exIx51, ↓exAt52, ↓exIx52, ↓exAt53, ↓exIx53, ↓exAt54, ↓exIx54, ↓exAt60, ↓exIx60, ↓exAt61, ↓exIx61, ↓exAt62, ↓exIx62, ↓exAt63, ↓exIx63, ↓exAt64, ↓exIx64, ↓exAt65, ↓exIx65, up_up, false_or, or_false, ↓exAtM, ↓dFlag_bl, ↓exBl, ↓exInt, ↓exRef, ↓dVar0, ↓dAug0, ↓dSet0, ↓dTgN0, ↓dTgW0, ↓dVar1, ↓dAug1, ↓dSet1, ↓dTgN1, ↓dTgW1, ↓dVar2, ↓dAug2, ↓dSet2, ↓dTgN2, ↓dTgW2, ↓dVar3, ↓dAug3, ↓dSet3, ↓dTgN3, ↓dTgW3, ↓dVar4, ↓dAug4, ↓dSet4, ↓dTgN4, ↓dTgW4, ↓dVar5, ↓dAug5, ↓dSet5, ↓dTgN5, ↓dTgW5, ↓dVar6, ↓dAug6, ↓dSet6, ↓dTgN6, ↓dTgW6, ↓dVar7, ↓dAug7, ↓dSet7, ↓dTgN7, ↓dTgW7, ↓dVar8, ↓dAug8, ↓dSet8, ↓dTgN8, ↓dTgW8, ↓dVar9, ↓dAug9, ↓dSet9, ↓dTgN9, ↓dTgW9, ↓dVar10, ↓dAug10, ↓dSet10, ↓dTgN10, ↓dTgW10, ↓dVar11, ↓dAug11, ↓dSet11, ↓dTgN11, ↓dTgW11, ↓dVar12, ↓dAug12, ↓dSet12, ↓dTgN12, ↓dTgW12, ↓dVar13, ↓dAug13, ↓dSet13, ↓dTgN13, ↓dTgW13, ↓dVar14, ↓dAug14, ↓dSet14, ↓dTgN14, ↓dTgW14, ↓dVar15, ↓dAug15, ↓dSet15, ↓dTgN15, ↓dTgW15, ↓dVar16, ↓dAug16, ↓dSet16, ↓dTgN16, ↓dTgW16, ↓dVar17, ↓dAug17, ↓dSet17, ↓dTgN17, ↓dTgW17, ↓dVar18, ↓dAug18, ↓dSet18, ↓dTgN18, ↓dTgW18, ↓dVar19, ↓dAug19, ↓dSet19, ↓dTgN19, ↓dTgW19, ↓dTg_t2, ↓dTg_t3, ↓exGetM, ↓exSumU, nD, plD, rwD, ↓dAdd_tup, ↓dAdd_ref, dSIndex, dInS, dKeysI, dValsI, dItemsI, dMulS, dEqK, dNeK, dClrK, dCntS]
    refine .inl ⟨_, .inl hK4, ?_⟩
    rw [List.length_map, hkl, rng0]
    refine ⟨by omega, forN (fun i δ M' => Up M' M x ∧ M' K = some (.lst (ks.map D.str)) ∧ (∃ g, M' F = some (.dK (gD g)) ∧ Half g ks i) ∧ ∃ b4 b7 b9 b10 b11 b12 : Option D, δ = [some x, some (nD n), some (.str (Str.ofString "abcdefghijklmnopqrstuvwxyz")), some (.ref K), b4, some (nD dn), some (.ref F), b7, none, b9, b10, b11, b12, none]) ⟨v3, hK4, ⟨[], hF4, ⟨List.nodup_nil, by simp, by simp, fun j hj => by omega, Nat.le_refl _⟩⟩, _, _, _, _, _, _, rfl⟩ ?_ ?_⟩
    · rintro i z δ' M5 pre P' hz ⟨w0, hK5, ⟨g, hF5, hg⟩, b4, b7, b9, b10, b11, b12, rfl⟩ hP
      obtain ⟨hi, rfl⟩ := rgx hz
      subst t3
      simp (config := {failIfUnchanged := false}) only [dC, dOp, dTest, dChain, dAnd, dOr, dNot, dAndV, dOrV, dNotV, dIf, dNil, dCons, dTup, dLst, dCB, d1, dIx, dNoPart, dPart, dSl, dCut, dNeg, dLen, dTupOf, dListOf, dSorted, dSum, dAll, dAny, dInt, dAbs, dMax, dMin, dIsi, isT, dNext, dSeq, dBrk, dCont, dNever, dExpr, dRet, dRetN, dIfS, dAsg, dPutI, dI0, dI, dIsN, dNotN, dSeqI, dRng1, dRng2, dRngDn, dEnumI, dZipI, dYes, dCall, dLM, dAppend, dExtend, dReverse, dInsert, dAugI, dRg1, dRg2, dTupRg, dLstRg, dNewK, dNewT, ↓S0_, ↓S1_, ↓S2_, ↓S3_, ↓S4_, ↓S5_, ↓S6_, List.map_cons, List.map_nil, List.length_cons, List.length_nil, List.replicate, List.cons_append, List.nil_append, Nat.reduceAdd, Nat.reduceSub, Nat.zero_add, List.getElem?_cons_zero, List.getElem?_cons_succ, Option.some.injEq, exists_eq_left, exists_eq_left', List.set_cons_zero, List.set_cons_succ, wipeD, D.int.injEq, D.bl.injEq, D.str.injEq, D.ref.injEq, D.tup.injEq, D.ty.injEq, true_and, and_true, forall_const, forall_eq', forall_eq, mt_int, mt_bool, mt_str, mt_tuple, mt_list, mt_dict, st_int_int, st_int_bool, st_int_str, st_int_tuple, st_int_list, st_int_dict, st_bool_int, st_bool_bool, st_bool_str, st_bool_tuple, st_bool_list, st_bool_dict, st_str_int, st_str_bool, st_str_str, st_str_tuple, st_str_list, st_str_dict, st_tuple_int, st_tuple_bool, st_tuple_str, st_tuple_tuple, st_tuple_list, st_tuple_dict, st_list_int, st_list_bool, st_list_str, st_list_tuple, st_list_list, st_list_dict, st_dict_int, st_dict_bool, st_dict_str, st_dict_tuple, st_dict_list, st_dict_dict, eq_self, Bool.true_eq_false, Bool.false_eq_true, false_implies, true_implies, implies_true, decide_eq_true_eq, decide_eq_false_iff_not, Bool.not_true, Bool.not_false, Bool.not_eq_true, Bool.not_eq_false, Bool.not_eq_true', Bool.not_eq_false', not_true_eq_false, not_false_eq_true, false_and, and_false, or_false, false_or, reduceCtorEq, ↓exLSu, ↓exDKu, ↓exDKd, ↓exLSd, ↓exLu, ↓dIxRu, ↓dPutu, ↓dGetAu, ↓dEq_int, ↓dNe_int, ↓dEq_bl, ↓dNe_bl, ↓dEq_str, ↓dNe_str, ↓dAdd_int, ↓exAt10, ↓exIx10, ↓exAt20, ↓exIx20, ↓exAt21, ↓exIx21, ↓exAt30, ↓exIx30, ↓exAt31, ↓exIx31, ↓exAt32, ↓exIx32, ↓exAt40, ↓exIx40, ↓exAt41, ↓exIx41, ↓exAt42, ↓exIx42, ↓exAt43, ↓exIx43, ↓exAt50, ↓exIx50, ↓exAt51, ↓exIx51, ↓exAt52, ↓exIx52, ↓exAt53, ↓exIx53, ↓exAt54, ↓exIx54, ↓exAt60, ↓exIx60, ↓exAt61, ↓exIx61, ↓exAt62, ↓exIx62, ↓exAt63, ↓exIx63, ↓exAt64, ↓exIx64, ↓exAt65, ↓exIx65, up_up, false_or, or_false, ↓exAtM, ↓dFlag_bl, ↓exBl, ↓exInt, ↓exRef, ↓dVar0, ↓dAug0, ↓dSet0, ↓dTgN0, ↓dTgW0, ↓dVar1, ↓dAug1, ↓dSet1, ↓dTgN1, ↓dTgW1, ↓dVar2, ↓dAug2, ↓dSet2, ↓dTgN2, ↓dTgW2, ↓dVar3, ↓dAug3, ↓dSet3, ↓dTgN3, ↓dTgW3, ↓dVar4, ↓dAug4, ↓dSet4, ↓dTgN4, ↓dTgW4, ↓dVar5, ↓dAug5, ↓dSet5, ↓dTgN5, ↓dTgW5, ↓dVar6, ↓dAug6, ↓dSet6, ↓dTgN6, ↓dTgW6, ↓dVar7, ↓dAug7, ↓dSet7, ↓dTgN7, ↓dTgW7, ↓dVar8, ↓dAug8, ↓dSet8, ↓dTgN8, ↓dTgW8, ↓dVar9, ↓dAug9, ↓dSet9, ↓dTgN9, ↓dTgW9, ↓dVar10, ↓dAug10, ↓dSet10, ↓dTgN10, ↓dTgW10, ↓dVar11, ↓dAug11, ↓dSet11, ↓dTgN11, ↓dTgW11, ↓dVar12, ↓dAug12, ↓dSet12, ↓dTgN12, ↓dTgW12, ↓dVar13, ↓dAug13, ↓dSet13, ↓dTgN13, ↓dTgW13, ↓dVar14, ↓dAug14, ↓dSet14, ↓dTgN14, ↓dTgW14, ↓dVar15, ↓dAug15, ↓dSet15, ↓dTgN15, ↓dTgW15, ↓dVar16, ↓dAug16, ↓dSet16, ↓dTgN16, ↓dTgW16, ↓dVar17, ↓dAug17, ↓dSet17, ↓dTgN17, ↓dTgW17, ↓dVar18, ↓dAug18, ↓dSet18, ↓dTgN18, ↓dTgW18, ↓dVar19, ↓dAug19, ↓dSet19, ↓dTgN19, ↓dTgW19, ↓dTg_t2, ↓dTg_t3, ↓exGetM, ↓exSumU, nD, plD, rwD, ↓dAdd_tup, ↓dAdd_ref, dSIndex, dInS, dKeysI, dValsI, dItemsI, dMulS, dEqK, dNeK, dClrK, dCntS]
      intro R hR
      have hRM : M R = none := w0.free _ hR
      have nRK : R ≠ K := by rintro rfl; rw [hK5] at hR; cases hR
      have nRF : R ≠ F := by rintro rfl; rw [hF5] at hR; cases hR
      have w1 := (Up.new (o := .lst []) w0.pool hR (by intro _ z; cases z)).trans w0
      have hK6 : up M5 R (.lst []) K = some (.lst (ks.map D.str)) := by rw [up_ne nRK.symm]; exact hK5
      have hF6 : up M5 R (.lst []) F = some (.dK (gD g)) := by rw [up_ne nRF.symm]; exact hF5
      have hR6 : up M5 R (.lst []) R = some (.lst []) := up_same
      generalize up M5 R (.lst []) = M6 at *
      refine dFor_g fun F4 T4 h4 t4 => ?_; simp only [dFor, dC, dOp, dTest, dChain, dAnd, dOr, dNot, dAndV, dOrV, dNotV, dIf, dNil, dCons, dTup, dLst, dCB, d1, dIx, dNoPart, dPart, dSl, dCut, dNeg, dLen, dTupOf, dListOf, dSorted, dSum, dAll, dAny, dInt, dAbs, dMax, dMin, dIsi, isT, dNext, dSeq, dBrk, dCont, dNever, dExpr, dRet, dRetN, dIfS, dAsg, dPutI, dI0, dI, dIsN, dNotN, dSeqI, dRng1, dRng2, dRngDn, dEnumI, dZipI, dYes, dCall, dLM, dAppend, dExtend, dReverse, dInsert, dAugI, dRg1, dRg2, dTupRg, dLstRg, dNewK, dNewT, ↓S0_, ↓S1_, ↓S2_, ↓S3_, ↓S4_, ↓S5_, ↓S6_, List.map_cons, List.map_nil, List.length_cons, List.length_nil, List.replicate, List.cons_append, List.nil_append, Nat.reduceAdd, Nat.reduceSub, Nat.zero_add, List.getElem?_cons_zero, List.getElem?_cons_succ, Option.some.injEq, exists_eq_left, exists_eq_left', List.set_cons_zero, List.set_cons_succ, wipeD, D.int.injEq, D.bl.injEq, D.str.injEq, D.ref.injEq, D.tup.injEq, D.ty.injEq, true_and, and_true, forall_const, forall_eq', forall_eq, mt_int, mt_bool, mt_str, mt_tuple, mt_list, mt_dict, st_int_int, st_int_bool, st_int_str, st_int_tuple, st_int_list, st_int_dict, st_bool_int, st_bool_bool, st_bool_str, st_bool_tuple, st_bool_list, st_bool_dict, st_str_int, st_str_bool, st_str_str, st_str_tuple, st_str_list, st_str_dict, st_tuple_int, st_tuple_bool, st_tuple_str, st_tuple_tuple, st_tuple_list, st_tuple_dict, st_list_int, st_list_bool, st_list_str, st_list_tuple, st_list_list, st_list_dict, st_dict_int, st_dict_bool, st_dict_str, st_dict_tuple, st_dict_list, st_dict_dict, eq_self, Bool.true_eq_false, Bool.false_eq_true, false_implies, true_implies, implies_true, decide_eq_true_eq, decide_eq_false_iff_not, Bool.not_true, Bool.not_false, Bool.not_eq_true, Bool.not_eq_false, Bool.not_eq_true', Bool.not_eq_false', not_true_eq_false, not_false_eq_true, false_and, and_false, or_false, false_or, reduceCtorEq, ↓exLSu, ↓exDKu, ↓exDKd, ↓exLSd, ↓exLu, ↓dIxRu, ↓dPutu, ↓dGetAu, ↓dEq_int, ↓dNe_int, ↓dEq_bl, ↓dNe_bl, ↓dEq_str, ↓dNe_str, ↓dAdd_int, ↓exAt10, ↓exIx10, ↓exAt20, ↓exIx20, ↓exAt21, ↓exIx21, ↓exAt30, ↓exIx30, ↓exAt31, ↓exIx31, ↓exAt32, ↓exIx32, ↓exAt40, ↓exIx40, ↓exAt41, ↓exIx41, ↓exAt42, ↓exIx42, ↓exAt43, ↓exIx43, ↓exAt50, ↓exIx50, ↓exAt51, ↓exIx51, ↓exAt52, ↓exIx52, ↓exAt53, ↓exIx53, ↓exAt54, ↓exIx54, ↓exAt60, ↓exIx60, ↓exAt61, ↓exIx61, ↓exAt62, ↓exIx62, ↓exAt63, ↓exIx63, ↓exAt64, ↓exIx64, ↓exAt65, ↓exIx65, up_up, false_or, or_false, ↓exAtM, ↓dFlag_bl, ↓exBl, ↓exInt, ↓exRef, ↓dVar0, ↓dAug0, ↓dSet0, ↓dTgN0, ↓dTgW0, ↓dVar1, ↓dAug1, ↓dSet1, ↓dTgN1, ↓dTgW1, ↓dVar2, ↓dAug2, ↓dSet2, ↓dTgN2, ↓dTgW2, ↓dVar3, ↓dAug3, ↓dSet3, ↓dTgN3, ↓dTgW3, ↓dVar4, ↓dAug4, ↓dSet4, ↓dTgN4, ↓dTgW4, ↓dVar5, ↓dAug5, ↓dSet5, ↓dTgN5, ↓dTgW5, ↓dVar6, ↓dAug6, ↓dSet6, ↓dTgN6, ↓dTgW6, ↓dVar7, ↓dAug7, ↓dSet7, ↓dTgN7, ↓dTgW7, ↓dVar8, ↓dAug8, ↓dSet8, ↓dTgN8, ↓dTgW8, ↓dVar9, ↓dAug9, ↓dSet9, ↓dTgN9, ↓dTgW9, ↓dVar10, ↓dAug10, ↓dSet10, ↓dTgN10, ↓dTgW10, ↓dVar11, ↓dAug11, ↓dSet11, ↓dTgN11, ↓dTgW11, ↓dVar12, ↓dAug12, ↓dSet12, ↓dTgN12, ↓dTgW12, ↓dVar13, ↓dAug13, ↓dSet13, ↓dTgN13, ↓dTgW13, ↓dVar14, ↓dAug14, ↓dSet14, ↓dTgN14, ↓dTgW14, ↓dVar15, ↓dAug15, ↓dSet15, ↓dTgN15, ↓dTgW15, ↓dVar16, ↓dAug16, ↓dSet16, ↓dTgN16, ↓dTgW16, ↓dVar17, ↓dAug17, ↓dSet17, ↓dTgN17, ↓dTgW17, ↓dVar18, ↓dAug18, ↓dSet18, ↓dTgN18, ↓dTgW18, ↓dVar19, ↓dAug19, ↓dSet19, ↓dTgN19, ↓dTgW19, ↓dTg_t2, ↓dTg_t3, ↓exGetM, ↓exSumU, nD, plD, rwD, ↓dAdd_tup, ↓dAdd_ref, dSIndex, dInS, dKeysI, dValsI, dItemsI, dMulS, dEqK, dNeK, dClrK, dCntS]
      simp (config := {failIfUnchanged := false}) only [dC, dOp, dTest, dChain, dAnd, dOr, dNot, dAndV, dOrV, dNotV, dIf, dNil, dCons, dTup, dLst, dCB, d1, dIx, dNoPart, dPart, dSl, dCut, dNeg, dLen, dTupOf, dListOf, dSorted, dSum, dAll, dAny, dInt, dAbs, dMax, dMin, dIsi, isT, dNext, dSeq, dBrk, dCont, dNever, dExpr, dRet, dRetN, dIfS, dAsg, dPutI, dI0, dI, dIsN, dNotN, dSeqI, dRng1, dRng2, dRngDn, dEnumI, dZipI, dYes, dCall, dLM, dAppend, dExtend, dReverse, dInsert, dAugI, dRg1, dRg2, dTupRg, dLstRg, dNewK, dNewT, ↓S0_, ↓S1_, ↓S2_, ↓S3_, ↓S4_, ↓S5_, ↓S6_, List.map_cons, List.map_nil, List.length_cons, List.length_nil, List.replicate, List.cons_append, List.nil_append, Nat.reduceAdd, Nat.reduceSub, Nat.zero_add, List.getElem?_cons_zero, List.getElem?_cons_succ, Option.some.injEq, exists_eq_left, exists_eq_left', List.set_cons_zero, List.set_cons_succ, wipeD, D.int.injEq, D.bl.injEq, D.str.injEq, D.ref.injEq, D.tup.injEq, D.ty.injEq, true_and, and_true, forall_const, forall_eq', forall_eq, mt_int, mt_bool, mt_str, mt_tuple, mt_list, mt_dict, st_int_int, st_int_bool, st_int_str, st_int_tuple, st_int_list, st_int_dict, st_bool_int, st_bool_bool, st_bool_str, st_bool_tuple, st_bool_list, st_bool_dict, st_str_int, st_str_bool, st_str_str, st_str_tuple, st_str_list, st_str_dict, st_tuple_int, st_tuple_bool, st_tuple_str, st_tuple_tuple, st_tuple_list, st_tuple_dict, st_list_int, st_list_bool, st_list_str, st_list_tuple, st_list_list, st_list_dict, st_dict_int, st_dict_bool, st_dict_str, st_dict_tuple, st_dict_list, st_dict_dict, eq_self, Bool.true_eq_false, Bool.false_eq_true, false_implies, true_implies, implies_true, decide_eq_true_eq, decide_eq_false_iff_not, Bool.not_true, Bool.not_false, Bool.not_eq_true, Bool.not_eq_false, Bool.not_eq_true', Bool.not_eq_false', not_true_eq_false, not_false_eq_true, false_and, and_false, or_false, false_or, reduceCtorEq, ↓exLSu, ↓exDKu, ↓exDKd, ↓exLSd, ↓exLu, ↓dIxRu, ↓dPutu, ↓dGetAu, ↓dEq_int, ↓dNe_int, ↓dEq_bl, ↓dNe_bl, ↓dEq_str, ↓dNe_str, ↓dAdd_int, ↓exAt10, ↓exIx10, ↓exAt20, ↓exIx20, ↓exAt21, ↓exIx21, ↓exAt30, ↓exIx30, ↓exAt31, ↓exIx31, ↓exAt32, ↓exIx32, ↓exAt40, ↓exIx40, ↓exAt41, ↓exIx41, ↓exAt42, ↓exIx42, ↓exAt43, ↓exIx43, ↓exAt50, ↓exIx50, ↓exAt51, ↓exIx51, ↓exAt52, ↓exIx52, ↓exAt53, ↓exIx53, ↓exAt54, ↓exIx54, ↓exAt60, ↓exIx60, ↓exAt61, ↓exIx61, ↓exAt62, ↓exIx62, ↓exAt63, ↓exIx63, ↓exAt64, ↓exIx64, ↓exAt65, ↓exIx65, up_up, false_or, or_false, ↓exAtM, ↓dFlag_bl, ↓exBl, ↓exInt, ↓exRef, ↓dVar0, ↓dAug0, ↓dSet0, ↓dTgN0, ↓dTgW0, ↓dVar1, ↓dAug1, ↓dSet1, ↓dTgN1, ↓dTgW1, ↓dVar2, ↓dAug2, ↓dSet2, ↓dTgN2, ↓dTgW2, ↓dVar3, ↓dAug3, ↓dSet3, ↓dTgN3, ↓dTgW3, ↓dVar4, ↓dAug4, ↓dSet4, ↓dTgN4, ↓dTgW4, ↓dVar5, ↓dAug5, ↓dSet5, ↓dTgN5, ↓dTgW5, ↓dVar6, ↓dAug6, ↓dSet6, ↓dTgN6, ↓dTgW6, ↓dVar7, ↓dAug7, ↓dSet7, ↓dTgN7, ↓dTgW7, ↓dVar8, ↓dAug8, ↓dSet8, ↓dTgN8, ↓dTgW8, ↓dVar9, ↓dAug9, ↓dSet9, ↓dTgN9, ↓dTgW9, ↓dVar10, ↓dAug10, ↓dSet10, ↓dTgN10, ↓dTgW10, ↓dVar11, ↓dAug11, ↓dSet11, ↓dTgN11, ↓dTgW11, ↓dVar12, ↓dAug12, ↓dSet12, ↓dTgN12, ↓dTgW12, ↓dVar13, ↓dAug13, ↓dSet13, ↓dTgN13, ↓dTgW13, ↓dVar14, ↓dAug14, ↓dSet14, ↓dTgN14, ↓dTgW14, ↓dVar15, ↓dAug15, ↓dSet15, ↓dTgN15, ↓dTgW15, ↓dVar16, ↓dAug16, ↓dSet16, ↓dTgN16, ↓dTgW16, ↓dVar17, ↓dAug17, ↓dSet17, ↓dTgN17, ↓dTgW17, ↓dVar18, ↓dAug18, ↓dSet18, ↓dTgN18, ↓dTgW18, ↓dVar19, ↓dAug19, ↓dSet19, ↓dTgN19, ↓dTgW19, ↓dTg_t2, ↓dTg_t3, ↓exGetM, ↓exSumU, nD, plD, rwD, ↓dAdd_tup, ↓dAdd_ref, dSIndex, dInS, dKeysI, dValsI, dItemsI, dMulS, dEqK, dNeK, dClrK, dCntS]
      intro f4 hf4
      have x0 := Up.new (o := .lst [D.int 0, D.int 1, D.int 1, D.int 2, D.int 3, D.int 4]) w1.pool hf4 (by intro _ z; cases z)
      refine ⟨f4, _, rfl, up_same, by simp, by simp, x0.pool, fun d M7 hd x1 => ?_⟩
      obtain ⟨rn, rn4, rfl⟩ : ∃ n : Nat, n ≤ 4 ∧ d = D.int (n : Int) := by
        simp only [List.mem_cons, List.not_mem_nil, or_false] at hd
        rcases hd with rfl | rfl | rfl | rfl | rfl | rfl
        · exact ⟨0, by omega, rfl⟩
        · exact ⟨1, by omega, rfl⟩
        · exact ⟨1, by omega, rfl⟩
        · exact ⟨2, by omega, rfl⟩
        · exact ⟨3, by omega, rfl⟩
        · exact ⟨4, by omega, rfl⟩
      have x2 := x1.trans x0
      have x3 := x2.trans w1
      have hK7 := x2.keep _ _ hK6 nofun
      have hF7 := x2.keep _ _ hF6 nofun
      have hR7 := x2.keep _ _ hR6 nofun
      show (_ ∧ _) ∧ _
      rw [rng0]
      refine ⟨by omega, forN (fun j δ M' => Up M' M x ∧ M' K = some (.lst (ks.map D.str)) ∧ M' F = some (.dK (gD g)) ∧ (∃ r : List Str, M' R = some (.lst (r.map D.str)) ∧ r.length = j ∧ ∀ o ∈ r, o ∈ ks) ∧ ∃ b10 b12 : Option D, δ = [some x, some (nD n), some (.str (Str.ofString "abcdefghijklmnopqrstuvwxyz")), some (.ref K), b4, some (nD dn), some (.ref F), some (nD i), none, b9, b10, some (.ref R), b12, none]) ⟨x3, hK7, hF7, ⟨[], hR7, rfl, by simp⟩, _, _, rfl⟩ ?_ ?_⟩
      · rintro j z δ' M8 pre2 P2 hz2 ⟨y0, hK8, hF8, ⟨r, hR8, hrl, hrs⟩, b10, b12, rfl⟩ hP2
        obtain ⟨hj, rfl⟩ := rgx hz2
        subst t4
        simp (config := {failIfUnchanged := false}) only [dC, dOp, dTest, dChain, dAnd, dOr, dNot, dAndV, dOrV, dNotV, dIf, dNil, dCons, dTup, dLst, dCB, d1, dIx, dNoPart, dPart, dSl, dCut, dNeg, dLen, dTupOf, dListOf, dSorted, dSum, dAll, dAny, dInt, dAbs, dMax, dMin, dIsi, isT, dNext, dSeq, dBrk, dCont, dNever, dExpr, dRet, dRetN, dIfS, dAsg, dPutI, dI0, dI, dIsN, dNotN, dSeqI, dRng1, dRng2, dRngDn, dEnumI, dZipI, dYes, dCall, dLM, dAppend, dExtend, dReverse, dInsert, dAugI, dRg1, dRg2, dTupRg, dLstRg, dNewK, dNewT, ↓S0_, ↓S1_, ↓S2_, ↓S3_, ↓S4_, ↓S5_, ↓S6_, List.map_cons, List.map_nil, List.length_cons, List.length_nil, List.replicate, List.cons_append, List.nil_append, Nat.reduceAdd, Nat.reduceSub, Nat.zero_add, List.getElem?_cons_zero, List.getElem?_cons_succ, Option.some.injEq, exists_eq_left, exists_eq_left', List.set_cons_zero, List.set_cons_succ, wipeD, D.int.injEq, D.bl.injEq, D.str.injEq, D.ref.injEq, D.tup.injEq, D.ty.injEq, true_and, and_true, forall_const, forall_eq', forall_eq, mt_int, mt_bool, mt_str, mt_tuple, mt_list, mt_dict, st_int_int, st_int_bool, st_int_str, st_int_tuple, st_int_list, st_int_dict, st_bool_int, st_bool_bool, st_bool_str, st_bool_tuple, st_bool_list, st_bool_dict, st_str_int, st_str_bool, st_str_str, st_str_tuple, st_str_list, st_str_dict, st_tuple_int, st_tuple_bool, st_tuple_str, st_tuple_tuple, st_tuple_list, st_tuple_dict, st_list_int, st_list_bool, st_list_str, st_list_tuple, st_list_list, st_list_dict, st_dict_int, st_dict_bool, st_dict_str, st_dict_tuple, st_dict_list, st_dict_dict, eq_self, Bool.true_eq_false, Bool.false_eq_true, false_implies, true_implies, implies_true, decide_eq_true_eq, decide_eq_false_iff_not, Bool.not_true, Bool.not_false, Bool.not_eq_true, Bool.not_eq_false, Bool.not_eq_true', Bool.not_eq_false', not_true_eq_false, not_false_eq_true, false_and, and_false, or_false, false_or, reduceCtorEq, ↓exLSu, ↓exDKu, ↓exDKd, ↓exLSd, ↓exLu, ↓dIxRu, ↓dPutu, ↓dGetAu, ↓dEq_int, ↓dNe_int, ↓dEq_bl, ↓dNe_bl, ↓dEq_str, ↓dNe_str, ↓dAdd_int, ↓exAt10, ↓exIx10, ↓exAt20, ↓exIx20, ↓exAt21, ↓exIx21, ↓exAt30, ↓exIx30, ↓exAt31, ↓exIx31, ↓exAt32, ↓exIx32, ↓exAt40, ↓exIx40, ↓exAt41, ↓exIx41, ↓exAt42, ↓exIx42, ↓exAt43, ↓exIx43, ↓exAt50, ↓exIx50, ↓exAt51, ↓exIx51, ↓exAt52, ↓exIx52, ↓exAt53, ↓exIx53, ↓exAt54, ↓exIx54, ↓exAt60, ↓exIx60, ↓exAt61, ↓exIx61, ↓exAt62, ↓exIx62, ↓exAt63, ↓exIx63, ↓exAt64, ↓exIx64, ↓exAt65, ↓exIx65, up_up, false_or, or_false, ↓exAtM, ↓dFlag_bl, ↓exBl, ↓exInt, ↓exRef, ↓dVar0, ↓dAug0, ↓dSet0, ↓dTgN0, ↓dTgW0, ↓dVar1, ↓dAug1, ↓dSet1, ↓dTgN1, ↓dTgW1, ↓dVar2, ↓dAug2, ↓dSet2, ↓dTgN2, ↓dTgW2, ↓dVar3, ↓dAug3, ↓dSet3, ↓dTgN3, ↓dTgW3, ↓dVar4, ↓dAug4, ↓dSet4, ↓dTgN4, ↓dTgW4, ↓dVar5, ↓dAug5, ↓dSet5, ↓dTgN5, ↓dTgW5, ↓dVar6, ↓dAug6, ↓dSet6, ↓dTgN6, ↓dTgW6, ↓dVar7, ↓dAug7, ↓dSet7, ↓dTgN7, ↓dTgW7, ↓dVar8, ↓dAug8, ↓dSet8, ↓dTgN8, ↓dTgW8, ↓dVar9, ↓dAug9, ↓dSet9, ↓dTgN9, ↓dTgW9, ↓dVar10, ↓dAug10, ↓dSet10, ↓dTgN10, ↓dTgW10, ↓dVar11, ↓dAug11, ↓dSet11, ↓dTgN11, ↓dTgW11, ↓dVar12, ↓dAug12, ↓dSet12, ↓dTgN12, ↓dTgW12, ↓dVar13, ↓dAug13, ↓dSet13, ↓dTgN13, ↓dTgW13, ↓dVar14, ↓dAug14, ↓dSet14, ↓dTgN14, ↓dTgW14, ↓dVar15, ↓dAug15, ↓dSet15, ↓dTgN15, ↓dTgW15, ↓dVar16, ↓dAug16, ↓dSet16, ↓dTgN16, ↓dTgW16, ↓dVar17, ↓dAug17, ↓dSet17, ↓dTgN17, ↓dTgW17, ↓dVar18, ↓dAug18, ↓dSet18, ↓dTgN18, ↓dTgW18, ↓dVar19, ↓dAug19, ↓dSet19, ↓dTgN19, ↓dTgW19, ↓dTg_t2, ↓dTg_t3, ↓exGetM, ↓exSumU, nD, plD, rwD, ↓dAdd_tup, ↓dAdd_ref, dSIndex, dInS, dKeysI, dValsI, dItemsI, dMulS, dEqK, dNeK, dClrK, dCntS]
        refine ⟨dn, rfl, y0.pool, by omega, by omega, fun v M9 hv y1 => ?_⟩
        have hK9 := y1.keep _ _ hK8 nofun
        have hF9 := y1.keep _ _ hF8 nofun
        have hR9 := y1.keep _ _ hR8 nofun
        have y2 := y1.trans y0
        have hks0 : ks.map D.str ≠ [] := by
          intro e
          have := congrArg List.length e
          rw [List.length_map, List.length_nil] at this
          omega
        have fin : ∀ (d : D) (M' : Hd) (b12 : Option D), d ∈ ks.map D.str → Up M' M9 x → ∃ xs, M' R = some (.lst xs) ∧ xs.length < sizeLine ∧ ∃ M4, T3.Sub (up M' R (.lst (xs ++ [d]))) M4 ∧ P2 (pre2 ++ [D.int (j : Int)]) [some x, some (nD n), some (.str (Str.ofString "abcdefghijklmnopqrstuvwxyz")), some (.ref K), b4, some (nD dn), some (.ref F), some (nD i), none, b9, some (nD j), some (.ref R), b12, none] M4 := fun d M' b12 hd u => by
          obtain ⟨o, ho, rfl⟩ := List.mem_map.mp hd
          have hK' := u.keep _ _ hK9 nofun
          have hF' := u.keep _ _ hF9 nofun
          have hR' := u.keep _ _ hR9 nofun
          refine ⟨_, hR', by rw [List.length_map]; exact small1000 (by omega), sb0 (hP2 _ _ ⟨(u.trans y2).put hR' nofun nofun hRM, by rw [up_ne nRK.symm]; exact hK', by rw [up_ne nRF.symm]; exact hF', ⟨r ++ [o], by rw [up_same, List.map_append]; rfl, by rw [List.length_append, hrl]; rfl, fun z hz => ?_⟩, _, _, rfl⟩)⟩
          rcases List.mem_append.mp hz with q | q
          · exact hrs z q
          · rw [List.mem_singleton] at q; subst q; exact ho
        refine ⟨fun hv0 => .inl ⟨_, .inl hK9, ?_⟩, fun hv0 => ?_⟩
        · refine ⟨⟨R, _, rfl, .inl hR9⟩, fun hlt => ⟨_, .inl hK9, fun q hq => ?_⟩, fun _ => ⟨K, _, rfl, hK9, hks0, by rw [List.length_map]; omega, y1.pool, fun d M' hd u => fin d M' _ hd u⟩⟩
          rw [List.length_map] at hlt
          have ec : cutD (ks.map D.str) (some ((i : Int) + 1)) none = (ks.map D.str).drop (i + 1) := by rw [show (i : Int) + 1 = ((i + 1 : Nat) : Int) by omega, cutD_from]
          rw [ec]
          have un := Up.new (o := .lst ((ks.map D.str).drop (i + 1))) y1.pool hq (by intro _ z; cases z)
          refine ⟨q, _, rfl, up_same, fun e => ?_, by rw [List.length_drop, List.length_map]; omega, un.pool, fun d M' hd u => fin d M' _ (List.mem_of_mem_drop hd) (u.trans un)⟩
          have := congrArg List.length e
          rw [List.length_drop, List.length_map, List.length_nil] at this
          omega
        · exact ⟨⟨R, _, rfl, .inl hR9⟩, K, _, rfl, hK9, hks0, by rw [List.length_map]; omega, y1.pool, fun d M' hd u => fin d M' _ hd u⟩
      · rintro δ' M8 ⟨y0, hK8, hF8, ⟨r, hR8, hrl, hrs⟩, b10, b12, rfl⟩
        rw [rg_len] at hrl
        rw [h4]
        clear h4 t4
        simp (config := {failIfUnchanged := false}) only [dC, dOp, dTest, dChain, dAnd, dOr, dNot, dAndV, dOrV, dNotV, dIf, dNil, dCons, dTup, dLst, dCB, d1, dIx, dNoPart, dPart, dSl, dCut, dNeg, dLen, dTupOf, dListOf, dSorted, dSum, dAll, dAny, dInt, dAbs, dMax, dMin, dIsi, isT, dNext, dSeq, dBrk, dCont, dNever, dExpr, dRet, dRetN, dIfS, dAsg, dPutI, dI0, dI, dIsN, dNotN, dSeqI, dRng1, dRng2, dRngDn, dEnumI, dZipI, dYes, dCall, dLM, dAppend, dExtend, dReverse, dInsert, dAugI, dRg1, dRg2, dTupRg, dLstRg, dNewK, dNewT, ↓S0_, ↓S1_, ↓S2_, ↓S3_, ↓S4_, ↓S5_, ↓S6_, List.map_cons, List.map_nil, List.length_cons, List.length_nil, List.replicate, List.cons_append, List.nil_append, Nat.reduceAdd, Nat.reduceSub, Nat.zero_add, List.getElem?_cons_zero, List.getElem?_cons_succ, Option.some.injEq, exists_eq_left, exists_eq_left', List.set_cons_zero, List.set_cons_succ, wipeD, D.int.injEq, D.bl.injEq, D.str.injEq, D.ref.injEq, D.tup.injEq, D.ty.injEq, true_and, and_true, forall_const, forall_eq', forall_eq, mt_int, mt_bool, mt_str, mt_tuple, mt_list, mt_dict, st_int_int, st_int_bool, st_int_str, st_int_tuple, st_int_list, st_int_dict, st_bool_int, st_bool_bool, st_bool_str, st_bool_tuple, st_bool_list, st_bool_dict, st_str_int, st_str_bool, st_str_str, st_str_tuple, st_str_list, st_str_dict, st_tuple_int, st_tuple_bool, st_tuple_str, st_tuple_tuple, st_tuple_list, st_tuple_dict, st_list_int, st_list_bool, st_list_str, st_list_tuple, st_list_list, st_list_dict, st_dict_int, st_dict_bool, st_dict_str, st_dict_tuple, st_dict_list, st_dict_dict, eq_self, Bool.true_eq_false, Bool.false_eq_true, false_implies, true_implies, implies_true, decide_eq_true_eq, decide_eq_false_iff_not, Bool.not_true, Bool.not_false, Bool.not_eq_true, Bool.not_eq_false, Bool.not_eq_true', Bool.not_eq_false', not_true_eq_false, not_false_eq_true, false_and, and_false, or_false, false_or, reduceCtorEq, ↓exLSu, ↓exDKu, ↓exDKd, ↓exLSd, ↓exLu, ↓dIxRu, ↓dPutu, ↓dGetAu, ↓dEq_int, ↓dNe_int, ↓dEq_bl, ↓dNe_bl, ↓dEq_str, ↓dNe_str, ↓dAdd_int, ↓exAt10, ↓exIx10, ↓exAt20, ↓exIx20, ↓exAt21, ↓exIx21, ↓exAt30, ↓exIx30, ↓exAt31, ↓exIx31, ↓exAt32, ↓exIx32, ↓exAt40, ↓exIx40, ↓exAt41, ↓exIx41, ↓exAt42, ↓exIx42, ↓exAt43, ↓exIx43, ↓exAt50, ↓exIx50, ↓exAt51, ↓exIx51, ↓exAt52, ↓exIx52, ↓exAt53, ↓exIx53, ↓exAt54, ↓exIx54, ↓exAt60, ↓exIx60, ↓exAt61, ↓exIx61, ↓exAt62, ↓exIx62, ↓exAt63, ↓exIx63, ↓exAt64, ↓exIx64, ↓exAt65, ↓exIx65, up_up, false_or, or_false, ↓exAtM, ↓dFlag_bl, ↓exBl, ↓exInt, ↓exRef, ↓dVar0, ↓dAug0, ↓dSet0, ↓dTgN0, ↓dTgW0, ↓dVar1, ↓dAug1, ↓dSet1, ↓dTgN1, ↓dTgW1, ↓dVar2, ↓dAug2, ↓dSet2, ↓dTgN2, ↓dTgW2, ↓dVar3, ↓dAug3, ↓dSet3, ↓dTgN3, ↓dTgW3, ↓dVar4, ↓dAug4, ↓dSet4, ↓dTgN4, ↓dTgW4, ↓dVar5, ↓dAug5, ↓dSet5, ↓dTgN5, ↓dTgW5, ↓dVar6, ↓dAug6, ↓dSet6, ↓dTgN6, ↓dTgW6, ↓dVar7, ↓dAug7, ↓dSet7, ↓dTgN7, ↓dTgW7, ↓dVar8, ↓dAug8, ↓dSet8, ↓dTgN8, ↓dTgW8, ↓dVar9, ↓dAug9, ↓dSet9, ↓dTgN9, ↓dTgW9, ↓dVar10, ↓dAug10, ↓dSet10, ↓dTgN10, ↓dTgW10, ↓dVar11, ↓dAug11, ↓dSet11, ↓dTgN11, ↓dTgW11, ↓dVar12, ↓dAug12, ↓dSet12, ↓dTgN12, ↓dTgW12, ↓dVar13, ↓dAug13, ↓dSet13, ↓dTgN13, ↓dTgW13, ↓dVar14, ↓dAug14, ↓dSet14, ↓dTgN14, ↓dTgW14, ↓dVar15, ↓dAug15, ↓dSet15, ↓dTgN15, ↓dTgW15, ↓dVar16, ↓dAug16, ↓dSet16, ↓dTgN16, ↓dTgW16, ↓dVar17, ↓dAug17, ↓dSet17, ↓dTgN17, ↓dTgW17, ↓dVar18, ↓dAug18, ↓dSet18, ↓dTgN18, ↓dTgW18, ↓dVar19, ↓dAug19, ↓dSet19, ↓dTgN19, ↓dTgW19, ↓dTg_t2, ↓dTg_t3, ↓exGetM, ↓exSumU, nD, plD, rwD, ↓dAdd_tup, ↓dAdd_ref, dSIndex, dInS, dKeysI, dValsI, dItemsI, dMulS, dEqK, dNeK, dClrK, dCntS]
        have hik : i < ks.length := by omega
        have hki : ks[i]? = some ks[i] := List.getElem?_eq_getElem hik
        generalize ks[i] = kk at hki
        refine ⟨_, .inl hR8, (dIxRh hK8).mpr ⟨.str kk, atI_nat (by rw [List.getElem?_map, hki]; rfl), F, rfl, .inr (.inl ⟨_, .inr kk, rfl, hF8, by rw [gD_len]; exact Nat.lt_of_le_of_lt (Nat.le_trans hg.few (show i ≤ 12 by omega)) (by decide), ?_⟩)⟩⟩
        rw [put_gD]
        exact sb0 (hP _ _ ⟨y0.put hF8 nofun nofun hFM, by rw [up_ne nFK.symm]; exact hK8, ⟨_, up_same, hg.put hki ⟨by omega, hrs⟩⟩, _, _, _, _, _, _, rfl⟩)
    · rintro δ' M5 ⟨w0, hK5, ⟨g, hF5, hg⟩, b4, b7, b9, b10, b11, b12, rfl⟩
      rw [rg_len] at hg
      rw [h3]
      clear h3 t3
      simp (config := {failIfUnchanged := false}) only [dC, dOp, dTest, dChain, dAnd, dOr, dNot, dAndV, dOrV, dNotV, dIf, dNil, dCons, dTup, dLst, dCB, d1, dIx, dNoPart, dPart, dSl, dCut, dNeg, dLen, dTupOf, dListOf, dSorted, dSum, dAll, dAny, dInt, dAbs, dMax, dMin, dIsi, isT, dNext, dSeq, dBrk, dCont, dNever, dExpr, dRet, dRetN, dIfS, dAsg, dPutI, dI0, dI, dIsN, dNotN, dSeqI, dRng1, dRng2, dRngDn, dEnumI, dZipI, dYes, dCall, dLM, dAppend, dExtend, dReverse, dInsert, dAugI, dRg1, dRg2, dTupRg, dLstRg, dNewK, dNewT, ↓S0_, ↓S1_, ↓S2_, ↓S3_, ↓S4_, ↓S5_, ↓S6_, List.map_cons, List.map_nil, List.length_cons, List.length_nil, List.replicate, List.cons_append, List.nil_append, Nat.reduceAdd, Nat.reduceSub, Nat.zero_add, List.getElem?_cons_zero, List.getElem?_cons_succ, Option.some.injEq, exists_eq_left, exists_eq_left', List.set_cons_zero, List.set_cons_succ, wipeD, D.int.injEq, D.bl.injEq, D.str.injEq, D.ref.injEq, D.tup.injEq, D.ty.injEq, true_and, and_true, forall_const, forall_eq', forall_eq, mt_int, mt_bool, mt_str, mt_tuple, mt_list, mt_dict, st_int_int, st_int_bool, st_int_str, st_int_tuple, st_int_list, st_int_dict, st_bool_int, st_bool_bool, st_bool_str, st_bool_tuple, st_bool_list, st_bool_dict, st_str_int, st_str_bool, st_str_str, st_str_tuple, st_str_list, st_str_dict, st_tuple_int, st_tuple_bool, st_tuple_str, st_tuple_tuple, st_tuple_list, st_tuple_dict, st_list_int, st_list_bool, st_list_str, st_list_tuple, st_list_list, st_list_dict, st_dict_int, st_dict_bool, st_dict_str, st_dict_tuple, st_dict_list, st_dict_dict, eq_self, Bool.true_eq_false, Bool.false_eq_true, false_implies, true_implies, implies_true, decide_eq_true_eq, decide_eq_false_iff_not, Bool.not_true, Bool.not_false, Bool.not_eq_true, Bool.not_eq_false, Bool.not_eq_true', Bool.not_eq_false', not_true_eq_false, not_false_eq_true, false_and, and_false, or_false, false_or, reduceCtorEq, ↓exLSu, ↓exDKu, ↓exDKd, ↓exLSd, ↓exLu, ↓dIxRu, ↓dPutu, ↓dGetAu, ↓dEq_int, ↓dNe_int, ↓dEq_bl, ↓dNe_bl, ↓dEq_str, ↓dNe_str, ↓dAdd_int, ↓exAt10, ↓exIx10, ↓exAt20, ↓exIx20, ↓exAt21, ↓exIx21, ↓exAt30, ↓exIx30, ↓exAt31, ↓exIx31, ↓exAt32, ↓exIx32, ↓exAt40, ↓exIx40, ↓exAt41, ↓exIx41, ↓exAt42, ↓exIx42, ↓exAt43, ↓exIx43, ↓exAt50, ↓exIx50, ↓exAt51, ↓exIx51, ↓exAt52, ↓exIx52, ↓exAt53, ↓exIx53, ↓exAt54, ↓exIx54, ↓exAt60, ↓exIx60, ↓exAt61, ↓exIx61, ↓exAt62, ↓exIx62, ↓exAt63, ↓exIx63, ↓exAt64, ↓exIx64, ↓exAt65, ↓exIx65, up_up, false_or, or_false, ↓exAtM, ↓dFlag_bl, ↓exBl, ↓exInt, ↓exRef, ↓dVar0, ↓dAug0, ↓dSet0, ↓dTgN0, ↓dTgW0, ↓dVar1, ↓dAug1, ↓dSet1, ↓dTgN1, ↓dTgW1, ↓dVar2, ↓dAug2, ↓dSet2, ↓dTgN2, ↓dTgW2, ↓dVar3, ↓dAug3, ↓dSet3, ↓dTgN3, ↓dTgW3, ↓dVar4, ↓dAug4, ↓dSet4, ↓dTgN4, ↓dTgW4, ↓dVar5, ↓dAug5, ↓dSet5, ↓dTgN5, ↓dTgW5, ↓dVar6, ↓dAug6, ↓dSet6, ↓dTgN6, ↓dTgW6, ↓dVar7, ↓dAug7, ↓dSet7, ↓dTgN7, ↓dTgW7, ↓dVar8, ↓dAug8, ↓dSet8, ↓dTgN8, ↓dTgW8, ↓dVar9, ↓dAug9, ↓dSet9, ↓dTgN9, ↓dTgW9, ↓dVar10, ↓dAug10, ↓dSet10, ↓dTgN10, ↓dTgW10, ↓dVar11, ↓dAug11, ↓dSet11, ↓dTgN11, ↓dTgW11, ↓dVar12, ↓dAug12, ↓dSet12, ↓dTgN12, ↓dTgW12, ↓dVar13, ↓dAug13, ↓dSet13, ↓dTgN13, ↓dTgW13, ↓dVar14, ↓dAug14, ↓dSet14, ↓dTgN14, ↓dTgW14, ↓dVar15, ↓dAug15, ↓dSet15, ↓dTgN15, ↓dTgW15, ↓dVar16, ↓dAug16, ↓dSet16, ↓dTgN16, ↓dTgW16, ↓dVar17, ↓dAug17, ↓dSet17, ↓dTgN17, ↓dTgW17, ↓dVar18, ↓dAug18, ↓dSet18, ↓dTgN18, ↓dTgW18, ↓dVar19, ↓dAug19, ↓dSet19, ↓dTgN19, ↓dTgW19, ↓dTg_t2, ↓dTg_t3, ↓exGetM, ↓exSumU, nD, plD, rwD, ↓dAdd_tup, ↓dAdd_ref, dSIndex, dInS, dKeysI, dValsI, dItemsI, dMulS, dEqK, dNeK, dClrK, dCntS]
      have hg' : Half g ks ks.length := by rw [hkl]; exact hg
      have gw : Grw g := hg'.grw (by omega) (by omega) hks
      refine .inr ⟨_, .inl hF5, fun q hq => ?_⟩
      have ek : (g.map (·.1)).map D.str = (g.map fun e => D.str e.1) := by rw [List.map_map]; rfl
      rw [gD_keys, ek]
      have nqF : q ≠ F := by rintro rfl; rw [hF5] at hq; cases hq
      have z0 := (Up.new (o := .lst (g.map fun e => D.str e.1)) w0.pool hq (by intro _ z; cases z)).trans w0
      have hqM : M q = none := w0.free _ hq
      have hF6 : up M5 q (.lst (g.map fun e => D.str e.1)) F = some (.dK (gD g)) := by rw [up_ne nqF.symm]; exact hF5
      have hq6 : up M5 q (.lst (g.map fun e => D.str e.1)) q = some (.lst (g.map fun e => D.str e.1)) := up_same
      generalize up M5 q (.lst (g.map fun e => D.str e.1)) = M6 at *
      refine ⟨fun δ' M' => Up M' M x ∧ M' F = some (.dK (gD g)) ∧ (∃ g' : Gr, (g' = g ∨ g' = g.reverse) ∧ M' q = some (.lst (g'.map fun e => D.str e.1))) ∧ δ' = [some x, some (nD n), some (.str (Str.ofString "abcdefghijklmnopqrstuvwxyz")), some (.ref K), b4, some (nD dn), some (.ref F), b7, some (.ref q), b9, b10, b11, b12, none], ?_, ?_⟩
      · simp (config := {failIfUnchanged := false}) only [dC, dOp, dTest, dChain, dAnd, dOr, dNot, dAndV, dOrV, dNotV, dIf, dNil, dCons, dTup, dLst, dCB, d1, dIx, dNoPart, dPart, dSl, dCut, dNeg, dLen, dTupOf, dListOf, dSorted, dSum, dAll, dAny, dInt, dAbs, dMax, dMin, dIsi, isT, dNext, dSeq, dBrk, dCont, dNever, dExpr, dRet, dRetN, dIfS, dAsg, dPutI, dI0, dI, dIsN, dNotN, dSeqI, dRng1, dRng2, dRngDn, dEnumI, dZipI, dYes, dCall, dLM, dAppend, dExtend, dReverse, dInsert, dAugI, dRg1, dRg2, dTupRg, dLstRg, dNewK, dNewT, ↓S0_, ↓S1_, ↓S2_, ↓S3_, ↓S4_, ↓S5_, ↓S6_, List.map_cons, List.map_nil, List.length_cons, List.length_nil, List.replicate, List.cons_append, List.nil_append, Nat.reduceAdd, Nat.reduceSub, Nat.zero_add, List.getElem?_cons_zero, List.getElem?_cons_succ, Option.some.injEq, exists_eq_left, exists_eq_left', List.set_cons_zero, List.set_cons_succ, wipeD, D.int.injEq, D.bl.injEq, D.str.injEq, D.ref.injEq, D.tup.injEq, D.ty.injEq, true_and, and_true, forall_const, forall_eq', forall_eq, mt_int, mt_bool, mt_str, mt_tuple, mt_list, mt_dict, st_int_int, st_int_bool, st_int_str, st_int_tuple, st_int_list, st_int_dict, st_bool_int, st_bool_bool, st_bool_str, st_bool_tuple, st_bool_list, st_bool_dict, st_str_int, st_str_bool, st_str_str, st_str_tuple, st_str_list, st_str_dict, st_tuple_int, st_tuple_bool, st_tuple_str, st_tuple_tuple, st_tuple_list, st_tuple_dict, st_list_int, st_list_bool, st_list_str, st_list_tuple, st_list_list, st_list_dict, st_dict_int, st_dict_bool, st_dict_str, st_dict_tuple, st_dict_list, st_dict_dict, eq_self, Bool.true_eq_false, Bool.false_eq_true, false_implies, true_implies, implies_true, decide_eq_true_eq, decide_eq_false_iff_not, Bool.not_true, Bool.not_false, Bool.not_eq_true, Bool.not_eq_false, Bool.not_eq_true', Bool.not_eq_false', not_true_eq_false, not_false_eq_true, false_and, and_false, or_false, false_or, reduceCtorEq, ↓exLSu, ↓exDKu, ↓exDKd, ↓exLSd, ↓exLu, ↓dIxRu, ↓dPutu, ↓dGetAu, ↓dEq_int, ↓dNe_int, ↓dEq_bl, ↓dNe_bl, ↓dEq_str, ↓dNe_str, ↓dAdd_int, ↓exAt10, ↓exIx10, ↓exAt20, ↓exIx20, ↓exAt21, ↓exIx21, ↓exAt30, ↓exIx30, ↓exAt31, ↓exIx31, ↓exAt32, ↓exIx32, ↓exAt40, ↓exIx40, ↓exAt41, ↓exIx41, ↓exAt42, ↓exIx42, ↓exAt43, ↓exIx43, ↓exAt50, ↓exIx50, ↓exAt51, ↓exIx51, ↓exAt52, ↓exIx52, ↓exAt53, ↓exIx53, ↓exAt54, ↓exIx54, ↓exAt60, ↓exIx60, ↓exAt61, ↓exIx61, ↓exAt62, ↓exIx62, ↓exAt63, ↓exIx63, ↓exAt64, ↓exIx64, ↓exAt65, ↓exIx65, up_up, false_or, or_false, ↓exAtM, ↓dFlag_bl, ↓exBl, ↓exInt, ↓exRef, ↓dVar0, ↓dAug0, ↓dSet0, ↓dTgN0, ↓dTgW0, ↓dVar1, ↓dAug1, ↓dSet1, ↓dTgN1, ↓dTgW1, ↓dVar2, ↓dAug2, ↓dSet2, ↓dTgN2, ↓dTgW2, ↓dVar3, ↓dAug3, ↓dSet3, ↓dTgN3, ↓dTgW3, ↓dVar4, ↓dAug4, ↓dSet4, ↓dTgN4, ↓dTgW4, ↓dVar5, ↓dAug5, ↓dSet5, ↓dTgN5, ↓dTgW5, ↓dVar6, ↓dAug6, ↓dSet6, ↓dTgN6, ↓dTgW6, ↓dVar7, ↓dAug7, ↓dSet7, ↓dTgN7, ↓dTgW7, ↓dVar8, ↓dAug8, ↓dSet8, ↓dTgN8, ↓dTgW8, ↓dVar9, ↓dAug9, ↓dSet9, ↓dTgN9, ↓dTgW9, ↓dVar10, ↓dAug10, ↓dSet10, ↓dTgN10, ↓dTgW10, ↓dVar11, ↓dAug11, ↓dSet11, ↓dTgN11, ↓dTgW11, ↓dVar12, ↓dAug12, ↓dSet12, ↓dTgN12, ↓dTgW12, ↓dVar13, ↓dAug13, ↓dSet13, ↓dTgN13, ↓dTgW13, ↓dVar14, ↓dAug14, ↓dSet14, ↓dTgN14, ↓dTgW14, ↓dVar15, ↓dAug15, ↓dSet15, ↓dTgN15, ↓dTgW15, ↓dVar16, ↓dAug16, ↓dSet16, ↓dTgN16, ↓dTgW16, ↓dVar17, ↓dAug17, ↓dSet17, ↓dTgN17, ↓dTgW17, ↓dVar18, ↓dAug18, ↓dSet18, ↓dTgN18, ↓dTgW18, ↓dVar19, ↓dAug19, ↓dSet19, ↓dTgN19, ↓dTgW19, ↓dTg_t2, ↓dTg_t3, ↓exGetM, ↓exSumU, nD, plD, rwD, ↓dAdd_tup, ↓dAdd_ref, dSIndex, dInS, dKeysI, dValsI, dItemsI, dMulS, dEqK, dNeK, dClrK, dCntS]
        refine ⟨2, rfl, z0.pool, by omega, by omega, fun v M7 hv y1 => ⟨fun _ => ⟨⟨q, _, rfl, .inl (y1.keep _ _ hq6 nofun)⟩, _, y1.keep _ _ hq6 nofun, (y1.trans z0).put (y1.keep _ _ hq6 nofun) nofun nofun hqM, by rw [up_ne nqF.symm]; exact y1.keep _ _ hF6 nofun, g.reverse, .inr rfl, by rw [up_same, List.map_reverse]⟩, fun _ => ⟨y1.trans z0, y1.keep _ _ hF6 nofun, g, .inl rfl, y1.keep _ _ hq6 nofun⟩⟩⟩
      rintro δ' M7 ⟨y0, hF7, ⟨g', hg'', hq7⟩, rfl⟩
      have gw' : Grw g' := by
        rcases hg'' with rfl | rfl
        · exact gw
        · exact gw.rev
      have mem' : ∀ e ∈ g', e ∈ g := fun e he => by
        rcases hg'' with rfl | rfl
        · exact he
        · exact List.mem_reverse.mp he
      clear hg''
      simp (config := {failIfUnchanged := false}) only [dC, dOp, dTest, dChain, dAnd, dOr, dNot, dAndV, dOrV, dNotV, dIf, dNil, dCons, dTup, dLst, dCB, d1, dIx, dNoPart, dPart, dSl, dCut, dNeg, dLen, dTupOf, dListOf, dSorted, dSum, dAll, dAny, dInt, dAbs, dMax, dMin, dIsi, isT, dNext, dSeq, dBrk, dCont, dNever, dExpr, dRet, dRetN, dIfS, dAsg, dPutI, dI0, dI, dIsN, dNotN, dSeqI, dRng1, dRng2, dRngDn, dEnumI, dZipI, dYes, dCall, dLM, dAppend, dExtend, dReverse, dInsert, dAugI, dRg1, dRg2, dTupRg, dLstRg, dNewK, dNewT, ↓S0_, ↓S1_, ↓S2_, ↓S3_, ↓S4_, ↓S5_, ↓S6_, List.map_cons, List.map_nil, List.length_cons, List.length_nil, List.replicate, List.cons_append, List.nil_append, Nat.reduceAdd, Nat.reduceSub, Nat.zero_add, List.getElem?_cons_zero, List.getElem?_cons_succ, Option.some.injEq, exists_eq_left, exists_eq_left', List.set_cons_zero, List.set_cons_succ, wipeD, D.int.injEq, D.bl.injEq, D.str.injEq, D.ref.injEq, D.tup.injEq, D.ty.injEq, true_and, and_true, forall_const, forall_eq', forall_eq, mt_int, mt_bool, mt_str, mt_tuple, mt_list, mt_dict, st_int_int, st_int_bool, st_int_str, st_int_tuple, st_int_list, st_int_dict, st_bool_int, st_bool_bool, st_bool_str, st_bool_tuple, st_bool_list, st_bool_dict, st_str_int, st_str_bool, st_str_str, st_str_tuple, st_str_list, st_str_dict, st_tuple_int, st_tuple_bool, st_tuple_str, st_tuple_tuple, st_tuple_list, st_tuple_dict, st_list_int, st_list_bool, st_list_str, st_list_tuple, st_list_list, st_list_dict, st_dict_int, st_dict_bool, st_dict_str, st_dict_tuple, st_dict_list, st_dict_dict, eq_self, Bool.true_eq_false, Bool.false_eq_true, false_implies, true_implies, implies_true, decide_eq_true_eq, decide_eq_false_iff_not, Bool.not_true, Bool.not_false, Bool.not_eq_true, Bool.not_eq_false, Bool.not_eq_true', Bool.not_eq_false', not_true_eq_false, not_false_eq_true, false_and, and_false, or_false, false_or, reduceCtorEq, ↓exLSu, ↓exDKu, ↓exDKd, ↓exLSd, ↓exLu, ↓dIxRu, ↓dPutu, ↓dGetAu, ↓dEq_int, ↓dNe_int, ↓dEq_bl, ↓dNe_bl, ↓dEq_str, ↓dNe_str, ↓dAdd_int, ↓exAt10, ↓exIx10, ↓exAt20, ↓exIx20, ↓exAt21, ↓exIx21, ↓exAt30, ↓exIx30, ↓exAt31, ↓exIx31, ↓exAt32, ↓exIx32, ↓exAt40, ↓exIx40, ↓exAt41, ↓exIx41, ↓exAt42, ↓exIx42, ↓exAt43, ↓exIx43, ↓exAt50, ↓exIx50, ↓exAt51, ↓exIx51, ↓exAt52, ↓exIx52, ↓exAt53, ↓exIx53, ↓exAt54, ↓exIx54, ↓exAt60, ↓exIx60, ↓exAt61, ↓exIx61, ↓exAt62, ↓exIx62, ↓exAt63, ↓exIx63, ↓exAt64, ↓exIx64, ↓exAt65, ↓exIx65, up_up, false_or, or_false, ↓exAtM, ↓dFlag_bl, ↓exBl, ↓exInt, ↓exRef, ↓dVar0, ↓dAug0, ↓dSet0, ↓dTgN0, ↓dTgW0, ↓dVar1, ↓dAug1, ↓dSet1, ↓dTgN1, ↓dTgW1, ↓dVar2, ↓dAug2, ↓dSet2, ↓dTgN2, ↓dTgW2, ↓dVar3, ↓dAug3, ↓dSet3, ↓dTgN3, ↓dTgW3, ↓dVar4, ↓dAug4, ↓dSet4, ↓dTgN4, ↓dTgW4, ↓dVar5, ↓dAug5, ↓dSet5, ↓dTgN5, ↓dTgW5, ↓dVar6, ↓dAug6, ↓dSet6, ↓dTgN6, ↓dTgW6, ↓dVar7, ↓dAug7, ↓dSet7, ↓dTgN7, ↓dTgW7, ↓dVar8, ↓dAug8, ↓dSet8, ↓dTgN8, ↓dTgW8, ↓dVar9, ↓dAug9, ↓dSet9, ↓dTgN9, ↓dTgW9, ↓dVar10, ↓dAug10, ↓dSet10, ↓dTgN10, ↓dTgW10, ↓dVar11, ↓dAug11, ↓dSet11, ↓dTgN11, ↓dTgW11, ↓dVar12, ↓dAug12, ↓dSet12, ↓dTgN12, ↓dTgW12, ↓dVar13, ↓dAug13, ↓dSet13, ↓dTgN13, ↓dTgW13, ↓dVar14, ↓dAug14, ↓dSet14, ↓dTgN14, ↓dTgW14, ↓dVar15, ↓dAug15, ↓dSet15, ↓dTgN15, ↓dTgW15, ↓dVar16, ↓dAug16, ↓dSet16, ↓dTgN16, ↓dTgW16, ↓dVar17, ↓dAug17, ↓dSet17, ↓dTgN17, ↓dTgW17, ↓dVar18, ↓dAug18, ↓dSet18, ↓dTgN18, ↓dTgW18, ↓dVar19, ↓dAug19, ↓dSet19, ↓dTgN19, ↓dTgW19, ↓dTg_t2, ↓dTg_t3, ↓exGetM, ↓exSumU, nD, plD, rwD, ↓dAdd_tup, ↓dAdd_ref, dSIndex, dInS, dKeysI, dValsI, dItemsI, dMulS, dEqK, dNeK, dClrK, dCntS]
      refine dLc_g fun F5 T5 U5 h5 t5 u5 => ?_; simp only [dLc, dC, dOp, dTest, dChain, dAnd, dOr, dNot, dAndV, dOrV, dNotV, dIf, dNil, dCons, dTup, dLst, dCB, d1, dIx, dNoPart, dPart, dSl, dCut, dNeg, dLen, dTupOf, dListOf, dSorted, dSum, dAll, dAny, dInt, dAbs, dMax, dMin, dIsi, isT, dNext, dSeq, dBrk, dCont, dNever, dExpr, dRet, dRetN, dIfS, dAsg, dPutI, dI0, dI, dIsN, dNotN, dSeqI, dRng1, dRng2, dRngDn, dEnumI, dZipI, dYes, dCall, dLM, dAppend, dExtend, dReverse, dInsert, dAugI, dRg1, dRg2, dTupRg, dLstRg, dNewK, dNewT, ↓S0_, ↓S1_, ↓S2_, ↓S3_, ↓S4_, ↓S5_, ↓S6_, List.map_cons, List.map_nil, List.length_cons, List.length_nil, List.replicate, List.cons_append, List.nil_append, Nat.reduceAdd, Nat.reduceSub, Nat.zero_add, List.getElem?_cons_zero, List.getElem?_cons_succ, Option.some.injEq, exists_eq_left, exists_eq_left', List.set_cons_zero, List.set_cons_succ, wipeD, D.int.injEq, D.bl.injEq, D.str.injEq, D.ref.injEq, D.tup.injEq, D.ty.injEq, true_and, and_true, forall_const, forall_eq', forall_eq, mt_int, mt_bool, mt_str, mt_tuple, mt_list, mt_dict, st_int_int, st_int_bool, st_int_str, st_int_tuple, st_int_list, st_int_dict, st_bool_int, st_bool_bool, st_bool_str, st_bool_tuple, st_bool_list, st_bool_dict, st_str_int, st_str_bool, st_str_str, st_str_tuple, st_str_list, st_str_dict, st_tuple_int, st_tuple_bool, st_tuple_str, st_tuple_tuple, st_tuple_list, st_tuple_dict, st_list_int, st_list_bool, st_list_str, st_list_tuple, st_list_list, st_list_dict, st_dict_int, st_dict_bool, st_dict_str, st_dict_tuple, st_dict_list, st_dict_dict, eq_self, Bool.true_eq_false, Bool.false_eq_true, false_implies, true_implies, implies_true, decide_eq_true_eq, decide_eq_false_iff_not, Bool.not_true, Bool.not_false, Bool.not_eq_true, Bool.not_eq_false, Bool.not_eq_true', Bool.not_eq_false', not_true_eq_false, not_false_eq_true, false_and, and_false, or_false, false_or, reduceCtorEq, ↓exLSu, ↓exDKu, ↓exDKd, ↓exLSd, ↓exLu, ↓dIxRu, ↓dPutu, ↓dGetAu, ↓dEq_int, ↓dNe_int, ↓dEq_bl, ↓dNe_bl, ↓dEq_str, ↓dNe_str, ↓dAdd_int, ↓exAt10, ↓exIx10, ↓exAt20, ↓exIx20, ↓exAt21, ↓exIx21, ↓exAt30, ↓exIx30, ↓exAt31, ↓exIx31, ↓exAt32, ↓exIx32, ↓exAt40, ↓exIx40, ↓exAt41, ↓exIx41, ↓exAt42, ↓exIx42, ↓exAt43, ↓exIx43, ↓exAt50, ↓exIx50, ↓exAt51, ↓exIx51, ↓exAt52, ↓exIx52, ↓exAt53, ↓exIx53, ↓exAt54, ↓exIx54, ↓exAt60, ↓exIx60, ↓exAt61, ↓exIx61, ↓exAt62, ↓exIx62, ↓exAt63, ↓exIx63, ↓exAt64, ↓exIx64, ↓exAt65, ↓exIx65, up_up, false_or, or_false, ↓exAtM, ↓dFlag_bl, ↓exBl, ↓exInt, ↓exRef, ↓dVar0, ↓dAug0, ↓dSet0, ↓dTgN0, ↓dTgW0, ↓dVar1, ↓dAug1, ↓dSet1, ↓dTgN1, ↓dTgW1, ↓dVar2, ↓dAug2, ↓dSet2, ↓dTgN2, ↓dTgW2, ↓dVar3, ↓dAug3, ↓dSet3, ↓dTgN3, ↓dTgW3, ↓dVar4, ↓dAug4, ↓dSet4, ↓dTgN4, ↓dTgW4, ↓dVar5, ↓dAug5, ↓dSet5, ↓dTgN5, ↓dTgW5, ↓dVar6, ↓dAug6, ↓dSet6, ↓dTgN6, ↓dTgW6, ↓dVar7, ↓dAug7, ↓dSet7, ↓dTgN7, ↓dTgW7, ↓dVar8, ↓dAug8, ↓dSet8, ↓dTgN8, ↓dTgW8, ↓dVar9, ↓dAug9, ↓dSet9, ↓dTgN9, ↓dTgW9, ↓dVar10, ↓dAug10, ↓dSet10, ↓dTgN10, ↓dTgW10, ↓dVar11, ↓dAug11, ↓dSet11, ↓dTgN11, ↓dTgW11, ↓dVar12, ↓dAug12, ↓dSet12, ↓dTgN12, ↓dTgW12, ↓dVar13, ↓dAug13, ↓dSet13, ↓dTgN13, ↓dTgW13, ↓dVar14, ↓dAug14, ↓dSet14, ↓dTgN14, ↓dTgW14, ↓dVar15, ↓dAug15, ↓dSet15, ↓dTgN15, ↓dTgW15, ↓dVar16, ↓dAug16, ↓dSet16, ↓dTgN16, ↓dTgW16, ↓dVar17, ↓dAug17, ↓dSet17, ↓dTgN17, ↓dTgW17, ↓dVar18, ↓dAug18, ↓dSet18, ↓dTgN18, ↓dTgW18, ↓dVar19, ↓dAug19, ↓dSet19, ↓dTgN19, ↓dTgW19, ↓dTg_t2, ↓dTg_t3, ↓exGetM, ↓exSumU, nD, plD, rwD, ↓dAdd_tup, ↓dAdd_ref, dSIndex, dInS, dKeysI, dValsI, dItemsI, dMulS, dEqK, dNeK, dClrK, dCntS]
      refine ⟨_, .inl hq7, by rw [List.length_map]; exact Nat.le_trans gw'.few (by decide), lcM (fun e : Str × List Str => D.str e.1) (fun e => D.tup [D.str e.1, D.tup (e.2.map D.str)]) g' rfl (fun l e t pre acc P2 ee hP2 => ?_) ?_⟩
      · have he := mem' e (by rw [ee]; simp)
        refine ⟨.inl hq7, ?_⟩
        subst t5; subst u5
        simp (config := {failIfUnchanged := false}) only [dC, dOp, dTest, dChain, dAnd, dOr, dNot, dAndV, dOrV, dNotV, dIf, dNil, dCons, dTup, dLst, dCB, d1, dIx, dNoPart, dPart, dSl, dCut, dNeg, dLen, dTupOf, dListOf, dSorted, dSum, dAll, dAny, dInt, dAbs, dMax, dMin, dIsi, isT, dNext, dSeq, dBrk, dCont, dNever, dExpr, dRet, dRetN, dIfS, dAsg, dPutI, dI0, dI, dIsN, dNotN, dSeqI, dRng1, dRng2, dRngDn, dEnumI, dZipI, dYes, dCall, dLM, dAppend, dExtend, dReverse, dInsert, dAugI, dRg1, dRg2, dTupRg, dLstRg, dNewK, dNewT, ↓S0_, ↓S1_, ↓S2_, ↓S3_, ↓S4_, ↓S5_, ↓S6_, List.map_cons, List.map_nil, List.length_cons, List.length_nil, List.replicate, List.cons_append, List.nil_append, Nat.reduceAdd, Nat.reduceSub, Nat.zero_add, List.getElem?_cons_zero, List.getElem?_cons_succ, Option.some.injEq, exists_eq_left, exists_eq_left', List.set_cons_zero, List.set_cons_succ, wipeD, D.int.injEq, D.bl.injEq, D.str.injEq, D.ref.injEq, D.tup.injEq, D.ty.injEq, true_and, and_true, forall_const, forall_eq', forall_eq, mt_int, mt_bool, mt_str, mt_tuple, mt_list, mt_dict, st_int_int, st_int_bool, st_int_str, st_int_tuple, st_int_list, st_int_dict, st_bool_int, st_bool_bool, st_bool_str, st_bool_tuple, st_bool_list, st_bool_dict, st_str_int, st_str_bool, st_str_str, st_str_tuple, st_str_list, st_str_dict, st_tuple_int, st_tuple_bool, st_tuple_str, st_tuple_tuple, st_tuple_list, st_tuple_dict, st_list_int, st_list_bool, st_list_str, st_list_tuple, st_list_list, st_list_dict, st_dict_int, st_dict_bool, st_dict_str, st_dict_tuple, st_dict_list, st_dict_dict, eq_self, Bool.true_eq_false, Bool.false_eq_true, false_implies, true_implies, implies_true, decide_eq_true_eq, decide_eq_false_iff_not, Bool.not_true, Bool.not_false, Bool.not_eq_true, Bool.not_eq_false, Bool.not_eq_true', Bool.not_eq_false', not_true_eq_false, not_false_eq_true, false_and, and_false, or_false, false_or, reduceCtorEq, ↓exLSu, ↓exDKu, ↓exDKd, ↓exLSd, ↓exLu, ↓dIxRu, ↓dPutu, ↓dGetAu, ↓dEq_int, ↓dNe_int, ↓dEq_bl, ↓dNe_bl, ↓dEq_str, ↓dNe_str, ↓dAdd_int, ↓exAt10, ↓exIx10, ↓exAt20, ↓exIx20, ↓exAt21, ↓exIx21, ↓exAt30, ↓exIx30, ↓exAt31, ↓exIx31, ↓exAt32, ↓exIx32, ↓exAt40, ↓exIx40, ↓exAt41, ↓exIx41, ↓exAt42, ↓exIx42, ↓exAt43, ↓exIx43, ↓exAt50, ↓exIx50, ↓exAt51, ↓exIx51, ↓exAt52, ↓exIx52, ↓exAt53, ↓exIx53, ↓exAt54, ↓exIx54, ↓exAt60, ↓exIx60, ↓exAt61, ↓exIx61, ↓exAt62, ↓exIx62, ↓exAt63, ↓exIx63, ↓exAt64, ↓exIx64, ↓exAt65, ↓exIx65, up_up, false_or, or_false, ↓exAtM, ↓dFlag_bl, ↓exBl, ↓exInt, ↓exRef, ↓dVar0, ↓dAug0, ↓dSet0, ↓dTgN0, ↓dTgW0, ↓dVar1, ↓dAug1, ↓dSet1, ↓dTgN1, ↓dTgW1, ↓dVar2, ↓dAug2, ↓dSet2, ↓dTgN2, ↓dTgW2, ↓dVar3, ↓dAug3, ↓dSet3, ↓dTgN3, ↓dTgW3, ↓dVar4, ↓dAug4, ↓dSet4, ↓dTgN4, ↓dTgW4, ↓dVar5, ↓dAug5, ↓dSet5, ↓dTgN5, ↓dTgW5, ↓dVar6, ↓dAug6, ↓dSet6, ↓dTgN6, ↓dTgW6, ↓dVar7, ↓dAug7, ↓dSet7, ↓dTgN7, ↓dTgW7, ↓dVar8, ↓dAug8, ↓dSet8, ↓dTgN8, ↓dTgW8, ↓dVar9, ↓dAug9, ↓dSet9, ↓dTgN9, ↓dTgW9, ↓dVar10, ↓dAug10, ↓dSet10, ↓dTgN10, ↓dTgW10, ↓dVar11, ↓dAug11, ↓dSet11, ↓dTgN11, ↓dTgW11, ↓dVar12, ↓dAug12, ↓dSet12, ↓dTgN12, ↓dTgW12, ↓dVar13, ↓dAug13, ↓dSet13, ↓dTgN13, ↓dTgW13, ↓dVar14, ↓dAug14, ↓dSet14, ↓dTgN14, ↓dTgW14, ↓dVar15, ↓dAug15, ↓dSet15, ↓dTgN15, ↓dTgW15, ↓dVar16, ↓dAug16, ↓dSet16, ↓dTgN16, ↓dTgW16, ↓dVar17, ↓dAug17, ↓dSet17, ↓dTgN17, ↓dTgW17, ↓dVar18, ↓dAug18, ↓dSet18, ↓dTgN18, ↓dTgW18, ↓dVar19, ↓dAug19, ↓dSet19, ↓dTgN19, ↓dTgW19, ↓dTg_t2, ↓dTg_t3, ↓exGetM, ↓exSumU, nD, plD, rwD, ↓dAdd_tup, ↓dAdd_ref, dSIndex, dInS, dKeysI, dValsI, dItemsI, dMulS, dEqK, dNeK, dClrK, dCntS]
        refine .inr (.inl ⟨_, .inr e.1, _, rfl, .inl hF7, val_g gw (List.mem_map.mpr ⟨e, he, rfl⟩), ?_⟩)
        rw [lf_of gw he]
        exact sb0 hP2
      · refine ⟨.inl hq7, fun r hr => ?_⟩
        rw [h5]
        clear h5 t5 u5
        simp (config := {failIfUnchanged := false}) only [dC, dOp, dTest, dChain, dAnd, dOr, dNot, dAndV, dOrV, dNotV, dIf, dNil, dCons, dTup, dLst, dCB, d1, dIx, dNoPart, dPart, dSl, dCut, dNeg, dLen, dTupOf, dListOf, dSorted, dSum, dAll, dAny, dInt, dAbs, dMax, dMin, dIsi, isT, dNext, dSeq, dBrk, dCont, dNever, dExpr, dRet, dRetN, dIfS, dAsg, dPutI, dI0, dI, dIsN, dNotN, dSeqI, dRng1, dRng2, dRngDn, dEnumI, dZipI, dYes, dCall, dLM, dAppend, dExtend, dReverse, dInsert, dAugI, dRg1, dRg2, dTupRg, dLstRg, dNewK, dNewT, ↓S0_, ↓S1_, ↓S2_, ↓S3_, ↓S4_, ↓S5_, ↓S6_, List.map_cons, List.map_nil, List.length_cons, List.length_nil, List.replicate, List.cons_append, List.nil_append, Nat.reduceAdd, Nat.reduceSub, Nat.zero_add, List.getElem?_cons_zero, List.getElem?_cons_succ, Option.some.injEq, exists_eq_left, exists_eq_left', List.set_cons_zero, List.set_cons_succ, wipeD, D.int.injEq, D.bl.injEq, D.str.injEq, D.ref.injEq, D.tup.injEq, D.ty.injEq, true_and, and_true, forall_const, forall_eq', forall_eq, mt_int, mt_bool, mt_str, mt_tuple, mt_list, mt_dict, st_int_int, st_int_bool, st_int_str, st_int_tuple, st_int_list, st_int_dict, st_bool_int, st_bool_bool, st_bool_str, st_bool_tuple, st_bool_list, st_bool_dict, st_str_int, st_str_bool, st_str_str, st_str_tuple, st_str_list, st_str_dict, st_tuple_int, st_tuple_bool, st_tuple_str, st_tuple_tuple, st_tuple_list, st_tuple_dict, st_list_int, st_list_bool, st_list_str, st_list_tuple, st_list_list, st_list_dict, st_dict_int, st_dict_bool, st_dict_str, st_dict_tuple, st_dict_list, st_dict_dict, eq_self, Bool.true_eq_false, Bool.false_eq_true, false_implies, true_implies, implies_true, decide_eq_true_eq, decide_eq_false_iff_not, Bool.not_true, Bool.not_false, Bool.not_eq_true, Bool.not_eq_false, Bool.not_eq_true', Bool.not_eq_false', not_true_eq_false, not_false_eq_true, false_and, and_false, or_false, false_or, reduceCtorEq, ↓exLSu, ↓exDKu, ↓exDKd, ↓exLSd, ↓exLu, ↓dIxRu, ↓dPutu, ↓dGetAu, ↓dEq_int, ↓dNe_int, ↓dEq_bl, ↓dNe_bl, ↓dEq_str, ↓dNe_str, ↓dAdd_int, ↓exAt10, ↓exIx10, ↓exAt20, ↓exIx20, ↓exAt21, ↓exIx21, ↓exAt30, ↓exIx30, ↓exAt31, ↓exIx31, ↓exAt32, ↓exIx32, ↓exAt40, ↓exIx40, ↓exAt41, ↓exIx41, ↓exAt42, ↓exIx42, ↓exAt43, ↓exIx43, ↓exAt50, ↓exIx50, ↓exAt51, ↓exIx51, ↓exAt52, ↓exIx52, ↓exAt53, ↓exIx53, ↓exAt54, ↓exIx54, ↓exAt60, ↓exIx60, ↓exAt61, ↓exIx61, ↓exAt62, ↓exIx62, ↓exAt63, ↓exIx63, ↓exAt64, ↓exIx64, ↓exAt65, ↓exIx65, up_up, false_or, or_false, ↓exAtM, ↓dFlag_bl, ↓exBl, ↓exInt, ↓exRef, ↓dVar0, ↓dAug0, ↓dSet0, ↓dTgN0, ↓dTgW0, ↓dVar1, ↓dAug1, ↓dSet1, ↓dTgN1, ↓dTgW1, ↓dVar2, ↓dAug2, ↓dSet2, ↓dTgN2, ↓dTgW2, ↓dVar3, ↓dAug3, ↓dSet3, ↓dTgN3, ↓dTgW3, ↓dVar4, ↓dAug4, ↓dSet4, ↓dTgN4, ↓dTgW4, ↓dVar5, ↓dAug5, ↓dSet5, ↓dTgN5, ↓dTgW5, ↓dVar6, ↓dAug6, ↓dSet6, ↓dTgN6, ↓dTgW6, ↓dVar7, ↓dAug7, ↓dSet7, ↓dTgN7, ↓dTgW7, ↓dVar8, ↓dAug8, ↓dSet8, ↓dTgN8, ↓dTgW8, ↓dVar9, ↓dAug9, ↓dSet9, ↓dTgN9, ↓dTgW9, ↓dVar10, ↓dAug10, ↓dSet10, ↓dTgN10, ↓dTgW10, ↓dVar11, ↓dAug11, ↓dSet11, ↓dTgN11, ↓dTgW11, ↓dVar12, ↓dAug12, ↓dSet12, ↓dTgN12, ↓dTgW12, ↓dVar13, ↓dAug13, ↓dSet13, ↓dTgN13, ↓dTgW13, ↓dVar14, ↓dAug14, ↓dSet14, ↓dTgN14, ↓dTgW14, ↓dVar15, ↓dAug15, ↓dSet15, ↓dTgN15, ↓dTgW15, ↓dVar16, ↓dAug16, ↓dSet16, ↓dTgN16, ↓dTgW16, ↓dVar17, ↓dAug17, ↓dSet17, ↓dTgN17, ↓dTgW17, ↓dVar18, ↓dAug18, ↓dSet18, ↓dTgN18, ↓dTgW18, ↓dVar19, ↓dAug19, ↓dSet19, ↓dTgN19, ↓dTgW19, ↓dTg_t2, ↓dTg_t3, ↓exGetM, ↓exSumU, nD, plD, rwD, ↓dAdd_tup, ↓dAdd_ref, dSIndex, dInS, dKeysI, dValsI, dItemsI, dMulS, dEqK, dNeK, dClrK, dCntS]
        have y2 := (Up.new (o := .lst (g'.map fun e => D.tup [D.str e.1, D.tup (e.2.map D.str)])) y0.pool hr (by intro _ z; cases z)).trans y0
        refine ⟨r, rfl, .inl ⟨gD g', LS_up.mpr (by unfold gD; rw [List.map_map]; rfl), fun w hw => ?_⟩⟩
        rw [merge_gD gw']
        exact _root_.T3.dn0 (h w _ g' ((Up.new (o := .dK (gD g')) y2.pool hw (by intro _ z; cases z)).trans y2) up_same gw')
end
/-! gaps of each kind, round by round -/
def gp (g : Gr) (k : Str) : Nat → Str → Nat
  | 0, o => if o = k then 1 else 0
  | t + 1, o => (g.map fun e => e.2.count o * gp g k t e.1).sum
def gpK (g : Gr) (f : Str → Nat) : List (Key × D) := g.map fun e => (.inr e.1, nD (f e.1))
theorem val_gp {g : Gr} (G : Grw g) (f : Str → Nat) {k : Str} (h : k ∈ g.map (·.1)) : valD (gpK g f) (.inr k) = some (nD (f k)) := by
  obtain ⟨e, he, rfl⟩ := List.mem_map.mp h
  have := valD_map (fun e : Str × List Str => (.inr e.1 : Key)) (fun e => nD (f e.1)) g (.inr e.1)
  have e2 : (g.find? fun a => decide ((.inr a.1 : Key) = .inr e.1)) = g.find? fun a => decide (a.1 = e.1) := by
    congr 1
    funext a
    exact decide_eq_decide.mpr ⟨fun z => by injection z, fun z => by rw [z]⟩
  rw [e2, find_of G.nd he] at this
  exact this
theorem put_gp {g : Gr} (G : Grw g) (f : Str → Nat) {k : Str} (h : k ∈ g.map (·.1)) (n : Nat) : putKD (gpK g f) (.inr k) (nD n) = gpK g (fun o => if o = k then n else f o) := by
  unfold putKD gpK
  have ha : ((g.map fun e => ((.inr e.1 : Key), nD (f e.1))).any fun kv => decide (kv.1 = .inr k)) = true := by
    obtain ⟨e, he, rfl⟩ := List.mem_map.mp h
    exact List.any_eq_true.mpr ⟨_, List.mem_map.mpr ⟨e, he, rfl⟩, decide_eq_true rfl⟩
  rw [if_pos ha, List.map_map]
  refine List.map_congr_left fun e _ => ?_
  show (if (.inr e.1 : Key) = .inr k then ((.inr e.1 : Key), nD n) else (.inr e.1, nD (f e.1))) = ((.inr e.1 : Key), nD (if e.1 = k then n else f e.1))
  by_cases z : e.1 = k
  · rw [if_pos (by rw [z]), if_pos z]
  · rw [if_neg (fun y => z (by injection y)), if_neg z]
theorem gp_len (g : Gr) (f : Str → Nat) : (gpK g f).length = g.length := by unfold gpK; rw [List.length_map]
/-- what has come to a kind from the first kinds -/
def gl (l : Gr) (f : Str → Nat) (o : Str) : Nat := (l.map fun e => e.2.count o * f e.1).sum
theorem gl_snoc (l : Gr) (e : Str × List Str) (f : Str → Nat) (o : Str) : gl (l ++ [e]) f o = gl l f o + e.2.count o * f e.1 := by
  unfold gl
  rw [List.map_append, List.sum_append]
  simp
theorem gp_succ (g : Gr) (k : Str) (t : Nat) : gp g k (t + 1) = gl g (gp g k t) := rfl
section
variable {P : Program} {w : World} {K : PySem.W.Frag} {mg : Str → Option Value} {base : Heap}
theorem pr_gaps (G : Gv K mg) : Pr P w K mg base "gaps" 4 ["growth", "kind", "many"] (S3 fun x y z M Q => ∃ p g k m, x = .ref p ∧ y = .str k ∧ z = nD m ∧ M p = some (.dK (gD g)) ∧ Grw g ∧ k ∈ g.map (·.1) ∧ m ≤ 200 ∧ ∀ q M', M q = none → Sub M' M → M' q = some (.dK (gpK g (gp g k m))) → Q (.ref q) M') := by
  refine (pr3 (k := 3) G.d_gaps bi_gaps sc_gaps S3n (fun f cdv A outer s H E hr => (b_cons (s_expr (e_callP (pr_check_growth G) (hr.mono (by decide)) (by rfl) pass0 (a_cons (e_var 0) (a_cons (e_var 1) a_nil))))
      (b_cons (s_expr (e_callP (pr_check_number G) (hr.mono (by decide)) (by rfl) pass0 (a_cons (e_var 2) (a_cons e_int (a_cons (e_gintP G.c_MOST_ROUNDS (by rfl)) a_nil)))))
      (b_cons (s_lock (s_setDc 3 (own := [("other", 6)]) rfl sc_gaps.nd (swd_true rfl rfl rfl (by decide +kernel)) (i_keys (e_var 0)) (blkOk_by (by rfl)) (fun _ _ _ _ _ => (g_nm 6 sc_gaps.nd)) (fun _ _ _ _ _ => ts_nil) (fun _ _ _ _ _ => (e_var 6)) (fun _ _ _ _ _ => (e_callTy cd_int (by rfl) G.b_int rfl (a_cons (e_cmp (od_eq (hu3 hr)) (e_var 6) (e_var 1)) a_nil)))))
      (b_cons (s_for PassesOwn.never rfl (i_rng1 (by rfl) G.b_range (a_cons (e_var 2) a_nil)) (g_nm 4 sc_gaps.nd)
      (b_cons (s_lock (s_setDc 5 (own := [("other", 6)]) rfl sc_gaps.nd (swd_true rfl rfl rfl (by decide +kernel)) (i_keys (e_var 0)) (blkOk_by (by rfl)) (fun _ _ _ _ _ => (g_nm 6 sc_gaps.nd)) (fun _ _ _ _ _ => ts_nil) (fun _ _ _ _ _ => (e_var 6)) (fun _ _ _ _ _ => e_int)))
      (b_cons (s_lock (s_for PassesOwn.never rfl (i_keys (e_var 0)) (g_nm 6 sc_gaps.nd)
      (b_one (s_for PassesOwn.never rfl (i_seq (e_ix (ixd (hu_of hr)) (e_var 0) (e_var 6))) (g_nm 7 sc_gaps.nd)
      (b_one (s_augI (hu_of hr) (e_var 5) (e_var 7) (e_ix (ixd (hu_of hr)) (e_var 3) (e_var 6)) ip_add3))))))
      (b_one (s_set 3 sc_gaps.nd (e_var 5))))))
      (b_one (s_ret (e_var 3))))))))) ?_
  rintro _ M Q E ⟨_, _, _, rfl, p, g, k, m, rfl, rfl, rfl, hp, hg, hk, hm, h⟩ H rep
  refine ⟨M, rep, fun _ h => h, ?_⟩
  simp only [startD, List.map_cons, List.map_nil, List.length_cons, List.length_nil, Nat.reduceAdd, Nat.reduceSub, Nat.zero_add, List.replicate, List.cons_append, List.nil_append]; simp (config := {failIfUnchanged := false}) only [dC, dOp, dTest, dChain, dAnd, dOr, dNot, dAndV, dOrV, dNotV, dIf, dNil, dCons, dTup, dLst, dCB, d1, dIx, dNoPart, dPart, dSl, dCut, dNeg, dLen, dTupOf, dListOf, dSorted, dSum, dAll, dAny, dInt, dAbs, dMax, dMin, dIsi, isT, dNext, dSeq, dBrk, dCont, dNever, dExpr, dRet, dRetN, dIfS, dAsg, dPutI, dI0, dI, dIsN, dNotN, dSeqI, dRng1, dRng2, dRngDn, dEnumI, dZipI, dYes, dCall, dLM, dAppend, dExtend, dReverse, dInsert, dAugI, dRg1, dRg2, dTupRg, dLstRg, dNewK, dNewT, ↓S0_, ↓S1_, ↓S2_, ↓S3_, ↓S4_, ↓S5_, ↓S6_, List.map_cons, List.map_nil, List.length_cons, List.length_nil, List.replicate, List.cons_append, List.nil_append, Nat.reduceAdd, Nat.reduceSub, Nat.zero_add, List.getElem?_cons_zero, List.getElem?_cons_succ, Option.some.injEq, exists_eq_left, exists_eq_left', List.set_cons_zero, List.set_cons_succ, wipeD, D.int.injEq, D.bl.injEq, D.str.injEq, D.ref.injEq, D.tup.injEq, D.ty.injEq, true_and, and_true, forall_const, forall_eq', forall_eq, mt_int, mt_bool, mt_str, mt_tuple, mt_list, mt_dict, st_int_int, st_int_bool, st_int_str, st_int_tuple, st_int_list, st_int_dict, st_bool_int, st_bool_bool, st_bool_str, st_bool_tuple, st_bool_list, st_bool_dict, st_str_int, st_str_bool, st_str_str, st_str_tuple, st_str_list, st_str_dict, st_tuple_int, st_tuple_bool, st_tuple_str, st_tuple_tuple, st_tuple_list, st_tuple_dict, st_list_int, st_list_bool, st_list_str, st_list_tuple, st_list_list, st_list_dict, st_dict_int, st_dict_bool, st_dict_str, st_dict_tuple, st_dict_list, st_dict_dict, eq_self, Bool.true_eq_false, Bool.false_eq_true, false_implies, true_implies, implies_true, decide_eq_true_eq, decide_eq_false_iff_not, Bool.not_true, Bool.not_false, Bool.not_eq_true, Bool.not_eq_false, Bool.not_eq_true', Bool.not_eq_false', not_true_eq_false, not_false_eq_true, false_and, and_false, or_false, false_or, reduceCtorEq, ↓exLSu, ↓exDKu, ↓exDKd, ↓exLSd, ↓exLu, ↓dIxRu, ↓dPutu, ↓dGetAu, ↓dEq_int, ↓dNe_int, ↓dEq_bl, ↓dNe_bl, ↓dEq_str, ↓dNe_str, ↓dAdd_int, ↓exAt10, ↓exIx10, ↓exAt20, ↓exIx20, ↓exAt21, ↓exIx21, ↓exAt30, ↓exIx30, ↓exAt31, ↓exIx31, ↓exAt32, ↓exIx32, ↓exAt40, ↓exIx40, ↓exAt41, ↓exIx41, ↓exAt42, ↓exIx42, ↓exAt43, ↓exIx43, ↓exAt50, ↓exIx50, ↓exAt51, ↓exIx51, ↓exAt52, ↓exIx52, ↓exAt53, ↓exIx53, ↓exAt54, ↓exIx54, ↓exAt60, ↓exIx60, ↓exAt61, ↓exIx61, ↓exAt62, ↓exIx62, ↓exAt63, ↓exIx63, ↓exAt64, ↓exIx64, ↓exAt65, ↓exIx65, up_up, false_or, or_false, ↓exAtM, ↓dFlag_bl, ↓exBl, ↓exInt, ↓exRef, ↓dVar0, ↓dAug0, ↓dSet0, ↓dTgN0, ↓dTgW0, ↓dVar1, ↓dAug1, ↓dSet1, ↓dTgN1, ↓dTgW1, ↓dVar2, ↓dAug2, ↓dSet2, ↓dTgN2, ↓dTgW2, ↓dVar3, ↓dAug3, ↓dSet3, ↓dTgN3, ↓dTgW3, ↓dVar4, ↓dAug4, ↓dSet4, ↓dTgN4, ↓dTgW4, ↓dVar5, ↓dAug5, ↓dSet5, ↓dTgN5, ↓dTgW5, ↓dVar6, ↓dAug6, ↓dSet6, ↓dTgN6, ↓dTgW6, ↓dVar7, ↓dAug7, ↓dSet7, ↓dTgN7, ↓dTgW7, ↓dVar8, ↓dAug8, ↓dSet8, ↓dTgN8, ↓dTgW8, ↓dVar9, ↓dAug9, ↓dSet9, ↓dTgN9, ↓dTgW9, ↓dVar10, ↓dAug10, ↓dSet10, ↓dTgN10, ↓dTgW10, ↓dVar11, ↓dAug11, ↓dSet11, ↓dTgN11, ↓dTgW11, ↓dVar12, ↓dAug12, ↓dSet12, ↓dTgN12, ↓dTgW12, ↓dVar13, ↓dAug13, ↓dSet13, ↓dTgN13, ↓dTgW13, ↓dVar14, ↓dAug14, ↓dSet14, ↓dTgN14, ↓dTgW14, ↓dVar15, ↓dAug15, ↓dSet15, ↓dTgN15, ↓dTgW15, ↓dVar16, ↓dAug16, ↓dSet16, ↓dTgN16, ↓dTgW16, ↓dVar17, ↓dAug17, ↓dSet17, ↓dTgN17, ↓dTgW17, ↓dVar18, ↓dAug18, ↓dSet18, ↓dTgN18, ↓dTgW18, ↓dVar19, ↓dAug19, ↓dSet19, ↓dTgN19, ↓dTgW19, ↓dTg_t2, ↓dTg_t3, ↓exGetM, ↓exSumU, nD, plD, rwD, ↓dAdd_tup, ↓dAdd_ref, dSIndex, dInS, dKeysI, dValsI, dItemsI, dMulS, dEqK, dNeK, dClrK, dCntS]
  refine ⟨p, g, k, rfl, rfl, hp, hg, hk, by omega, by omega, p, gD g, hp, fun od ws => ?_⟩
  have hz : up M p (.dKz (gD g) od ws) p = some (.dKz (gD g) od ws) := up_same
  have hkl : (gD g).map (fun kv => T3.kD kv.1) = g.map fun e => D.str e.1 := by rw [gD_keys, List.map_map]; rfl
  have hlen : ((gD g).map fun kv => T3.kD kv.1).length ≤ sizeLine := by rw [List.length_map, gD_len]; exact Nat.le_trans hg.few (by decide)
  have fin0 : ∀ f : Str → Nat, g.foldl (fun acc a => putKD acc (.inr a.1) (nD (f a.1))) [] = gpK g f := fun f => by
    rw [fold_put g [] (by rw [List.map_nil, List.nil_append]; exact keys_nd hg), List.nil_append]; rfl
  have swap : ∀ (M' : Hd) (od : Obj) (ws : List (Key × V)) (q : Addr) (o : O), q ≠ p → M' p = some (.dK (gD g)) → up (up (up M' p (.dKz (gD g) od ws)) q o) p (.dK (gD g)) = up M' q o := fun M' od ws q o nq h => by rw [up_comm nq, up_up, up_self h]
  generalize hMz : up M p (.dKz (gD g) od ws) = Mz at *
  refine dDc_g fun F1 T1 U1 V1 h1 t1 u1 v1 => ?_; simp only [dDc, dC, dOp, dTest, dChain, dAnd, dOr, dNot, dAndV, dOrV, dNotV, dIf, dNil, dCons, dTup, dLst, dCB, d1, dIx, dNoPart, dPart, dSl, dCut, dNeg, dLen, dTupOf, dListOf, dSorted, dSum, dAll, dAny, dInt, dAbs, dMax, dMin, dIsi, isT, dNext, dSeq, dBrk, dCont, dNever, dExpr, dRet, dRetN, dIfS, dAsg, dPutI, dI0, dI, dIsN, dNotN, dSeqI, dRng1, dRng2, dRngDn, dEnumI, dZipI, dYes, dCall, dLM, dAppend, dExtend, dReverse, dInsert, dAugI, dRg1, dRg2, dTupRg, dLstRg, dNewK, dNewT, ↓S0_, ↓S1_, ↓S2_, ↓S3_, ↓S4_, ↓S5_, ↓S6_, List.map_cons, List.map_nil, List.length_cons, List.length_nil, List.replicate, List.cons_append, List.nil_append, Nat.reduceAdd, Nat.reduceSub, Nat.zero_add, List.getElem?_cons_zero, List.getElem?_cons_succ, Option.some.injEq, exists_eq_left, exists_eq_left', List.set_cons_zero, List.set_cons_succ, wipeD, D.int.injEq, D.bl.injEq, D.str.injEq, D.ref.injEq, D.tup.injEq, D.ty.injEq, true_and, and_true, forall_const, forall_eq', forall_eq, mt_int, mt_bool, mt_str, mt_tuple, mt_list, mt_dict, st_int_int, st_int_bool, st_int_str, st_int_tuple, st_int_list, st_int_dict, st_bool_int, st_bool_bool, st_bool_str, st_bool_tuple, st_bool_list, st_bool_dict, st_str_int, st_str_bool, st_str_str, st_str_tuple, st_str_list, st_str_dict, st_tuple_int, st_tuple_bool, st_tuple_str, st_tuple_tuple, st_tuple_list, st_tuple_dict, st_list_int, st_list_bool, st_list_str, st_list_tuple, st_list_list, st_list_dict, st_dict_int, st_dict_bool, st_dict_str, st_dict_tuple, st_dict_list, st_dict_dict, eq_self, Bool.true_eq_false, Bool.false_eq_true, false_implies, true_implies, implies_true, decide_eq_true_eq, decide_eq_false_iff_not, Bool.not_true, Bool.not_false, Bool.not_eq_true, Bool.not_eq_false, Bool.not_eq_true', Bool.not_eq_false', not_true_eq_false, not_false_eq_true, false_and, and_false, or_false, false_or, reduceCtorEq, ↓exLSu, ↓exDKu, ↓exDKd, ↓exLSd, ↓exLu, ↓dIxRu, ↓dPutu, ↓dGetAu, ↓dEq_int, ↓dNe_int, ↓dEq_bl, ↓dNe_bl, ↓dEq_str, ↓dNe_str, ↓dAdd_int, ↓exAt10, ↓exIx10, ↓exAt20, ↓exIx20, ↓exAt21, ↓exIx21, ↓exAt30, ↓exIx30, ↓exAt31, ↓exIx31, ↓exAt32, ↓exIx32, ↓exAt40, ↓exIx40, ↓exAt41, ↓exIx41, ↓exAt42, ↓exIx42, ↓exAt43, ↓exIx43, ↓exAt50, ↓exIx50, ↓exAt51, ↓exIx51, ↓exAt52, ↓exIx52, ↓exAt53, ↓exIx53, ↓exAt54, ↓exIx54, ↓exAt60, ↓exIx60, ↓exAt61, ↓exIx61, ↓exAt62, ↓exIx62, ↓exAt63, ↓exIx63, ↓exAt64, ↓exIx64, ↓exAt65, ↓exIx65, up_up, false_or, or_false, ↓exAtM, ↓dFlag_bl, ↓exBl, ↓exInt, ↓exRef, ↓dVar0, ↓dAug0, ↓dSet0, ↓dTgN0, ↓dTgW0, ↓dVar1, ↓dAug1, ↓dSet1, ↓dTgN1, ↓dTgW1, ↓dVar2, ↓dAug2, ↓dSet2, ↓dTgN2, ↓dTgW2, ↓dVar3, ↓dAug3, ↓dSet3, ↓dTgN3, ↓dTgW3, ↓dVar4, ↓dAug4, ↓dSet4, ↓dTgN4, ↓dTgW4, ↓dVar5, ↓dAug5, ↓dSet5, ↓dTgN5, ↓dTgW5, ↓dVar6, ↓dAug6, ↓dSet6, ↓dTgN6, ↓dTgW6, ↓dVar7, ↓dAug7, ↓dSet7, ↓dTgN7, ↓dTgW7, ↓dVar8, ↓dAug8, ↓dSet8, ↓dTgN8, ↓dTgW8, ↓dVar9, ↓dAug9, ↓dSet9, ↓dTgN9, ↓dTgW9, ↓dVar10, ↓dAug10, ↓dSet10, ↓dTgN10, ↓dTgW10, ↓dVar11, ↓dAug11, ↓dSet11, ↓dTgN11, ↓dTgW11, ↓dVar12, ↓dAug12, ↓dSet12, ↓dTgN12, ↓dTgW12, ↓dVar13, ↓dAug13, ↓dSet13, ↓dTgN13, ↓dTgW13, ↓dVar14, ↓dAug14, ↓dSet14, ↓dTgN14, ↓dTgW14, ↓dVar15, ↓dAug15, ↓dSet15, ↓dTgN15, ↓dTgW15, ↓dVar16, ↓dAug16, ↓dSet16, ↓dTgN16, ↓dTgW16, ↓dVar17, ↓dAug17, ↓dSet17, ↓dTgN17, ↓dTgW17, ↓dVar18, ↓dAug18, ↓dSet18, ↓dTgN18, ↓dTgW18, ↓dVar19, ↓dAug19, ↓dSet19, ↓dTgN19, ↓dTgW19, ↓dTg_t2, ↓dTg_t3, ↓exGetM, ↓exSumU, nD, plD, rwD, ↓dAdd_tup, ↓dAdd_ref, dSIndex, dInS, dKeysI, dValsI, dItemsI, dMulS, dEqK, dNeK, dClrK, dCntS]
  simp (config := {failIfUnchanged := false}) only [dC, dOp, dTest, dChain, dAnd, dOr, dNot, dAndV, dOrV, dNotV, dIf, dNil, dCons, dTup, dLst, dCB, d1, dIx, dNoPart, dPart, dSl, dCut, dNeg, dLen, dTupOf, dListOf, dSorted, dSum, dAll, dAny, dInt, dAbs, dMax, dMin, dIsi, isT, dNext, dSeq, dBrk, dCont, dNever, dExpr, dRet, dRetN, dIfS, dAsg, dPutI, dI0, dI, dIsN, dNotN, dSeqI, dRng1, dRng2, dRngDn, dEnumI, dZipI, dYes, dCall, dLM, dAppend, dExtend, dReverse, dInsert, dAugI, dRg1, dRg2, dTupRg, dLstRg, dNewK, dNewT, ↓S0_, ↓S1_, ↓S2_, ↓S3_, ↓S4_, ↓S5_, ↓S6_, List.map_cons, List.map_nil, List.length_cons, List.length_nil, List.replicate, List.cons_append, List.nil_append, Nat.reduceAdd, Nat.reduceSub, Nat.zero_add, List.getElem?_cons_zero, List.getElem?_cons_succ, Option.some.injEq, exists_eq_left, exists_eq_left', List.set_cons_zero, List.set_cons_succ, wipeD, D.int.injEq, D.bl.injEq, D.str.injEq, D.ref.injEq, D.tup.injEq, D.ty.injEq, true_and, and_true, forall_const, forall_eq', forall_eq, mt_int, mt_bool, mt_str, mt_tuple, mt_list, mt_dict, st_int_int, st_int_bool, st_int_str, st_int_tuple, st_int_list, st_int_dict, st_bool_int, st_bool_bool, st_bool_str, st_bool_tuple, st_bool_list, st_bool_dict, st_str_int, st_str_bool, st_str_str, st_str_tuple, st_str_list, st_str_dict, st_tuple_int, st_tuple_bool, st_tuple_str, st_tuple_tuple, st_tuple_list, st_tuple_dict, st_list_int, st_list_bool, st_list_str, st_list_tuple, st_list_list, st_list_dict, st_dict_int, st_dict_bool, st_dict_str, st_dict_tuple, st_dict_list, st_dict_dict, eq_self, Bool.true_eq_false, Bool.false_eq_true, false_implies, true_implies, implies_true, decide_eq_true_eq, decide_eq_false_iff_not, Bool.not_true, Bool.not_false, Bool.not_eq_true, Bool.not_eq_false, Bool.not_eq_true', Bool.not_eq_false', not_true_eq_false, not_false_eq_true, false_and, and_false, or_false, false_or, reduceCtorEq, ↓exLSu, ↓exDKu, ↓exDKd, ↓exLSd, ↓exLu, ↓dIxRu, ↓dPutu, ↓dGetAu, ↓dEq_int, ↓dNe_int, ↓dEq_bl, ↓dNe_bl, ↓dEq_str, ↓dNe_str, ↓dAdd_int, ↓exAt10, ↓exIx10, ↓exAt20, ↓exIx20, ↓exAt21, ↓exIx21, ↓exAt30, ↓exIx30, ↓exAt31, ↓exIx31, ↓exAt32, ↓exIx32, ↓exAt40, ↓exIx40, ↓exAt41, ↓exIx41, ↓exAt42, ↓exIx42, ↓exAt43, ↓exIx43, ↓exAt50, ↓exIx50, ↓exAt51, ↓exIx51, ↓exAt52, ↓exIx52, ↓exAt53, ↓exIx53, ↓exAt54, ↓exIx54, ↓exAt60, ↓exIx60, ↓exAt61, ↓exIx61, ↓exAt62, ↓exIx62, ↓exAt63, ↓exIx63, ↓exAt64, ↓exIx64, ↓exAt65, ↓exIx65, up_up, false_or, or_false, ↓exAtM, ↓dFlag_bl, ↓exBl, ↓exInt, ↓exRef, ↓dVar0, ↓dAug0, ↓dSet0, ↓dTgN0, ↓dTgW0, ↓dVar1, ↓dAug1, ↓dSet1, ↓dTgN1, ↓dTgW1, ↓dVar2, ↓dAug2, ↓dSet2, ↓dTgN2, ↓dTgW2, ↓dVar3, ↓dAug3, ↓dSet3, ↓dTgN3, ↓dTgW3, ↓dVar4, ↓dAug4, ↓dSet4, ↓dTgN4, ↓dTgW4, ↓dVar5, ↓dAug5, ↓dSet5, ↓dTgN5, ↓dTgW5, ↓dVar6, ↓dAug6, ↓dSet6, ↓dTgN6, ↓dTgW6, ↓dVar7, ↓dAug7, ↓dSet7, ↓dTgN7, ↓dTgW7, ↓dVar8, ↓dAug8, ↓dSet8, ↓dTgN8, ↓dTgW8, ↓dVar9, ↓dAug9, ↓dSet9, ↓dTgN9, ↓dTgW9, ↓dVar10, ↓dAug10, ↓dSet10, ↓dTgN10, ↓dTgW10, ↓dVar11, ↓dAug11, ↓dSet11, ↓dTgN11, ↓dTgW11, ↓dVar12, ↓dAug12, ↓dSet12, ↓dTgN12, ↓dTgW12, ↓dVar13, ↓dAug13, ↓dSet13, ↓dTgN13, ↓dTgW13, ↓dVar14, ↓dAug14, ↓dSet14, ↓dTgN14, ↓dTgW14, ↓dVar15, ↓dAug15, ↓dSet15, ↓dTgN15, ↓dTgW15, ↓dVar16, ↓dAug16, ↓dSet16, ↓dTgN16, ↓dTgW16, ↓dVar17, ↓dAug17, ↓dSet17, ↓dTgN17, ↓dTgW17, ↓dVar18, ↓dAug18, ↓dSet18, ↓dTgN18, ↓dTgW18, ↓dVar19, ↓dAug19, ↓dSet19, ↓dTgN19, ↓dTgW19, ↓dTg_t2, ↓dTg_t3, ↓exGetM, ↓exSumU, nD, plD, rwD, ↓dAdd_tup, ↓dAdd_ref, dSIndex, dInS, dKeysI, dValsI, dItemsI, dMulS, dEqK, dNeK, dClrK, dCntS]
  refine ⟨gD g, od, ws, hz, hlen, dcM (fun e : Str × List Str => D.str e.1) (fun e => .inr e.1) (fun e => nD (gp g k 0 e.1)) g hkl (fun l e t pre acc P2 ee hP2 => ?_) ⟨hz, fun q hq => ?_⟩⟩
  · refine ⟨hz, ?_⟩
    subst t1; subst u1; subst v1
    simp (config := {failIfUnchanged := false}) only [dC, dOp, dTest, dChain, dAnd, dOr, dNot, dAndV, dOrV, dNotV, dIf, dNil, dCons, dTup, dLst, dCB, d1, dIx, dNoPart, dPart, dSl, dCut, dNeg, dLen, dTupOf, dListOf, dSorted, dSum, dAll, dAny, dInt, dAbs, dMax, dMin, dIsi, isT, dNext, dSeq, dBrk, dCont, dNever, dExpr, dRet, dRetN, dIfS, dAsg, dPutI, dI0, dI, dIsN, dNotN, dSeqI, dRng1, dRng2, dRngDn, dEnumI, dZipI, dYes, dCall, dLM, dAppend, dExtend, dReverse, dInsert, dAugI, dRg1, dRg2, dTupRg, dLstRg, dNewK, dNewT, ↓S0_, ↓S1_, ↓S2_, ↓S3_, ↓S4_, ↓S5_, ↓S6_, List.map_cons, List.map_nil, List.length_cons, List.length_nil, List.replicate, List.cons_append, List.nil_append, Nat.reduceAdd, Nat.reduceSub, Nat.zero_add, List.getElem?_cons_zero, List.getElem?_cons_succ, Option.some.injEq, exists_eq_left, exists_eq_left', List.set_cons_zero, List.set_cons_succ, wipeD, D.int.injEq, D.bl.injEq, D.str.injEq, D.ref.injEq, D.tup.injEq, D.ty.injEq, true_and, and_true, forall_const, forall_eq', forall_eq, mt_int, mt_bool, mt_str, mt_tuple, mt_list, mt_dict, st_int_int, st_int_bool, st_int_str, st_int_tuple, st_int_list, st_int_dict, st_bool_int, st_bool_bool, st_bool_str, st_bool_tuple, st_bool_list, st_bool_dict, st_str_int, st_str_bool, st_str_str, st_str_tuple, st_str_list, st_str_dict, st_tuple_int, st_tuple_bool, st_tuple_str, st_tuple_tuple, st_tuple_list, st_tuple_dict, st_list_int, st_list_bool, st_list_str, st_list_tuple, st_list_list, st_list_dict, st_dict_int, st_dict_bool, st_dict_str, st_dict_tuple, st_dict_list, st_dict_dict, eq_self, Bool.true_eq_false, Bool.false_eq_true, false_implies, true_implies, implies_true, decide_eq_true_eq, decide_eq_false_iff_not, Bool.not_true, Bool.not_false, Bool.not_eq_true, Bool.not_eq_false, Bool.not_eq_true', Bool.not_eq_false', not_true_eq_false, not_false_eq_true, false_and, and_false, or_false, false_or, reduceCtorEq, ↓exLSu, ↓exDKu, ↓exDKd, ↓exLSd, ↓exLu, ↓dIxRu, ↓dPutu, ↓dGetAu, ↓dEq_int, ↓dNe_int, ↓dEq_bl, ↓dNe_bl, ↓dEq_str, ↓dNe_str, ↓dAdd_int, ↓exAt10, ↓exIx10, ↓exAt20, ↓exIx20, ↓exAt21, ↓exIx21, ↓exAt30, ↓exIx30, ↓exAt31, ↓exIx31, ↓exAt32, ↓exIx32, ↓exAt40, ↓exIx40, ↓exAt41, ↓exIx41, ↓exAt42, ↓exIx42, ↓exAt43, ↓exIx43, ↓exAt50, ↓exIx50, ↓exAt51, ↓exIx51, ↓exAt52, ↓exIx52, ↓exAt53, ↓exIx53, ↓exAt54, ↓exIx54, ↓exAt60, ↓exIx60, ↓exAt61, ↓exIx61, ↓exAt62, ↓exIx62, ↓exAt63, ↓exIx63, ↓exAt64, ↓exIx64, ↓exAt65, ↓exIx65, up_up, false_or, or_false, ↓exAtM, ↓dFlag_bl, ↓exBl, ↓exInt, ↓exRef, ↓dVar0, ↓dAug0, ↓dSet0, ↓dTgN0, ↓dTgW0, ↓dVar1, ↓dAug1, ↓dSet1, ↓dTgN1, ↓dTgW1, ↓dVar2, ↓dAug2, ↓dSet2, ↓dTgN2, ↓dTgW2, ↓dVar3, ↓dAug3, ↓dSet3, ↓dTgN3, ↓dTgW3, ↓dVar4, ↓dAug4, ↓dSet4, ↓dTgN4, ↓dTgW4, ↓dVar5, ↓dAug5, ↓dSet5, ↓dTgN5, ↓dTgW5, ↓dVar6, ↓dAug6, ↓dSet6, ↓dTgN6, ↓dTgW6, ↓dVar7, ↓dAug7, ↓dSet7, ↓dTgN7, ↓dTgW7, ↓dVar8, ↓dAug8, ↓dSet8, ↓dTgN8, ↓dTgW8, ↓dVar9, ↓dAug9, ↓dSet9, ↓dTgN9, ↓dTgW9, ↓dVar10, ↓dAug10, ↓dSet10, ↓dTgN10, ↓dTgW10, ↓dVar11, ↓dAug11, ↓dSet11, ↓dTgN11, ↓dTgW11, ↓dVar12, ↓dAug12, ↓dSet12, ↓dTgN12, ↓dTgW12, ↓dVar13, ↓dAug13, ↓dSet13, ↓dTgN13, ↓dTgW13, ↓dVar14, ↓dAug14, ↓dSet14, ↓dTgN14, ↓dTgW14, ↓dVar15, ↓dAug15, ↓dSet15, ↓dTgN15, ↓dTgW15, ↓dVar16, ↓dAug16, ↓dSet16, ↓dTgN16, ↓dTgW16, ↓dVar17, ↓dAug17, ↓dSet17, ↓dTgN17, ↓dTgW17, ↓dVar18, ↓dAug18, ↓dSet18, ↓dTgN18, ↓dTgW18, ↓dVar19, ↓dAug19, ↓dSet19, ↓dTgN19, ↓dTgW19, ↓dTg_t2, ↓dTg_t3, ↓exGetM, ↓exSumU, nD, plD, rwD, ↓dAdd_tup, ↓dAdd_ref, dSIndex, dInS, dKeysI, dValsI, dItemsI, dMulS, dEqK, dNeK, dClrK, dCntS]
    have ev : D.int (if e.1 = k then 1 else 0) = nD (gp g k 0 e.1) := by
      show _ = D.int ((if e.1 = k then 1 else 0 : Nat) : Int)
      split <;> rfl
    rw [ev]
    exact ⟨.inr e.1, rfl, sb0 hP2⟩
  rw [fin0 (gp g k 0), h1]
  clear h1 t1 u1 v1
  simp (config := {failIfUnchanged := false}) only [dC, dOp, dTest, dChain, dAnd, dOr, dNot, dAndV, dOrV, dNotV, dIf, dNil, dCons, dTup, dLst, dCB, d1, dIx, dNoPart, dPart, dSl, dCut, dNeg, dLen, dTupOf, dListOf, dSorted, dSum, dAll, dAny, dInt, dAbs, dMax, dMin, dIsi, isT, dNext, dSeq, dBrk, dCont, dNever, dExpr, dRet, dRetN, dIfS, dAsg, dPutI, dI0, dI, dIsN, dNotN, dSeqI, dRng1, dRng2, dRngDn, dEnumI, dZipI, dYes, dCall, dLM, dAppend, dExtend, dReverse, dInsert, dAugI, dRg1, dRg2, dTupRg, dLstRg, dNewK, dNewT, ↓S0_, ↓S1_, ↓S2_, ↓S3_, ↓S4_, ↓S5_, ↓S6_, List.map_cons, List.map_nil, List.length_cons, List.length_nil, List.replicate, List.cons_append, List.nil_append, Nat.reduceAdd, Nat.reduceSub, Nat.zero_add, List.getElem?_cons_zero, List.getElem?_cons_succ, Option.some.injEq, exists_eq_left, exists_eq_left', List.set_cons_zero, List.set_cons_succ, wipeD, D.int.injEq, D.bl.injEq, D.str.injEq, D.ref.injEq, D.tup.injEq, D.ty.injEq, true_and, and_true, forall_const, forall_eq', forall_eq, mt_int, mt_bool, mt_str, mt_tuple, mt_list, mt_dict, st_int_int, st_int_bool, st_int_str, st_int_tuple, st_int_list, st_int_dict, st_bool_int, st_bool_bool, st_bool_str, st_bool_tuple, st_bool_list, st_bool_dict, st_str_int, st_str_bool, st_str_str, st_str_tuple, st_str_list, st_str_dict, st_tuple_int, st_tuple_bool, st_tuple_str, st_tuple_tuple, st_tuple_list, st_tuple_dict, st_list_int, st_list_bool, st_list_str, st_list_tuple, st_list_list, st_list_dict, st_dict_int, st_dict_bool, st_dict_str, st_dict_tuple, st_dict_list, st_dict_dict, eq_self, Bool.true_eq_false, Bool.false_eq_true, false_implies, true_implies, implies_true, decide_eq_true_eq, decide_eq_false_iff_not, Bool.not_true, Bool.not_false, Bool.not_eq_true, Bool.not_eq_false, Bool.not_eq_true', Bool.not_eq_false', not_true_eq_false, not_false_eq_true, false_and, and_false, or_false, false_or, reduceCtorEq, ↓exLSu, ↓exDKu, ↓exDKd, ↓exLSd, ↓exLu, ↓dIxRu, ↓dPutu, ↓dGetAu, ↓dEq_int, ↓dNe_int, ↓dEq_bl, ↓dNe_bl, ↓dEq_str, ↓dNe_str, ↓dAdd_int, ↓exAt10, ↓exIx10, ↓exAt20, ↓exIx20, ↓exAt21, ↓exIx21, ↓exAt30, ↓exIx30, ↓exAt31, ↓exIx31, ↓exAt32, ↓exIx32, ↓exAt40, ↓exIx40, ↓exAt41, ↓exIx41, ↓exAt42, ↓exIx42, ↓exAt43, ↓exIx43, ↓exAt50, ↓exIx50, ↓exAt51, ↓exIx51, ↓exAt52, ↓exIx52, ↓exAt53, ↓exIx53, ↓exAt54, ↓exIx54, ↓exAt60, ↓exIx60, ↓exAt61, ↓exIx61, ↓exAt62, ↓exIx62, ↓exAt63, ↓exIx63, ↓exAt64, ↓exIx64, ↓exAt65, ↓exIx65, up_up, false_or, or_false, ↓exAtM, ↓dFlag_bl, ↓exBl, ↓exInt, ↓exRef, ↓dVar0, ↓dAug0, ↓dSet0, ↓dTgN0, ↓dTgW0, ↓dVar1, ↓dAug1, ↓dSet1, ↓dTgN1, ↓dTgW1, ↓dVar2, ↓dAug2, ↓dSet2, ↓dTgN2, ↓dTgW2, ↓dVar3, ↓dAug3, ↓dSet3, ↓dTgN3, ↓dTgW3, ↓dVar4, ↓dAug4, ↓dSet4, ↓dTgN4, ↓dTgW4, ↓dVar5, ↓dAug5, ↓dSet5, ↓dTgN5, ↓dTgW5, ↓dVar6, ↓dAug6, ↓dSet6, ↓dTgN6, ↓dTgW6, ↓dVar7, ↓dAug7, ↓dSet7, ↓dTgN7, ↓dTgW7, ↓dVar8, ↓dAug8, ↓dSet8, ↓dTgN8, ↓dTgW8, ↓dVar9, ↓dAug9, ↓dSet9, ↓dTgN9, ↓dTgW9, ↓dVar10, ↓dAug10, ↓dSet10, ↓dTgN10, ↓dTgW10, ↓dVar11, ↓dAug11, ↓dSet11, ↓dTgN11, ↓dTgW11, ↓dVar12, ↓dAug12, ↓dSet12, ↓dTgN12, ↓dTgW12, ↓dVar13, ↓dAug13, ↓dSet13, ↓dTgN13, ↓dTgW13, ↓dVar14, ↓dAug14, ↓dSet14, ↓dTgN14, ↓dTgW14, ↓dVar15, ↓dAug15, ↓dSet15, ↓dTgN15, ↓dTgW15, ↓dVar16, ↓dAug16, ↓dSet16, ↓dTgN16, ↓dTgW16, ↓dVar17, ↓dAug17, ↓dSet17, ↓dTgN17, ↓dTgW17, ↓dVar18, ↓dAug18, ↓dSet18, ↓dTgN18, ↓dTgW18, ↓dVar19, ↓dAug19, ↓dSet19, ↓dTgN19, ↓dTgW19, ↓dTg_t2, ↓dTg_t3, ↓exGetM, ↓exSumU, nD, plD, rwD, ↓dAdd_tup, ↓dAdd_ref, dSIndex, dInS, dKeysI, dValsI, dItemsI, dMulS, dEqK, dNeK, dClrK, dCntS]
  have nqp : q ≠ p := by rintro rfl; rw [hz] at hq; cases hq
  have hqM : M q = none := by rw [← hMz, up_ne nqp] at hq; exact hq
  refine ⟨by rw [up_ne nqp.symm]; exact hz, ?_⟩
  rw [← hMz, swap M od ws q _ nqp hp]
  refine dFor_g fun F2 T2 h2 t2 => ?_; simp only [dFor, dC, dOp, dTest, dChain, dAnd, dOr, dNot, dAndV, dOrV, dNotV, dIf, dNil, dCons, dTup, dLst, dCB, d1, dIx, dNoPart, dPart, dSl, dCut, dNeg, dLen, dTupOf, dListOf, dSorted, dSum, dAll, dAny, dInt, dAbs, dMax, dMin, dIsi, isT, dNext, dSeq, dBrk, dCont, dNever, dExpr, dRet, dRetN, dIfS, dAsg, dPutI, dI0, dI, dIsN, dNotN, dSeqI, dRng1, dRng2, dRngDn, dEnumI, dZipI, dYes, dCall, dLM, dAppend, dExtend, dReverse, dInsert, dAugI, dRg1, dRg2, dTupRg, dLstRg, dNewK, dNewT, ↓S0_, ↓S1_, ↓S2_, ↓S3_, ↓S4_, ↓S5_, ↓S6_, List.map_cons, List.map_nil, List.length_cons, List.length_nil, List.replicate, List.cons_append, List.nil_append, Nat.reduceAdd, Nat.reduceSub, Nat.zero_add, List.getElem?_cons_zero, List.getElem?_cons_succ, Option.some.injEq, exists_eq_left, exists_eq_left', List.set_cons_zero, List.set_cons_succ, wipeD, D.int.injEq, D.bl.injEq, D.str.injEq, D.ref.injEq, D.tup.injEq, D.ty.injEq, true_and, and_true, forall_const, forall_eq', forall_eq, mt_int, mt_bool, mt_str, mt_tuple, mt_list, mt_dict, st_int_int, st_int_bool, st_int_str, st_int_tuple, st_int_list, st_int_dict, st_bool_int, st_bool_bool, st_bool_str, st_bool_tuple, st_bool_list, st_bool_dict, st_str_int, st_str_bool, st_str_str, st_str_tuple, st_str_list, st_str_dict, st_tuple_int, st_tuple_bool, st_tuple_str, st_tuple_tuple, st_tuple_list, st_tuple_dict, st_list_int, st_list_bool, st_list_str, st_list_tuple, st_list_list, st_list_dict, st_dict_int, st_dict_bool, st_dict_str, st_dict_tuple, st_dict_list, st_dict_dict, eq_self, Bool.true_eq_false, Bool.false_eq_true, false_implies, true_implies, implies_true, decide_eq_true_eq, decide_eq_false_iff_not, Bool.not_true, Bool.not_false, Bool.not_eq_true, Bool.not_eq_false, Bool.not_eq_true', Bool.not_eq_false', not_true_eq_false, not_false_eq_true, false_and, and_false, or_false, false_or, reduceCtorEq, ↓exLSu, ↓exDKu, ↓exDKd, ↓exLSd, ↓exLu, ↓dIxRu, ↓dPutu, ↓dGetAu, ↓dEq_int, ↓dNe_int, ↓dEq_bl, ↓dNe_bl, ↓dEq_str, ↓dNe_str, ↓dAdd_int, ↓exAt10, ↓exIx10, ↓exAt20, ↓exIx20, ↓exAt21, ↓exIx21, ↓exAt30, ↓exIx30, ↓exAt31, ↓exIx31, ↓exAt32, ↓exIx32, ↓exAt40, ↓exIx40, ↓exAt41, ↓exIx41, ↓exAt42, ↓exIx42, ↓exAt43, ↓exIx43, ↓exAt50, ↓exIx50, ↓exAt51, ↓exIx51, ↓exAt52, ↓exIx52, ↓exAt53, ↓exIx53, ↓exAt54, ↓exIx54, ↓exAt60, ↓exIx60, ↓exAt61, ↓exIx61, ↓exAt62, ↓exIx62, ↓exAt63, ↓exIx63, ↓exAt64, ↓exIx64, ↓exAt65, ↓exIx65, up_up, false_or, or_false, ↓exAtM, ↓dFlag_bl, ↓exBl, ↓exInt, ↓exRef, ↓dVar0, ↓dAug0, ↓dSet0, ↓dTgN0, ↓dTgW0, ↓dVar1, ↓dAug1, ↓dSet1, ↓dTgN1, ↓dTgW1, ↓dVar2, ↓dAug2, ↓dSet2, ↓dTgN2, ↓dTgW2, ↓dVar3, ↓dAug3, ↓dSet3, ↓dTgN3, ↓dTgW3, ↓dVar4, ↓dAug4, ↓dSet4, ↓dTgN4, ↓dTgW4, ↓dVar5, ↓dAug5, ↓dSet5, ↓dTgN5, ↓dTgW5, ↓dVar6, ↓dAug6, ↓dSet6, ↓dTgN6, ↓dTgW6, ↓dVar7, ↓dAug7, ↓dSet7, ↓dTgN7, ↓dTgW7, ↓dVar8, ↓dAug8, ↓dSet8, ↓dTgN8, ↓dTgW8, ↓dVar9, ↓dAug9, ↓dSet9, ↓dTgN9, ↓dTgW9, ↓dVar10, ↓dAug10, ↓dSet10, ↓dTgN10, ↓dTgW10, ↓dVar11, ↓dAug11, ↓dSet11, ↓dTgN11, ↓dTgW11, ↓dVar12, ↓dAug12, ↓dSet12, ↓dTgN12, ↓dTgW12, ↓dVar13, ↓dAug13, ↓dSet13, ↓dTgN13, ↓dTgW13, ↓dVar14, ↓dAug14, ↓dSet14, ↓dTgN14, ↓dTgW14, ↓dVar15, ↓dAug15, ↓dSet15, ↓dTgN15, ↓dTgW15, ↓dVar16, ↓dAug16, ↓dSet16, ↓dTgN16, ↓dTgW16, ↓dVar17, ↓dAug17, ↓dSet17, ↓dTgN17, ↓dTgW17, ↓dVar18, ↓dAug18, ↓dSet18, ↓dTgN18, ↓dTgW18, ↓dVar19, ↓dAug19, ↓dSet19, ↓dTgN19, ↓dTgW19, ↓dTg_t2, ↓dTg_t3, ↓exGetM, ↓exSumU, nD, plD, rwD, ↓dAdd_tup, ↓dAdd_ref, dSIndex, dInS, dKeysI, dValsI, dItemsI, dMulS, dEqK, dNeK, dClrK, dCntS]
  simp (config := {failIfUnchanged := false}) only [dC, dOp, dTest, dChain, dAnd, dOr, dNot, dAndV, dOrV, dNotV, dIf, dNil, dCons, dTup, dLst, dCB, d1, dIx, dNoPart, dPart, dSl, dCut, dNeg, dLen, dTupOf, dListOf, dSorted, dSum, dAll, dAny, dInt, dAbs, dMax, dMin, dIsi, isT, dNext, dSeq, dBrk, dCont, dNever, dExpr, dRet, dRetN, dIfS, dAsg, dPutI, dI0, dI, dIsN, dNotN, dSeqI, dRng1, dRng2, dRngDn, dEnumI, dZipI, dYes, dCall, dLM, dAppend, dExtend, dReverse, dInsert, dAugI, dRg1, dRg2, dTupRg, dLstRg, dNewK, dNewT, ↓S0_, ↓S1_, ↓S2_, ↓S3_, ↓S4_, ↓S5_, ↓S6_, List.map_cons, List.map_nil, List.length_cons, List.length_nil, List.replicate, List.cons_append, List.nil_append, Nat.reduceAdd, Nat.reduceSub, Nat.zero_add, List.getElem?_cons_zero, List.getElem?_cons_succ, Option.some.injEq, exists_eq_left, exists_eq_left', List.set_cons_zero, List.set_cons_succ, wipeD, D.int.injEq, D.bl.injEq, D.str.injEq, D.ref.injEq, D.tup.injEq, D.ty.injEq, true_and, and_true, forall_const, forall_eq', forall_eq, mt_int, mt_bool, mt_str, mt_tuple, mt_list, mt_dict, st_int_int, st_int_bool, st_int_str, st_int_tuple, st_int_list, st_int_dict, st_bool_int, st_bool_bool, st_bool_str, st_bool_tuple, st_bool_list, st_bool_dict, st_str_int, st_str_bool, st_str_str, st_str_tuple, st_str_list, st_str_dict, st_tuple_int, st_tuple_bool, st_tuple_str, st_tuple_tuple, st_tuple_list, st_tuple_dict, st_list_int, st_list_bool, st_list_str, st_list_tuple, st_list_list, st_list_dict, st_dict_int, st_dict_bool, st_dict_str, st_dict_tuple, st_dict_list, st_dict_dict, eq_self, Bool.true_eq_false, Bool.false_eq_true, false_implies, true_implies, implies_true, decide_eq_true_eq, decide_eq_false_iff_not, Bool.not_true, Bool.not_false, Bool.not_eq_true, Bool.not_eq_false, Bool.not_eq_true', Bool.not_eq_false', not_true_eq_false, not_false_eq_true, false_and, and_false, or_false, false_or, reduceCtorEq, ↓exLSu, ↓exDKu, ↓exDKd, ↓exLSd, ↓exLu, ↓dIxRu, ↓dPutu, ↓dGetAu, ↓dEq_int, ↓dNe_int, ↓dEq_bl, ↓dNe_bl, ↓dEq_str, ↓dNe_str, ↓dAdd_int, ↓exAt10, ↓exIx10, ↓exAt20, ↓exIx20, ↓exAt21, ↓exIx21, ↓exAt30, ↓exIx30, ↓exAt31, ↓exIx31, ↓exAt32, ↓exIx32, ↓exAt40, ↓exIx40, ↓exAt41, ↓exIx41, ↓exAt42, ↓exIx42, ↓exAt43, ↓exIx43, ↓exAt50, ↓exIx50, ↓exAt51, ↓exIx51, ↓exAt52, ↓exIx52, ↓exAt53, ↓exIx53, ↓exAt54, ↓exIx54, ↓exAt60, ↓exIx60, ↓exAt61, ↓exIx61, ↓exAt62, ↓exIx62, ↓exAt63, ↓exIx63, ↓exAt64, ↓exIx64, ↓exAt65, ↓exIx65, up_up, false_or, or_false, ↓exAtM, ↓dFlag_bl, ↓exBl, ↓exInt, ↓exRef, ↓dVar0, ↓dAug0, ↓dSet0, ↓dTgN0, ↓dTgW0, ↓dVar1, ↓dAug1, ↓dSet1, ↓dTgN1, ↓dTgW1, ↓dVar2, ↓dAug2, ↓dSet2, ↓dTgN2, ↓dTgW2, ↓dVar3, ↓dAug3, ↓dSet3, ↓dTgN3, ↓dTgW3, ↓dVar4, ↓dAug4, ↓dSet4, ↓dTgN4, ↓dTgW4, ↓dVar5, ↓dAug5, ↓dSet5, ↓dTgN5, ↓dTgW5, ↓dVar6, ↓dAug6, ↓dSet6, ↓dTgN6, ↓dTgW6, ↓dVar7, ↓dAug7, ↓dSet7, ↓dTgN7, ↓dTgW7, ↓dVar8, ↓dAug8, ↓dSet8, ↓dTgN8, ↓dTgW8, ↓dVar9, ↓dAug9, ↓dSet9, ↓dTgN9, ↓dTgW9, ↓dVar10, ↓dAug10, ↓dSet10, ↓dTgN10, ↓dTgW10, ↓dVar11, ↓dAug11, ↓dSet11, ↓dTgN11, ↓dTgW11, ↓dVar12, ↓dAug12, ↓dSet12, ↓dTgN12, ↓dTgW12, ↓dVar13, ↓dAug13, ↓dSet13, ↓dTgN13, ↓dTgW13, ↓dVar14, ↓dAug14, ↓dSet14, ↓dTgN14, ↓dTgW14, ↓dVar15, ↓dAug15, ↓dSet15, ↓dTgN15, ↓dTgW15, ↓dVar16, ↓dAug16, ↓dSet16, ↓dTgN16, ↓dTgW16, ↓dVar17, ↓dAug17, ↓dSet17, ↓dTgN17, ↓dTgW17, ↓dVar18, ↓dAug18, ↓dSet18, ↓dTgN18, ↓dTgW18, ↓dVar19, ↓dAug19, ↓dSet19, ↓dTgN19, ↓dTgW19, ↓dTg_t2, ↓dTg_t3, ↓exGetM, ↓exSumU, nD, plD, rwD, ↓dAdd_tup, ↓dAdd_ref, dSIndex, dInS, dKeysI, dValsI, dItemsI, dMulS, dEqK, dNeK, dClrK, dCntS]
  rw [rng0]
  refine ⟨by omega, forN (fun t δ M' => Sub M' M ∧ ∃ q, M q = none ∧ M' q = some (.dK (gpK g (gp g k t))) ∧ ∃ a b c d : Option D, δ = [some (.ref p), some (.str k), some (nD m), some (.ref q), a, b, c, d]) ⟨Sub.new hqM (by intro _ z; cases z), q, hqM, up_same, _, _, _, _, rfl⟩ ?_ ?_⟩
  · rintro t z δ' M1 pre P' hzz ⟨s1, q1, hq1, hq1', a, b, c, d, rfl⟩ hP
    obtain ⟨ht, rfl⟩ := rgx hzz
    have hp1 := s1.1 _ _ hp
    have nq1 : q1 ≠ p := by rintro rfl; rw [hp] at hq1; cases hq1
    subst t2
    simp (config := {failIfUnchanged := false}) only [dC, dOp, dTest, dChain, dAnd, dOr, dNot, dAndV, dOrV, dNotV, dIf, dNil, dCons, dTup, dLst, dCB, d1, dIx, dNoPart, dPart, dSl, dCut, dNeg, dLen, dTupOf, dListOf, dSorted, dSum, dAll, dAny, dInt, dAbs, dMax, dMin, dIsi, isT, dNext, dSeq, dBrk, dCont, dNever, dExpr, dRet, dRetN, dIfS, dAsg, dPutI, dI0, dI, dIsN, dNotN, dSeqI, dRng1, dRng2, dRngDn, dEnumI, dZipI, dYes, dCall, dLM, dAppend, dExtend, dReverse, dInsert, dAugI, dRg1, dRg2, dTupRg, dLstRg, dNewK, dNewT, ↓S0_, ↓S1_, ↓S2_, ↓S3_, ↓S4_, ↓S5_, ↓S6_, List.map_cons, List.map_nil, List.length_cons, List.length_nil, List.replicate, List.cons_append, List.nil_append, Nat.reduceAdd, Nat.reduceSub, Nat.zero_add, List.getElem?_cons_zero, List.getElem?_cons_succ, Option.some.injEq, exists_eq_left, exists_eq_left', List.set_cons_zero, List.set_cons_succ, wipeD, D.int.injEq, D.bl.injEq, D.str.injEq, D.ref.injEq, D.tup.injEq, D.ty.injEq, true_and, and_true, forall_const, forall_eq', forall_eq, mt_int, mt_bool, mt_str, mt_tuple, mt_list, mt_dict, st_int_int, st_int_bool, st_int_str, st_int_tuple, st_int_list, st_int_dict, st_bool_int, st_bool_bool, st_bool_str, st_bool_tuple, st_bool_list, st_bool_dict, st_str_int, st_str_bool, st_str_str, st_str_tuple, st_str_list, st_str_dict, st_tuple_int, st_tuple_bool, st_tuple_str, st_tuple_tuple, st_tuple_list, st_tuple_dict, st_list_int, st_list_bool, st_list_str, st_list_tuple, st_list_list, st_list_dict, st_dict_int, st_dict_bool, st_dict_str, st_dict_tuple, st_dict_list, st_dict_dict, eq_self, Bool.true_eq_false, Bool.false_eq_true, false_implies, true_implies, implies_true, decide_eq_true_eq, decide_eq_false_iff_not, Bool.not_true, Bool.not_false, Bool.not_eq_true, Bool.not_eq_false, Bool.not_eq_true', Bool.not_eq_false', not_true_eq_false, not_false_eq_true, false_and, and_false, or_false, false_or, reduceCtorEq, ↓exLSu, ↓exDKu, ↓exDKd, ↓exLSd, ↓exLu, ↓dIxRu, ↓dPutu, ↓dGetAu, ↓dEq_int, ↓dNe_int, ↓dEq_bl, ↓dNe_bl, ↓dEq_str, ↓dNe_str, ↓dAdd_int, ↓exAt10, ↓exIx10, ↓exAt20, ↓exIx20, ↓exAt21, ↓exIx21, ↓exAt30, ↓exIx30, ↓exAt31, ↓exIx31, ↓exAt32, ↓exIx32, ↓exAt40, ↓exIx40, ↓exAt41, ↓exIx41, ↓exAt42, ↓exIx42, ↓exAt43, ↓exIx43, ↓exAt50, ↓exIx50, ↓exAt51, ↓exIx51, ↓exAt52, ↓exIx52, ↓exAt53, ↓exIx53, ↓exAt54, ↓exIx54, ↓exAt60, ↓exIx60, ↓exAt61, ↓exIx61, ↓exAt62, ↓exIx62, ↓exAt63, ↓exIx63, ↓exAt64, ↓exIx64, ↓exAt65, ↓exIx65, up_up, false_or, or_false, ↓exAtM, ↓dFlag_bl, ↓exBl, ↓exInt, ↓exRef, ↓dVar0, ↓dAug0, ↓dSet0, ↓dTgN0, ↓dTgW0, ↓dVar1, ↓dAug1, ↓dSet1, ↓dTgN1, ↓dTgW1, ↓dVar2, ↓dAug2, ↓dSet2, ↓dTgN2, ↓dTgW2, ↓dVar3, ↓dAug3, ↓dSet3, ↓dTgN3, ↓dTgW3, ↓dVar4, ↓dAug4, ↓dSet4, ↓dTgN4, ↓dTgW4, ↓dVar5, ↓dAug5, ↓dSet5, ↓dTgN5, ↓dTgW5, ↓dVar6, ↓dAug6, ↓dSet6, ↓dTgN6, ↓dTgW6, ↓dVar7, ↓dAug7, ↓dSet7, ↓dTgN7, ↓dTgW7, ↓dVar8, ↓dAug8, ↓dSet8, ↓dTgN8, ↓dTgW8, ↓dVar9, ↓dAug9, ↓dSet9, ↓dTgN9, ↓dTgW9, ↓dVar10, ↓dAug10, ↓dSet10, ↓dTgN10, ↓dTgW10, ↓dVar11, ↓dAug11, ↓dSet11, ↓dTgN11, ↓dTgW11, ↓dVar12, ↓dAug12, ↓dSet12, ↓dTgN12, ↓dTgW12, ↓dVar13, ↓dAug13, ↓dSet13, ↓dTgN13, ↓dTgW13, ↓dVar14, ↓dAug14, ↓dSet14, ↓dTgN14, ↓dTgW14, ↓dVar15, ↓dAug15, ↓dSet15, ↓dTgN15, ↓dTgW15, ↓dVar16, ↓dAug16, ↓dSet16, ↓dTgN16, ↓dTgW16, ↓dVar17, ↓dAug17, ↓dSet17, ↓dTgN17, ↓dTgW17, ↓dVar18, ↓dAug18, ↓dSet18, ↓dTgN18, ↓dTgW18, ↓dVar19, ↓dAug19, ↓dSet19, ↓dTgN19, ↓dTgW19, ↓dTg_t2, ↓dTg_t3, ↓exGetM, ↓exSumU, nD, plD, rwD, ↓dAdd_tup, ↓dAdd_ref, dSIndex, dInS, dKeysI, dValsI, dItemsI, dMulS, dEqK, dNeK, dClrK, dCntS]
    refine ⟨p, gD g, hp1, fun od ws => ?_⟩
    have hz1 : up M1 p (.dKz (gD g) od ws) p = some (.dKz (gD g) od ws) := up_same
    generalize hMz1 : up M1 p (.dKz (gD g) od ws) = Mz1 at *
    refine dDc_g fun F3 T3 U3 V3 h3 t3 u3 v3 => ?_; simp only [dDc, dC, dOp, dTest, dChain, dAnd, dOr, dNot, dAndV, dOrV, dNotV, dIf, dNil, dCons, dTup, dLst, dCB, d1, dIx, dNoPart, dPart, dSl, dCut, dNeg, dLen, dTupOf, dListOf, dSorted, dSum, dAll, dAny, dInt, dAbs, dMax, dMin, dIsi, isT, dNext, dSeq, dBrk, dCont, dNever, dExpr, dRet, dRetN, dIfS, dAsg, dPutI, dI0, dI, dIsN, dNotN, dSeqI, dRng1, dRng2, dRngDn, dEnumI, dZipI, dYes, dCall, dLM, dAppend, dExtend, dReverse, dInsert, dAugI, dRg1, dRg2, dTupRg, dLstRg, dNewK, dNewT, ↓S0_, ↓S1_, ↓S2_, ↓S3_, ↓S4_, ↓S5_, ↓S6_, List.map_cons, List.map_nil, List.length_cons, List.length_nil, List.replicate, List.cons_append, List.nil_append, Nat.reduceAdd, Nat.reduceSub, Nat.zero_add, List.getElem?_cons_zero, List.getElem?_cons_succ, Option.some.injEq, exists_eq_left, exists_eq_left', List.set_cons_zero, List.set_cons_succ, wipeD, D.int.injEq, D.bl.injEq, D.str.injEq, D.ref.injEq, D.tup.injEq, D.ty.injEq, true_and, and_true, forall_const, forall_eq', forall_eq, mt_int, mt_bool, mt_str, mt_tuple, mt_list, mt_dict, st_int_int, st_int_bool, st_int_str, st_int_tuple, st_int_list, st_int_dict, st_bool_int, st_bool_bool, st_bool_str, st_bool_tuple, st_bool_list, st_bool_dict, st_str_int, st_str_bool, st_str_str, st_str_tuple, st_str_list, st_str_dict, st_tuple_int, st_tuple_bool, st_tuple_str, st_tuple_tuple, st_tuple_list, st_tuple_dict, st_list_int, st_list_bool, st_list_str, st_list_tuple, st_list_list, st_list_dict, st_dict_int, st_dict_bool, st_dict_str, st_dict_tuple, st_dict_list, st_dict_dict, eq_self, Bool.true_eq_false, Bool.false_eq_true, false_implies, true_implies, implies_true, decide_eq_true_eq, decide_eq_false_iff_not, Bool.not_true, Bool.not_false, Bool.not_eq_true, Bool.not_eq_false, Bool.not_eq_true', Bool.not_eq_false', not_true_eq_false, not_false_eq_true, false_and, and_false, or_false, false_or, reduceCtorEq, ↓exLSu, ↓exDKu, ↓exDKd, ↓exLSd, ↓exLu, ↓dIxRu, ↓dPutu, ↓dGetAu, ↓dEq_int, ↓dNe_int, ↓dEq_bl, ↓dNe_bl, ↓dEq_str, ↓dNe_str, ↓dAdd_int, ↓exAt10, ↓exIx10, ↓exAt20, ↓exIx20, ↓exAt21, ↓exIx21, ↓exAt30, ↓exIx30, ↓exAt31, ↓exIx31, ↓exAt32, ↓exIx32, ↓exAt40, ↓exIx40, ↓exAt41, ↓exIx41, ↓exAt42, ↓exIx42, ↓exAt43, ↓exIx43, ↓exAt50, ↓exIx50, ↓exAt51, ↓exIx51, ↓exAt52, ↓exIx52, ↓exAt53, ↓exIx53, ↓exAt54, ↓exIx54, ↓exAt60, ↓exIx60, ↓exAt61, ↓exIx61, ↓exAt62, ↓exIx62, ↓exAt63, ↓exIx63, ↓exAt64, ↓exIx64, ↓exAt65, ↓exIx65, up_up, false_or, or_false, ↓exAtM, ↓dFlag_bl, ↓exBl, ↓exInt, ↓exRef, ↓dVar0, ↓dAug0, ↓dSet0, ↓dTgN0, ↓dTgW0, ↓dVar1, ↓dAug1, ↓dSet1, ↓dTgN1, ↓dTgW1, ↓dVar2, ↓dAug2, ↓dSet2, ↓dTgN2, ↓dTgW2, ↓dVar3, ↓dAug3, ↓dSet3, ↓dTgN3, ↓dTgW3, ↓dVar4, ↓dAug4, ↓dSet4, ↓dTgN4, ↓dTgW4, ↓dVar5, ↓dAug5, ↓dSet5, ↓dTgN5, ↓dTgW5, ↓dVar6, ↓dAug6, ↓dSet6, ↓dTgN6, ↓dTgW6, ↓dVar7, ↓dAug7, ↓dSet7, ↓dTgN7, ↓dTgW7, ↓dVar8, ↓dAug8, ↓dSet8, ↓dTgN8, ↓dTgW8, ↓dVar9, ↓dAug9, ↓dSet9, ↓dTgN9, ↓dTgW9, ↓dVar10, ↓dAug10, ↓dSet10, ↓dTgN10, ↓dTgW10, ↓dVar11, ↓dAug11, ↓dSet11, ↓dTgN11, ↓dTgW11, ↓dVar12, ↓dAug12, ↓dSet12, ↓dTgN12, ↓dTgW12, ↓dVar13, ↓dAug13, ↓dSet13, ↓dTgN13, ↓dTgW13, ↓dVar14, ↓dAug14, ↓dSet14, ↓dTgN14, ↓dTgW14, ↓dVar15, ↓dAug15, ↓dSet15, ↓dTgN15, ↓dTgW15, ↓dVar16, ↓dAug16, ↓dSet16, ↓dTgN16, ↓dTgW16, ↓dVar17, ↓dAug17, ↓dSet17, ↓dTgN17, ↓dTgW17, ↓dVar18, ↓dAug18, ↓dSet18, ↓dTgN18, ↓dTgW18, ↓dVar19, ↓dAug19, ↓dSet19, ↓dTgN19, ↓dTgW19, ↓dTg_t2, ↓dTg_t3, ↓exGetM, ↓exSumU, nD, plD, rwD, ↓dAdd_tup, ↓dAdd_ref, dSIndex, dInS, dKeysI, dValsI, dItemsI, dMulS, dEqK, dNeK, dClrK, dCntS]
    simp (config := {failIfUnchanged := false}) only [dC, dOp, dTest, dChain, dAnd, dOr, dNot, dAndV, dOrV, dNotV, dIf, dNil, dCons, dTup, dLst, dCB, d1, dIx, dNoPart, dPart, dSl, dCut, dNeg, dLen, dTupOf, dListOf, dSorted, dSum, dAll, dAny, dInt, dAbs, dMax, dMin, dIsi, isT, dNext, dSeq, dBrk, dCont, dNever, dExpr, dRet, dRetN, dIfS, dAsg, dPutI, dI0, dI, dIsN, dNotN, dSeqI, dRng1, dRng2, dRngDn, dEnumI, dZipI, dYes, dCall, dLM, dAppend, dExtend, dReverse, dInsert, dAugI, dRg1, dRg2, dTupRg, dLstRg, dNewK, dNewT, ↓S0_, ↓S1_, ↓S2_, ↓S3_, ↓S4_, ↓S5_, ↓S6_, List.map_cons, List.map_nil, List.length_cons, List.length_nil, List.replicate, List.cons_append, List.nil_append, Nat.reduceAdd, Nat.reduceSub, Nat.zero_add, List.getElem?_cons_zero, List.getElem?_cons_succ, Option.some.injEq, exists_eq_left, exists_eq_left', List.set_cons_zero, List.set_cons_succ, wipeD, D.int.injEq, D.bl.injEq, D.str.injEq, D.ref.injEq, D.tup.injEq, D.ty.injEq, true_and, and_true, forall_const, forall_eq', forall_eq, mt_int, mt_bool, mt_str, mt_tuple, mt_list, mt_dict, st_int_int, st_int_bool, st_int_str, st_int_tuple, st_int_list, st_int_dict, st_bool_int, st_bool_bool, st_bool_str, st_bool_tuple, st_bool_list, st_bool_dict, st_str_int, st_str_bool, st_str_str, st_str_tuple, st_str_list, st_str_dict, st_tuple_int, st_tuple_bool, st_tuple_str, st_tuple_tuple, st_tuple_list, st_tuple_dict, st_list_int, st_list_bool, st_list_str, st_list_tuple, st_list_list, st_list_dict, st_dict_int, st_dict_bool, st_dict_str, st_dict_tuple, st_dict_list, st_dict_dict, eq_self, Bool.true_eq_false, Bool.false_eq_true, false_implies, true_implies, implies_true, decide_eq_true_eq, decide_eq_false_iff_not, Bool.not_true, Bool.not_false, Bool.not_eq_true, Bool.not_eq_false, Bool.not_eq_true', Bool.not_eq_false', not_true_eq_false, not_false_eq_true, false_and, and_false, or_false, false_or, reduceCtorEq, ↓exLSu, ↓exDKu, ↓exDKd, ↓exLSd, ↓exLu, ↓dIxRu, ↓dPutu, ↓dGetAu, ↓dEq_int, ↓dNe_int, ↓dEq_bl, ↓dNe_bl, ↓dEq_str, ↓dNe_str, ↓dAdd_int, ↓exAt10, ↓exIx10, ↓exAt20, ↓exIx20, ↓exAt21, ↓exIx21, ↓exAt30, ↓exIx30, ↓exAt31, ↓exIx31, ↓exAt32, ↓exIx32, ↓exAt40, ↓exIx40, ↓exAt41, ↓exIx41, ↓exAt42, ↓exIx42, ↓exAt43, ↓exIx43, ↓exAt50, ↓exIx50, ↓exAt51, ↓exIx51, ↓exAt52, ↓exIx52, ↓exAt53, ↓exIx53, ↓exAt54, ↓exIx54, ↓exAt60, ↓exIx60, ↓exAt61, ↓exIx61, ↓exAt62, ↓exIx62, ↓exAt63, ↓exIx63, ↓exAt64, ↓exIx64, ↓exAt65, ↓exIx65, up_up, false_or, or_false, ↓exAtM, ↓dFlag_bl, ↓exBl, ↓exInt, ↓exRef, ↓dVar0, ↓dAug0, ↓dSet0, ↓dTgN0, ↓dTgW0, ↓dVar1, ↓dAug1, ↓dSet1, ↓dTgN1, ↓dTgW1, ↓dVar2, ↓dAug2, ↓dSet2, ↓dTgN2, ↓dTgW2, ↓dVar3, ↓dAug3, ↓dSet3, ↓dTgN3, ↓dTgW3, ↓dVar4, ↓dAug4, ↓dSet4, ↓dTgN4, ↓dTgW4, ↓dVar5, ↓dAug5, ↓dSet5, ↓dTgN5, ↓dTgW5, ↓dVar6, ↓dAug6, ↓dSet6, ↓dTgN6, ↓dTgW6, ↓dVar7, ↓dAug7, ↓dSet7, ↓dTgN7, ↓dTgW7, ↓dVar8, ↓dAug8, ↓dSet8, ↓dTgN8, ↓dTgW8, ↓dVar9, ↓dAug9, ↓dSet9, ↓dTgN9, ↓dTgW9, ↓dVar10, ↓dAug10, ↓dSet10, ↓dTgN10, ↓dTgW10, ↓dVar11, ↓dAug11, ↓dSet11, ↓dTgN11, ↓dTgW11, ↓dVar12, ↓dAug12, ↓dSet12, ↓dTgN12, ↓dTgW12, ↓dVar13, ↓dAug13, ↓dSet13, ↓dTgN13, ↓dTgW13, ↓dVar14, ↓dAug14, ↓dSet14, ↓dTgN14, ↓dTgW14, ↓dVar15, ↓dAug15, ↓dSet15, ↓dTgN15, ↓dTgW15, ↓dVar16, ↓dAug16, ↓dSet16, ↓dTgN16, ↓dTgW16, ↓dVar17, ↓dAug17, ↓dSet17, ↓dTgN17, ↓dTgW17, ↓dVar18, ↓dAug18, ↓dSet18, ↓dTgN18, ↓dTgW18, ↓dVar19, ↓dAug19, ↓dSet19, ↓dTgN19, ↓dTgW19, ↓dTg_t2, ↓dTg_t3, ↓exGetM, ↓exSumU, nD, plD, rwD, ↓dAdd_tup, ↓dAdd_ref, dSIndex, dInS, dKeysI, dValsI, dItemsI, dMulS, dEqK, dNeK, dClrK, dCntS]
    refine ⟨gD g, od, ws, hz1, hlen, dcM (fun e : Str × List Str => D.str e.1) (fun e => .inr e.1) (fun e => nD 0) g hkl (fun l e tt pre2 acc P2 ee hP2 => ?_) ⟨hz1, fun q2 hq2 => ?_⟩⟩
    · refine ⟨hz1, ?_⟩
      subst t3; subst u3; subst v3
      simp (config := {failIfUnchanged := false}) only [dC, dOp, dTest, dChain, dAnd, dOr, dNot, dAndV, dOrV, dNotV, dIf, dNil, dCons, dTup, dLst, dCB, d1, dIx, dNoPart, dPart, dSl, dCut, dNeg, dLen, dTupOf, dListOf, dSorted, dSum, dAll, dAny, dInt, dAbs, dMax, dMin, dIsi, isT, dNext, dSeq, dBrk, dCont, dNever, dExpr, dRet, dRetN, dIfS, dAsg, dPutI, dI0, dI, dIsN, dNotN, dSeqI, dRng1, dRng2, dRngDn, dEnumI, dZipI, dYes, dCall, dLM, dAppend, dExtend, dReverse, dInsert, dAugI, dRg1, dRg2, dTupRg, dLstRg, dNewK, dNewT, ↓S0_, ↓S1_, ↓S2_, ↓S3_, ↓S4_, ↓S5_, ↓S6_, List.map_cons, List.map_nil, List.length_cons, List.length_nil, List.replicate, List.cons_append, List.nil_append, Nat.reduceAdd, Nat.reduceSub, Nat.zero_add, List.getElem?_cons_zero, List.getElem?_cons_succ, Option.some.injEq, exists_eq_left, exists_eq_left', List.set_cons_zero, List.set_cons_succ, wipeD, D.int.injEq, D.bl.injEq, D.str.injEq, D.ref.injEq, D.tup.injEq, D.ty.injEq, true_and, and_true, forall_const, forall_eq', forall_eq, mt_int, mt_bool, mt_str, mt_tuple, mt_list, mt_dict, st_int_int, st_int_bool, st_int_str, st_int_tuple, st_int_list, st_int_dict, st_bool_int, st_bool_bool, st_bool_str, st_bool_tuple, st_bool_list, st_bool_dict, st_str_int, st_str_bool, st_str_str, st_str_tuple, st_str_list, st_str_dict, st_tuple_int, st_tuple_bool, st_tuple_str, st_tuple_tuple, st_tuple_list, st_tuple_dict, st_list_int, st_list_bool, st_list_str, st_list_tuple, st_list_list, st_list_dict, st_dict_int, st_dict_bool, st_dict_str, st_dict_tuple, st_dict_list, st_dict_dict, eq_self, Bool.true_eq_false, Bool.false_eq_true, false_implies, true_implies, implies_true, decide_eq_true_eq, decide_eq_false_iff_not, Bool.not_true, Bool.not_false, Bool.not_eq_true, Bool.not_eq_false, Bool.not_eq_true', Bool.not_eq_false', not_true_eq_false, not_false_eq_true, false_and, and_false, or_false, false_or, reduceCtorEq, ↓exLSu, ↓exDKu, ↓exDKd, ↓exLSd, ↓exLu, ↓dIxRu, ↓dPutu, ↓dGetAu, ↓dEq_int, ↓dNe_int, ↓dEq_bl, ↓dNe_bl, ↓dEq_str, ↓dNe_str, ↓dAdd_int, ↓exAt10, ↓exIx10, ↓exAt20, ↓exIx20, ↓exAt21, ↓exIx21, ↓exAt30, ↓exIx30, ↓exAt31, ↓exIx31, ↓exAt32, ↓exIx32, ↓exAt40, ↓exIx40, ↓exAt41, ↓exIx41, ↓exAt42, ↓exIx42, ↓exAt43, ↓exIx43, ↓exAt50, ↓exIx50, ↓exAt51, ↓exIx51, ↓exAt52, ↓exIx52, ↓exAt53, ↓exIx53, ↓exAt54, ↓exIx54, ↓exAt60, ↓exIx60, ↓exAt61, ↓exIx61, ↓exAt62, ↓exIx62, ↓exAt63, ↓exIx63, ↓exAt64, ↓exIx64, ↓exAt65, ↓exIx65, up_up, false_or, or_false, ↓exAtM, ↓dFlag_bl, ↓exBl, ↓exInt, ↓exRef, ↓dVar0, ↓dAug0, ↓dSet0, ↓dTgN0, ↓dTgW0, ↓dVar1, ↓dAug1, ↓dSet1, ↓dTgN1, ↓dTgW1, ↓dVar2, ↓dAug2, ↓dSet2, ↓dTgN2, ↓dTgW2, ↓dVar3, ↓dAug3, ↓dSet3, ↓dTgN3, ↓dTgW3, ↓dVar4, ↓dAug4, ↓dSet4, ↓dTgN4, ↓dTgW4, ↓dVar5, ↓dAug5, ↓dSet5, ↓dTgN5, ↓dTgW5, ↓dVar6, ↓dAug6, ↓dSet6, ↓dTgN6, ↓dTgW6, ↓dVar7, ↓dAug7, ↓dSet7, ↓dTgN7, ↓dTgW7, ↓dVar8, ↓dAug8, ↓dSet8, ↓dTgN8, ↓dTgW8, ↓dVar9, ↓dAug9, ↓dSet9, ↓dTgN9, ↓dTgW9, ↓dVar10, ↓dAug10, ↓dSet10, ↓dTgN10, ↓dTgW10, ↓dVar11, ↓dAug11, ↓dSet11, ↓dTgN11, ↓dTgW11, ↓dVar12, ↓dAug12, ↓dSet12, ↓dTgN12, ↓dTgW12, ↓dVar13, ↓dAug13, ↓dSet13, ↓dTgN13, ↓dTgW13, ↓dVar14, ↓dAug14, ↓dSet14, ↓dTgN14, ↓dTgW14, ↓dVar15, ↓dAug15, ↓dSet15, ↓dTgN15, ↓dTgW15, ↓dVar16, ↓dAug16, ↓dSet16, ↓dTgN16, ↓dTgW16, ↓dVar17, ↓dAug17, ↓dSet17, ↓dTgN17, ↓dTgW17, ↓dVar18, ↓dAug18, ↓dSet18, ↓dTgN18, ↓dTgW18, ↓dVar19, ↓dAug19, ↓dSet19, ↓dTgN19, ↓dTgW19, ↓dTg_t2, ↓dTg_t3, ↓exGetM, ↓exSumU, nD, plD, rwD, ↓dAdd_tup, ↓dAdd_ref, dSIndex, dInS, dKeysI, dValsI, dItemsI, dMulS, dEqK, dNeK, dClrK, dCntS]
      exact ⟨.inr e.1, rfl, sb0 hP2⟩
    rw [fin0 (fun _ => 0), h3]
    clear h3 t3 u3 v3
    simp (config := {failIfUnchanged := false}) only [dC, dOp, dTest, dChain, dAnd, dOr, dNot, dAndV, dOrV, dNotV, dIf, dNil, dCons, dTup, dLst, dCB, d1, dIx, dNoPart, dPart, dSl, dCut, dNeg, dLen, dTupOf, dListOf, dSorted, dSum, dAll, dAny, dInt, dAbs, dMax, dMin, dIsi, isT, dNext, dSeq, dBrk, dCont, dNever, dExpr, dRet, dRetN, dIfS, dAsg, dPutI, dI0, dI, dIsN, dNotN, dSeqI, dRng1, dRng2, dRngDn, dEnumI, dZipI, dYes, dCall, dLM, dAppend, dExtend, dReverse, dInsert, dAugI, dRg1, dRg2, dTupRg, dLstRg, dNewK, dNewT, ↓S0_, ↓S1_, ↓S2_, ↓S3_, ↓S4_, ↓S5_, ↓S6_, List.map_cons, List.map_nil, List.length_cons, List.length_nil, List.replicate, List.cons_append, List.nil_append, Nat.reduceAdd, Nat.reduceSub, Nat.zero_add, List.getElem?_cons_zero, List.getElem?_cons_succ, Option.some.injEq, exists_eq_left, exists_eq_left', List.set_cons_zero, List.set_cons_succ, wipeD, D.int.injEq, D.bl.injEq, D.str.injEq, D.ref.injEq, D.tup.injEq, D.ty.injEq, true_and, and_true, forall_const, forall_eq', forall_eq, mt_int, mt_bool, mt_str, mt_tuple, mt_list, mt_dict, st_int_int, st_int_bool, st_int_str, st_int_tuple, st_int_list, st_int_dict, st_bool_int, st_bool_bool, st_bool_str, st_bool_tuple, st_bool_list, st_bool_dict, st_str_int, st_str_bool, st_str_str, st_str_tuple, st_str_list, st_str_dict, st_tuple_int, st_tuple_bool, st_tuple_str, st_tuple_tuple, st_tuple_list, st_tuple_dict, st_list_int, st_list_bool, st_list_str, st_list_tuple, st_list_list, st_list_dict, st_dict_int, st_dict_bool, st_dict_str, st_dict_tuple, st_dict_list, st_dict_dict, eq_self, Bool.true_eq_false, Bool.false_eq_true, false_implies, true_implies, implies_true, decide_eq_true_eq, decide_eq_false_iff_not, Bool.not_true, Bool.not_false, Bool.not_eq_true, Bool.not_eq_false, Bool.not_eq_true', Bool.not_eq_false', not_true_eq_false, not_false_eq_true, false_and, and_false, or_false, false_or, reduceCtorEq, ↓exLSu, ↓exDKu, ↓exDKd, ↓exLSd, ↓exLu, ↓dIxRu, ↓dPutu, ↓dGetAu, ↓dEq_int, ↓dNe_int, ↓dEq_bl, ↓dNe_bl, ↓dEq_str, ↓dNe_str, ↓dAdd_int, ↓exAt10, ↓exIx10, ↓exAt20, ↓exIx20, ↓exAt21, ↓exIx21, ↓exAt30, ↓exIx30, ↓exAt31, ↓exIx31, ↓exAt32, ↓exIx32, ↓exAt40, ↓exIx40, ↓exAt41, ↓exIx41, ↓exAt42, ↓exIx42, ↓exAt43, ↓exIx43, ↓exAt50, ↓exIx50, ↓exAt51, ↓exIx51, ↓exAt52, ↓exIx52, ↓exAt53, ↓exIx53, ↓exAt54, ↓exIx54, ↓exAt60, ↓exIx60, ↓exAt61, ↓exIx61, ↓exAt62, ↓exIx62, ↓exAt63, ↓exIx63, ↓exAt64, ↓exIx64, ↓exAt65, ↓exIx65, up_up, false_or, or_false, ↓exAtM, ↓dFlag_bl, ↓exBl, ↓exInt, ↓exRef, ↓dVar0, ↓dAug0, ↓dSet0, ↓dTgN0, ↓dTgW0, ↓dVar1, ↓dAug1, ↓dSet1, ↓dTgN1, ↓dTgW1, ↓dVar2, ↓dAug2, ↓dSet2, ↓dTgN2, ↓dTgW2, ↓dVar3, ↓dAug3, ↓dSet3, ↓dTgN3, ↓dTgW3, ↓dVar4, ↓dAug4, ↓dSet4, ↓dTgN4, ↓dTgW4, ↓dVar5, ↓dAug5, ↓dSet5, ↓dTgN5, ↓dTgW5, ↓dVar6, ↓dAug6, ↓dSet6, ↓dTgN6, ↓dTgW6, ↓dVar7, ↓dAug7, ↓dSet7, ↓dTgN7, ↓dTgW7, ↓dVar8, ↓dAug8, ↓dSet8, ↓dTgN8, ↓dTgW8, ↓dVar9, ↓dAug9, ↓dSet9, ↓dTgN9, ↓dTgW9, ↓dVar10, ↓dAug10, ↓dSet10, ↓dTgN10, ↓dTgW10, ↓dVar11, ↓dAug11, ↓dSet11, ↓dTgN11, ↓dTgW11, ↓dVar12, ↓dAug12, ↓dSet12, ↓dTgN12, ↓dTgW12, ↓dVar13, ↓dAug13, ↓dSet13, ↓dTgN13, ↓dTgW13, ↓dVar14, ↓dAug14, ↓dSet14, ↓dTgN14, ↓dTgW14, ↓dVar15, ↓dAug15, ↓dSet15, ↓dTgN15, ↓dTgW15, ↓dVar16, ↓dAug16, ↓dSet16, ↓dTgN16, ↓dTgW16, ↓dVar17, ↓dAug17, ↓dSet17, ↓dTgN17, ↓dTgW17, ↓dVar18, ↓dAug18, ↓dSet18, ↓dTgN18, ↓dTgW18, ↓dVar19, ↓dAug19, ↓dSet19, ↓dTgN19, ↓dTgW19, ↓dTg_t2, ↓dTg_t3, ↓exGetM, ↓exSumU, nD, plD, rwD, ↓dAdd_tup, ↓dAdd_ref, dSIndex, dInS, dKeysI, dValsI, dItemsI, dMulS, dEqK, dNeK, dClrK, dCntS]
    have nq2 : q2 ≠ p := by rintro rfl; rw [hz1] at hq2; cases hq2
    have hqM1 : M1 q2 = none := by rw [← hMz1, up_ne nq2] at hq2; exact hq2
    have n12 : q1 ≠ q2 := by rintro rfl; rw [hq1'] at hqM1; cases hqM1
    refine ⟨by rw [up_ne nq2.symm]; exact hz1, ?_⟩
    rw [← hMz1, swap M1 od ws q2 _ nq2 hp1]
    clear hMz1 hz1 hq2 Mz1 od ws
    have hp2 : up M1 q2 (.dK (gpK g fun _ => 0)) p = some (.dK (gD g)) := by rw [up_ne nq2.symm]; exact hp1
    refine ⟨p, gD g, hp2, fun od ws => ?_⟩
    have wz : up (up M1 q2 (.dK (gpK g fun _ => 0))) p (.dKz (gD g) od ws) p = some (.dKz (gD g) od ws) := up_same
    have wzf : up (up M1 q2 (.dK (gpK g fun _ => 0))) p (.dKz (gD g) od ws) q2 = some (.dK (gpK g fun _ => 0)) := by rw [up_ne nq2, up_same]
    have wq : up (up M1 q2 (.dK (gpK g fun _ => 0))) p (.dKz (gD g) od ws) q1 = some (.dK (gpK g (gp g k t))) := by rw [up_ne nq1, up_ne n12]; exact hq1'
    have wb : ∀ o, up (up (up (up M1 q2 (.dK (gpK g fun _ => 0))) p (.dKz (gD g) od ws)) q2 o) p (.dK (gD g)) = up M1 q2 o := fun o => by rw [up_comm nq2, up_up, up_self hp2, up_up]
    generalize up (up M1 q2 (.dK (gpK g fun _ => 0))) p (.dKz (gD g) od ws) = W at *
    have wz2 : ∀ o, up W q2 o p = some (.dKz (gD g) od ws) := fun o => by rw [up_ne nq2.symm]; exact wz
    have wq2 : ∀ o, up W q2 o q1 = some (.dK (gpK g (gp g k t))) := fun o => by rw [up_ne n12]; exact wq
    refine dFor_g fun F4 T4 h4 t4 => ?_; simp only [dFor, dC, dOp, dTest, dChain, dAnd, dOr, dNot, dAndV, dOrV, dNotV, dIf, dNil, dCons, dTup, dLst, dCB, d1, dIx, dNoPart, dPart, dSl, dCut, dNeg, dLen, dTupOf, dListOf, dSorted, dSum, dAll, dAny, dInt, dAbs, dMax, dMin, dIsi, isT, dNext, dSeq, dBrk, dCont, dNever, dExpr, dRet, dRetN, dIfS, dAsg, dPutI, dI0, dI, dIsN, dNotN, dSeqI, dRng1, dRng2, dRngDn, dEnumI, dZipI, dYes, dCall, dLM, dAppend, dExtend, dReverse, dInsert, dAugI, dRg1, dRg2, dTupRg, dLstRg, dNewK, dNewT, ↓S0_, ↓S1_, ↓S2_, ↓S3_, ↓S4_, ↓S5_, ↓S6_, List.map_cons, List.map_nil, List.length_cons, List.length_nil, List.replicate, List.cons_append, List.nil_append, Nat.reduceAdd, Nat.reduceSub, Nat.zero_add, List.getElem?_cons_zero, List.getElem?_cons_succ, Option.some.injEq, exists_eq_left, exists_eq_left', List.set_cons_zero, List.set_cons_succ, wipeD, D.int.injEq, D.bl.injEq, D.str.injEq, D.ref.injEq, D.tup.injEq, D.ty.injEq, true_and, and_true, forall_const, forall_eq', forall_eq, mt_int, mt_bool, mt_str, mt_tuple, mt_list, mt_dict, st_int_int, st_int_bool, st_int_str, st_int_tuple, st_int_list, st_int_dict, st_bool_int, st_bool_bool, st_bool_str, st_bool_tuple, st_bool_list, st_bool_dict, st_str_int, st_str_bool, st_str_str, st_str_tuple, st_str_list, st_str_dict, st_tuple_int, st_tuple_bool, st_tuple_str, st_tuple_tuple, st_tuple_list, st_tuple_dict, st_list_int, st_list_bool, st_list_str, st_list_tuple, st_list_list, st_list_dict, st_dict_int, st_dict_bool, st_dict_str, st_dict_tuple, st_dict_list, st_dict_dict, eq_self, Bool.true_eq_false, Bool.false_eq_true, false_implies, true_implies, implies_true, decide_eq_true_eq, decide_eq_false_iff_not, Bool.not_true, Bool.not_false, Bool.not_eq_true, Bool.not_eq_false, Bool.not_eq_true', Bool.not_eq_false', not_true_eq_false, not_false_eq_true, false_and, and_false, or_false, false_or, reduceCtorEq, ↓exLSu, ↓exDKu, ↓exDKd, ↓exLSd, ↓exLu, ↓dIxRu, ↓dPutu, ↓dGetAu, ↓dEq_int, ↓dNe_int, ↓dEq_bl, ↓dNe_bl, ↓dEq_str, ↓dNe_str, ↓dAdd_int, ↓exAt10, ↓exIx10, ↓exAt20, ↓exIx20, ↓exAt21, ↓exIx21, ↓exAt30, ↓exIx30, ↓exAt31, ↓exIx31, ↓exAt32, ↓exIx32, ↓exAt40, ↓exIx40, ↓exAt41, ↓exIx41, ↓exAt42, ↓exIx42, ↓exAt43, ↓exIx43, ↓exAt50, ↓exIx50, ↓exAt51, ↓exIx51, ↓exAt52, ↓exIx52, ↓exAt53, ↓exIx53, ↓exAt54, ↓exIx54, ↓exAt60, ↓exIx60, ↓exAt61, ↓exIx61, ↓exAt62, ↓exIx62, ↓exAt63, ↓exIx63, ↓exAt64, ↓exIx64, ↓exAt65, ↓exIx65, up_up, false_or, or_false, ↓exAtM, ↓dFlag_bl, ↓exBl, ↓exInt, ↓exRef, ↓dVar0, ↓dAug0, ↓dSet0, ↓dTgN0, ↓dTgW0, ↓dVar1, ↓dAug1, ↓dSet1, ↓dTgN1, ↓dTgW1, ↓dVar2, ↓dAug2, ↓dSet2, ↓dTgN2, ↓dTgW2, ↓dVar3, ↓dAug3, ↓dSet3, ↓dTgN3, ↓dTgW3, ↓dVar4, ↓dAug4, ↓dSet4, ↓dTgN4, ↓dTgW4, ↓dVar5, ↓dAug5, ↓dSet5, ↓dTgN5, ↓dTgW5, ↓dVar6, ↓dAug6, ↓dSet6, ↓dTgN6, ↓dTgW6, ↓dVar7, ↓dAug7, ↓dSet7, ↓dTgN7, ↓dTgW7, ↓dVar8, ↓dAug8, ↓dSet8, ↓dTgN8, ↓dTgW8, ↓dVar9, ↓dAug9, ↓dSet9, ↓dTgN9, ↓dTgW9, ↓dVar10, ↓dAug10, ↓dSet10, ↓dTgN10, ↓dTgW10, ↓dVar11, ↓dAug11, ↓dSet11, ↓dTgN11, ↓dTgW11, ↓dVar12, ↓dAug12, ↓dSet12, ↓dTgN12, ↓dTgW12, ↓dVar13, ↓dAug13, ↓dSet13, ↓dTgN13, ↓dTgW13, ↓dVar14, ↓dAug14, ↓dSet14, ↓dTgN14, ↓dTgW14, ↓dVar15, ↓dAug15, ↓dSet15, ↓dTgN15, ↓dTgW15, ↓dVar16, ↓dAug16, ↓dSet16, ↓dTgN16, ↓dTgW16, ↓dVar17, ↓dAug17, ↓dSet17, ↓dTgN17, ↓dTgW17, ↓dVar18, ↓dAug18, ↓dSet18, ↓dTgN18, ↓dTgW18, ↓dVar19, ↓dAug19, ↓dSet19, ↓dTgN19, ↓dTgW19, ↓dTg_t2, ↓dTg_t3, ↓exGetM, ↓exSumU, nD, plD, rwD, ↓dAdd_tup, ↓dAdd_ref, dSIndex, dInS, dKeysI, dValsI, dItemsI, dMulS, dEqK, dNeK, dClrK, dCntS]
    simp (config := {failIfUnchanged := false}) only [dC, dOp, dTest, dChain, dAnd, dOr, dNot, dAndV, dOrV, dNotV, dIf, dNil, dCons, dTup, dLst, dCB, d1, dIx, dNoPart, dPart, dSl, dCut, dNeg, dLen, dTupOf, dListOf, dSorted, dSum, dAll, dAny, dInt, dAbs, dMax, dMin, dIsi, isT, dNext, dSeq, dBrk, dCont, dNever, dExpr, dRet, dRetN, dIfS, dAsg, dPutI, dI0, dI, dIsN, dNotN, dSeqI, dRng1, dRng2, dRngDn, dEnumI, dZipI, dYes, dCall, dLM, dAppend, dExtend, dReverse, dInsert, dAugI, dRg1, dRg2, dTupRg, dLstRg, dNewK, dNewT, ↓S0_, ↓S1_, ↓S2_, ↓S3_, ↓S4_, ↓S5_, ↓S6_, List.map_cons, List.map_nil, List.length_cons, List.length_nil, List.replicate, List.cons_append, List.nil_append, Nat.reduceAdd, Nat.reduceSub, Nat.zero_add, List.getElem?_cons_zero, List.getElem?_cons_succ, Option.some.injEq, exists_eq_left, exists_eq_left', List.set_cons_zero, List.set_cons_succ, wipeD, D.int.injEq, D.bl.injEq, D.str.injEq, D.ref.injEq, D.tup.injEq, D.ty.injEq, true_and, and_true, forall_const, forall_eq', forall_eq, mt_int, mt_bool, mt_str, mt_tuple, mt_list, mt_dict, st_int_int, st_int_bool, st_int_str, st_int_tuple, st_int_list, st_int_dict, st_bool_int, st_bool_bool, st_bool_str, st_bool_tuple, st_bool_list, st_bool_dict, st_str_int, st_str_bool, st_str_str, st_str_tuple, st_str_list, st_str_dict, st_tuple_int, st_tuple_bool, st_tuple_str, st_tuple_tuple, st_tuple_list, st_tuple_dict, st_list_int, st_list_bool, st_list_str, st_list_tuple, st_list_list, st_list_dict, st_dict_int, st_dict_bool, st_dict_str, st_dict_tuple, st_dict_list, st_dict_dict, eq_self, Bool.true_eq_false, Bool.false_eq_true, false_implies, true_implies, implies_true, decide_eq_true_eq, decide_eq_false_iff_not, Bool.not_true, Bool.not_false, Bool.not_eq_true, Bool.not_eq_false, Bool.not_eq_true', Bool.not_eq_false', not_true_eq_false, not_false_eq_true, false_and, and_false, or_false, false_or, reduceCtorEq, ↓exLSu, ↓exDKu, ↓exDKd, ↓exLSd, ↓exLu, ↓dIxRu, ↓dPutu, ↓dGetAu, ↓dEq_int, ↓dNe_int, ↓dEq_bl, ↓dNe_bl, ↓dEq_str, ↓dNe_str, ↓dAdd_int, ↓exAt10, ↓exIx10, ↓exAt20, ↓exIx20, ↓exAt21, ↓exIx21, ↓exAt30, ↓exIx30, ↓exAt31, ↓exIx31, ↓exAt32, ↓exIx32, ↓exAt40, ↓exIx40, ↓exAt41, ↓exIx41, ↓exAt42, ↓exIx42, ↓exAt43, ↓exIx43, ↓exAt50, ↓exIx50, ↓exAt51, ↓exIx51, ↓exAt52, ↓exIx52, ↓exAt53, ↓exIx53, ↓exAt54, ↓exIx54, ↓exAt60, ↓exIx60, ↓exAt61, ↓exIx61, ↓exAt62, ↓exIx62, ↓exAt63, ↓exIx63, ↓exAt64, ↓exIx64, ↓exAt65, ↓exIx65, up_up, false_or, or_false, ↓exAtM, ↓dFlag_bl, ↓exBl, ↓exInt, ↓exRef, ↓dVar0, ↓dAug0, ↓dSet0, ↓dTgN0, ↓dTgW0, ↓dVar1, ↓dAug1, ↓dSet1, ↓dTgN1, ↓dTgW1, ↓dVar2, ↓dAug2, ↓dSet2, ↓dTgN2, ↓dTgW2, ↓dVar3, ↓dAug3, ↓dSet3, ↓dTgN3, ↓dTgW3, ↓dVar4, ↓dAug4, ↓dSet4, ↓dTgN4, ↓dTgW4, ↓dVar5, ↓dAug5, ↓dSet5, ↓dTgN5, ↓dTgW5, ↓dVar6, ↓dAug6, ↓dSet6, ↓dTgN6, ↓dTgW6, ↓dVar7, ↓dAug7, ↓dSet7, ↓dTgN7, ↓dTgW7, ↓dVar8, ↓dAug8, ↓dSet8, ↓dTgN8, ↓dTgW8, ↓dVar9, ↓dAug9, ↓dSet9, ↓dTgN9, ↓dTgW9, ↓dVar10, ↓dAug10, ↓dSet10, ↓dTgN10, ↓dTgW10, ↓dVar11, ↓dAug11, ↓dSet11, ↓dTgN11, ↓dTgW11, ↓dVar12, ↓dAug12, ↓dSet12, ↓dTgN12, ↓dTgW12, ↓dVar13, ↓dAug13, ↓dSet13, ↓dTgN13, ↓dTgW13, ↓dVar14, ↓dAug14, ↓dSet14, ↓dTgN14, ↓dTgW14, ↓dVar15, ↓dAug15, ↓dSet15, ↓dTgN15, ↓dTgW15, ↓dVar16, ↓dAug16, ↓dSet16, ↓dTgN16, ↓dTgW16, ↓dVar17, ↓dAug17, ↓dSet17, ↓dTgN17, ↓dTgW17, ↓dVar18, ↓dAug18, ↓dSet18, ↓dTgN18, ↓dTgW18, ↓dVar19, ↓dAug19, ↓dSet19, ↓dTgN19, ↓dTgW19, ↓dTg_t2, ↓dTg_t3, ↓exGetM, ↓exSumU, nD, plD, rwD, ↓dAdd_tup, ↓dAdd_ref, dSIndex, dInS, dKeysI, dValsI, dItemsI, dMulS, dEqK, dNeK, dClrK, dCntS]
    refine ⟨gD g, od, ws, wz, forL (fun e : Str × List Str => D.str e.1) g (fun l δ M' => M' = up W q2 (.dK (gpK g (gl l (gp g k t)))) ∧ ∃ c d : Option D, δ = [some (.ref p), some (.str k), some (nD m), some (.ref q1), some (nD t), some (.ref q2), c, d]) hkl ⟨(up_self wzf).symm, _, _, rfl⟩ ?_ ?_⟩
    · rintro l e tt δ' _ pre2 P2 ee ⟨rfl, c, d, rfl⟩ hP2
      have he : e ∈ g := by rw [ee]; simp
      obtain ⟨e4, eo⟩ := hg.left e he
      have hm1 : e.1 ∈ g.map (·.1) := List.mem_map.mpr ⟨e, he, rfl⟩
      refine ⟨wz2 _, ?_⟩
      subst t4
      simp (config := {failIfUnchanged := false}) only [dC, dOp, dTest, dChain, dAnd, dOr, dNot, dAndV, dOrV, dNotV, dIf, dNil, dCons, dTup, dLst, dCB, d1, dIx, dNoPart, dPart, dSl, dCut, dNeg, dLen, dTupOf, dListOf, dSorted, dSum, dAll, dAny, dInt, dAbs, dMax, dMin, dIsi, isT, dNext, dSeq, dBrk, dCont, dNever, dExpr, dRet, dRetN, dIfS, dAsg, dPutI, dI0, dI, dIsN, dNotN, dSeqI, dRng1, dRng2, dRngDn, dEnumI, dZipI, dYes, dCall, dLM, dAppend, dExtend, dReverse, dInsert, dAugI, dRg1, dRg2, dTupRg, dLstRg, dNewK, dNewT, ↓S0_, ↓S1_, ↓S2_, ↓S3_, ↓S4_, ↓S5_, ↓S6_, List.map_cons, List.map_nil, List.length_cons, List.length_nil, List.replicate, List.cons_append, List.nil_append, Nat.reduceAdd, Nat.reduceSub, Nat.zero_add, List.getElem?_cons_zero, List.getElem?_cons_succ, Option.some.injEq, exists_eq_left, exists_eq_left', List.set_cons_zero, List.set_cons_succ, wipeD, D.int.injEq, D.bl.injEq, D.str.injEq, D.ref.injEq, D.tup.injEq, D.ty.injEq, true_and, and_true, forall_const, forall_eq', forall_eq, mt_int, mt_bool, mt_str, mt_tuple, mt_list, mt_dict, st_int_int, st_int_bool, st_int_str, st_int_tuple, st_int_list, st_int_dict, st_bool_int, st_bool_bool, st_bool_str, st_bool_tuple, st_bool_list, st_bool_dict, st_str_int, st_str_bool, st_str_str, st_str_tuple, st_str_list, st_str_dict, st_tuple_int, st_tuple_bool, st_tuple_str, st_tuple_tuple, st_tuple_list, st_tuple_dict, st_list_int, st_list_bool, st_list_str, st_list_tuple, st_list_list, st_list_dict, st_dict_int, st_dict_bool, st_dict_str, st_dict_tuple, st_dict_list, st_dict_dict, eq_self, Bool.true_eq_false, Bool.false_eq_true, false_implies, true_implies, implies_true, decide_eq_true_eq, decide_eq_false_iff_not, Bool.not_true, Bool.not_false, Bool.not_eq_true, Bool.not_eq_false, Bool.not_eq_true', Bool.not_eq_false', not_true_eq_false, not_false_eq_true, false_and, and_false, or_false, false_or, reduceCtorEq, ↓exLSu, ↓exDKu, ↓exDKd, ↓exLSd, ↓exLu, ↓dIxRu, ↓dPutu, ↓dGetAu, ↓dEq_int, ↓dNe_int, ↓dEq_bl, ↓dNe_bl, ↓dEq_str, ↓dNe_str, ↓dAdd_int, ↓exAt10, ↓exIx10, ↓exAt20, ↓exIx20, ↓exAt21, ↓exIx21, ↓exAt30, ↓exIx30, ↓exAt31, ↓exIx31, ↓exAt32, ↓exIx32, ↓exAt40, ↓exIx40, ↓exAt41, ↓exIx41, ↓exAt42, ↓exIx42, ↓exAt43, ↓exIx43, ↓exAt50, ↓exIx50, ↓exAt51, ↓exIx51, ↓exAt52, ↓exIx52, ↓exAt53, ↓exIx53, ↓exAt54, ↓exIx54, ↓exAt60, ↓exIx60, ↓exAt61, ↓exIx61, ↓exAt62, ↓exIx62, ↓exAt63, ↓exIx63, ↓exAt64, ↓exIx64, ↓exAt65, ↓exIx65, up_up, false_or, or_false, ↓exAtM, ↓dFlag_bl, ↓exBl, ↓exInt, ↓exRef, ↓dVar0, ↓dAug0, ↓dSet0, ↓dTgN0, ↓dTgW0, ↓dVar1, ↓dAug1, ↓dSet1, ↓dTgN1, ↓dTgW1, ↓dVar2, ↓dAug2, ↓dSet2, ↓dTgN2, ↓dTgW2, ↓dVar3, ↓dAug3, ↓dSet3, ↓dTgN3, ↓dTgW3, ↓dVar4, ↓dAug4, ↓dSet4, ↓dTgN4, ↓dTgW4, ↓dVar5, ↓dAug5, ↓dSet5, ↓dTgN5, ↓dTgW5, ↓dVar6, ↓dAug6, ↓dSet6, ↓dTgN6, ↓dTgW6, ↓dVar7, ↓dAug7, ↓dSet7, ↓dTgN7, ↓dTgW7, ↓dVar8, ↓dAug8, ↓dSet8, ↓dTgN8, ↓dTgW8, ↓dVar9, ↓dAug9, ↓dSet9, ↓dTgN9, ↓dTgW9, ↓dVar10, ↓dAug10, ↓dSet10, ↓dTgN10, ↓dTgW10, ↓dVar11, ↓dAug11, ↓dSet11, ↓dTgN11, ↓dTgW11, ↓dVar12, ↓dAug12, ↓dSet12, ↓dTgN12, ↓dTgW12, ↓dVar13, ↓dAug13, ↓dSet13, ↓dTgN13, ↓dTgW13, ↓dVar14, ↓dAug14, ↓dSet14, ↓dTgN14, ↓dTgW14, ↓dVar15, ↓dAug15, ↓dSet15, ↓dTgN15, ↓dTgW15, ↓dVar16, ↓dAug16, ↓dSet16, ↓dTgN16, ↓dTgW16, ↓dVar17, ↓dAug17, ↓dSet17, ↓dTgN17, ↓dTgW17, ↓dVar18, ↓dAug18, ↓dSet18, ↓dTgN18, ↓dTgW18, ↓dVar19, ↓dAug19, ↓dSet19, ↓dTgN19, ↓dTgW19, ↓dTg_t2, ↓dTg_t3, ↓exGetM, ↓exSumU, nD, plD, rwD, ↓dAdd_tup, ↓dAdd_ref, dSIndex, dInS, dKeysI, dValsI, dItemsI, dMulS, dEqK, dNeK, dClrK, dCntS]
      refine dFor_g fun F5 T5 h5 t5 => ?_; simp only [dFor, dC, dOp, dTest, dChain, dAnd, dOr, dNot, dAndV, dOrV, dNotV, dIf, dNil, dCons, dTup, dLst, dCB, d1, dIx, dNoPart, dPart, dSl, dCut, dNeg, dLen, dTupOf, dListOf, dSorted, dSum, dAll, dAny, dInt, dAbs, dMax, dMin, dIsi, isT, dNext, dSeq, dBrk, dCont, dNever, dExpr, dRet, dRetN, dIfS, dAsg, dPutI, dI0, dI, dIsN, dNotN, dSeqI, dRng1, dRng2, dRngDn, dEnumI, dZipI, dYes, dCall, dLM, dAppend, dExtend, dReverse, dInsert, dAugI, dRg1, dRg2, dTupRg, dLstRg, dNewK, dNewT, ↓S0_, ↓S1_, ↓S2_, ↓S3_, ↓S4_, ↓S5_, ↓S6_, List.map_cons, List.map_nil, List.length_cons, List.length_nil, List.replicate, List.cons_append, List.nil_append, Nat.reduceAdd, Nat.reduceSub, Nat.zero_add, List.getElem?_cons_zero, List.getElem?_cons_succ, Option.some.injEq, exists_eq_left, exists_eq_left', List.set_cons_zero, List.set_cons_succ, wipeD, D.int.injEq, D.bl.injEq, D.str.injEq, D.ref.injEq, D.tup.injEq, D.ty.injEq, true_and, and_true, forall_const, forall_eq', forall_eq, mt_int, mt_bool, mt_str, mt_tuple, mt_list, mt_dict, st_int_int, st_int_bool, st_int_str, st_int_tuple, st_int_list, st_int_dict, st_bool_int, st_bool_bool, st_bool_str, st_bool_tuple, st_bool_list, st_bool_dict, st_str_int, st_str_bool, st_str_str, st_str_tuple, st_str_list, st_str_dict, st_tuple_int, st_tuple_bool, st_tuple_str, st_tuple_tuple, st_tuple_list, st_tuple_dict, st_list_int, st_list_bool, st_list_str, st_list_tuple, st_list_list, st_list_dict, st_dict_int, st_dict_bool, st_dict_str, st_dict_tuple, st_dict_list, st_dict_dict, eq_self, Bool.true_eq_false, Bool.false_eq_true, false_implies, true_implies, implies_true, decide_eq_true_eq, decide_eq_false_iff_not, Bool.not_true, Bool.not_false, Bool.not_eq_true, Bool.not_eq_false, Bool.not_eq_true', Bool.not_eq_false', not_true_eq_false, not_false_eq_true, false_and, and_false, or_false, false_or, reduceCtorEq, ↓exLSu, ↓exDKu, ↓exDKd, ↓exLSd, ↓exLu, ↓dIxRu, ↓dPutu, ↓dGetAu, ↓dEq_int, ↓dNe_int, ↓dEq_bl, ↓dNe_bl, ↓dEq_str, ↓dNe_str, ↓dAdd_int, ↓exAt10, ↓exIx10, ↓exAt20, ↓exIx20, ↓exAt21, ↓exIx21, ↓exAt30, ↓exIx30, ↓exAt31, ↓exIx31, ↓exAt32, ↓exIx32, ↓exAt40, ↓exIx40, ↓exAt41, ↓exIx41, ↓exAt42, ↓exIx42, ↓exAt43, ↓exIx43, ↓exAt50, ↓exIx50, ↓exAt51, ↓exIx51, ↓exAt52, ↓exIx52, ↓exAt53, ↓exIx53, ↓exAt54, ↓exIx54, ↓exAt60, ↓exIx60, ↓exAt61, ↓exIx61, ↓exAt62, ↓exIx62, ↓exAt63, ↓exIx63, ↓exAt64, ↓exIx64, ↓exAt65, ↓exIx65, up_up, false_or, or_false, ↓exAtM, ↓dFlag_bl, ↓exBl, ↓exInt, ↓exRef, ↓dVar0, ↓dAug0, ↓dSet0, ↓dTgN0, ↓dTgW0, ↓dVar1, ↓dAug1, ↓dSet1, ↓dTgN1, ↓dTgW1, ↓dVar2, ↓dAug2, ↓dSet2, ↓dTgN2, ↓dTgW2, ↓dVar3, ↓dAug3, ↓dSet3, ↓dTgN3, ↓dTgW3, ↓dVar4, ↓dAug4, ↓dSet4, ↓dTgN4, ↓dTgW4, ↓dVar5, ↓dAug5, ↓dSet5, ↓dTgN5, ↓dTgW5, ↓dVar6, ↓dAug6, ↓dSet6, ↓dTgN6, ↓dTgW6, ↓dVar7, ↓dAug7, ↓dSet7, ↓dTgN7, ↓dTgW7, ↓dVar8, ↓dAug8, ↓dSet8, ↓dTgN8, ↓dTgW8, ↓dVar9, ↓dAug9, ↓dSet9, ↓dTgN9, ↓dTgW9, ↓dVar10, ↓dAug10, ↓dSet10, ↓dTgN10, ↓dTgW10, ↓dVar11, ↓dAug11, ↓dSet11, ↓dTgN11, ↓dTgW11, ↓dVar12, ↓dAug12, ↓dSet12, ↓dTgN12, ↓dTgW12, ↓dVar13, ↓dAug13, ↓dSet13, ↓dTgN13, ↓dTgW13, ↓dVar14, ↓dAug14, ↓dSet14, ↓dTgN14, ↓dTgW14, ↓dVar15, ↓dAug15, ↓dSet15, ↓dTgN15, ↓dTgW15, ↓dVar16, ↓dAug16, ↓dSet16, ↓dTgN16, ↓dTgW16, ↓dVar17, ↓dAug17, ↓dSet17, ↓dTgN17, ↓dTgW17, ↓dVar18, ↓dAug18, ↓dSet18, ↓dTgN18, ↓dTgW18, ↓dVar19, ↓dAug19, ↓dSet19, ↓dTgN19, ↓dTgW19, ↓dTg_t2, ↓dTg_t3, ↓exGetM, ↓exSumU, nD, plD, rwD, ↓dAdd_tup, ↓dAdd_ref, dSIndex, dInS, dKeysI, dValsI, dItemsI, dMulS, dEqK, dNeK, dClrK, dCntS]
      simp (config := {failIfUnchanged := false}) only [dC, dOp, dTest, dChain, dAnd, dOr, dNot, dAndV, dOrV, dNotV, dIf, dNil, dCons, dTup, dLst, dCB, d1, dIx, dNoPart, dPart, dSl, dCut, dNeg, dLen, dTupOf, dListOf, dSorted, dSum, dAll, dAny, dInt, dAbs, dMax, dMin, dIsi, isT, dNext, dSeq, dBrk, dCont, dNever, dExpr, dRet, dRetN, dIfS, dAsg, dPutI, dI0, dI, dIsN, dNotN, dSeqI, dRng1, dRng2, dRngDn, dEnumI, dZipI, dYes, dCall, dLM, dAppend, dExtend, dReverse, dInsert, dAugI, dRg1, dRg2, dTupRg, dLstRg, dNewK, dNewT, ↓S0_, ↓S1_, ↓S2_, ↓S3_, ↓S4_, ↓S5_, ↓S6_, List.map_cons, List.map_nil, List.length_cons, List.length_nil, List.replicate, List.cons_append, List.nil_append, Nat.reduceAdd, Nat.reduceSub, Nat.zero_add, List.getElem?_cons_zero, List.getElem?_cons_succ, Option.some.injEq, exists_eq_left, exists_eq_left', List.set_cons_zero, List.set_cons_succ, wipeD, D.int.injEq, D.bl.injEq, D.str.injEq, D.ref.injEq, D.tup.injEq, D.ty.injEq, true_and, and_true, forall_const, forall_eq', forall_eq, mt_int, mt_bool, mt_str, mt_tuple, mt_list, mt_dict, st_int_int, st_int_bool, st_int_str, st_int_tuple, st_int_list, st_int_dict, st_bool_int, st_bool_bool, st_bool_str, st_bool_tuple, st_bool_list, st_bool_dict, st_str_int, st_str_bool, st_str_str, st_str_tuple, st_str_list, st_str_dict, st_tuple_int, st_tuple_bool, st_tuple_str, st_tuple_tuple, st_tuple_list, st_tuple_dict, st_list_int, st_list_bool, st_list_str, st_list_tuple, st_list_list, st_list_dict, st_dict_int, st_dict_bool, st_dict_str, st_dict_tuple, st_dict_list, st_dict_dict, eq_self, Bool.true_eq_false, Bool.false_eq_true, false_implies, true_implies, implies_true, decide_eq_true_eq, decide_eq_false_iff_not, Bool.not_true, Bool.not_false, Bool.not_eq_true, Bool.not_eq_false, Bool.not_eq_true', Bool.not_eq_false', not_true_eq_false, not_false_eq_true, false_and, and_false, or_false, false_or, reduceCtorEq, ↓exLSu, ↓exDKu, ↓exDKd, ↓exLSd, ↓exLu, ↓dIxRu, ↓dPutu, ↓dGetAu, ↓dEq_int, ↓dNe_int, ↓dEq_bl, ↓dNe_bl, ↓dEq_str, ↓dNe_str, ↓dAdd_int, ↓exAt10, ↓exIx10, ↓exAt20, ↓exIx20, ↓exAt21, ↓exIx21, ↓exAt30, ↓exIx30, ↓exAt31, ↓exIx31, ↓exAt32, ↓exIx32, ↓exAt40, ↓exIx40, ↓exAt41, ↓exIx41, ↓exAt42, ↓exIx42, ↓exAt43, ↓exIx43, ↓exAt50, ↓exIx50, ↓exAt51, ↓exIx51, ↓exAt52, ↓exIx52, ↓exAt53, ↓exIx53, ↓exAt54, ↓exIx54, ↓exAt60, ↓exIx60, ↓exAt61, ↓exIx61, ↓exAt62, ↓exIx62, ↓exAt63, ↓exIx63, ↓exAt64, ↓exIx64, ↓exAt65, ↓exIx65, up_up, false_or, or_false, ↓exAtM, ↓dFlag_bl, ↓exBl, ↓exInt, ↓exRef, ↓dVar0, ↓dAug0, ↓dSet0, ↓dTgN0, ↓dTgW0, ↓dVar1, ↓dAug1, ↓dSet1, ↓dTgN1, ↓dTgW1, ↓dVar2, ↓dAug2, ↓dSet2, ↓dTgN2, ↓dTgW2, ↓dVar3, ↓dAug3, ↓dSet3, ↓dTgN3, ↓dTgW3, ↓dVar4, ↓dAug4, ↓dSet4, ↓dTgN4, ↓dTgW4, ↓dVar5, ↓dAug5, ↓dSet5, ↓dTgN5, ↓dTgW5, ↓dVar6, ↓dAug6, ↓dSet6, ↓dTgN6, ↓dTgW6, ↓dVar7, ↓dAug7, ↓dSet7, ↓dTgN7, ↓dTgW7, ↓dVar8, ↓dAug8, ↓dSet8, ↓dTgN8, ↓dTgW8, ↓dVar9, ↓dAug9, ↓dSet9, ↓dTgN9, ↓dTgW9, ↓dVar10, ↓dAug10, ↓dSet10, ↓dTgN10, ↓dTgW10, ↓dVar11, ↓dAug11, ↓dSet11, ↓dTgN11, ↓dTgW11, ↓dVar12, ↓dAug12, ↓dSet12, ↓dTgN12, ↓dTgW12, ↓dVar13, ↓dAug13, ↓dSet13, ↓dTgN13, ↓dTgW13, ↓dVar14, ↓dAug14, ↓dSet14, ↓dTgN14, ↓dTgW14, ↓dVar15, ↓dAug15, ↓dSet15, ↓dTgN15, ↓dTgW15, ↓dVar16, ↓dAug16, ↓dSet16, ↓dTgN16, ↓dTgW16, ↓dVar17, ↓dAug17, ↓dSet17, ↓dTgN17, ↓dTgW17, ↓dVar18, ↓dAug18, ↓dSet18, ↓dTgN18, ↓dTgW18, ↓dVar19, ↓dAug19, ↓dSet19, ↓dTgN19, ↓dTgW19, ↓dTg_t2, ↓dTg_t3, ↓exGetM, ↓exSumU, nD, plD, rwD, ↓dAdd_tup, ↓dAdd_ref, dSIndex, dInS, dKeysI, dValsI, dItemsI, dMulS, dEqK, dNeK, dClrK, dCntS]
      refine .inr (.inl ⟨gD g, .inr e.1, .tup ((lf g e.1).map D.str), rfl, .inr ⟨od, ws, wz2 _⟩, val_g hg hm1, ?_⟩)
      simp (config := {failIfUnchanged := false}) only [dC, dOp, dTest, dChain, dAnd, dOr, dNot, dAndV, dOrV, dNotV, dIf, dNil, dCons, dTup, dLst, dCB, d1, dIx, dNoPart, dPart, dSl, dCut, dNeg, dLen, dTupOf, dListOf, dSorted, dSum, dAll, dAny, dInt, dAbs, dMax, dMin, dIsi, isT, dNext, dSeq, dBrk, dCont, dNever, dExpr, dRet, dRetN, dIfS, dAsg, dPutI, dI0, dI, dIsN, dNotN, dSeqI, dRng1, dRng2, dRngDn, dEnumI, dZipI, dYes, dCall, dLM, dAppend, dExtend, dReverse, dInsert, dAugI, dRg1, dRg2, dTupRg, dLstRg, dNewK, dNewT, ↓S0_, ↓S1_, ↓S2_, ↓S3_, ↓S4_, ↓S5_, ↓S6_, List.map_cons, List.map_nil, List.length_cons, List.length_nil, List.replicate, List.cons_append, List.nil_append, Nat.reduceAdd, Nat.reduceSub, Nat.zero_add, List.getElem?_cons_zero, List.getElem?_cons_succ, Option.some.injEq, exists_eq_left, exists_eq_left', List.set_cons_zero, List.set_cons_succ, wipeD, D.int.injEq, D.bl.injEq, D.str.injEq, D.ref.injEq, D.tup.injEq, D.ty.injEq, true_and, and_true, forall_const, forall_eq', forall_eq, mt_int, mt_bool, mt_str, mt_tuple, mt_list, mt_dict, st_int_int, st_int_bool, st_int_str, st_int_tuple, st_int_list, st_int_dict, st_bool_int, st_bool_bool, st_bool_str, st_bool_tuple, st_bool_list, st_bool_dict, st_str_int, st_str_bool, st_str_str, st_str_tuple, st_str_list, st_str_dict, st_tuple_int, st_tuple_bool, st_tuple_str, st_tuple_tuple, st_tuple_list, st_tuple_dict, st_list_int, st_list_bool, st_list_str, st_list_tuple, st_list_list, st_list_dict, st_dict_int, st_dict_bool, st_dict_str, st_dict_tuple, st_dict_list, st_dict_dict, eq_self, Bool.true_eq_false, Bool.false_eq_true, false_implies, true_implies, implies_true, decide_eq_true_eq, decide_eq_false_iff_not, Bool.not_true, Bool.not_false, Bool.not_eq_true, Bool.not_eq_false, Bool.not_eq_true', Bool.not_eq_false', not_true_eq_false, not_false_eq_true, false_and, and_false, or_false, false_or, reduceCtorEq, ↓exLSu, ↓exDKu, ↓exDKd, ↓exLSd, ↓exLu, ↓dIxRu, ↓dPutu, ↓dGetAu, ↓dEq_int, ↓dNe_int, ↓dEq_bl, ↓dNe_bl, ↓dEq_str, ↓dNe_str, ↓dAdd_int, ↓exAt10, ↓exIx10, ↓exAt20, ↓exIx20, ↓exAt21, ↓exIx21, ↓exAt30, ↓exIx30, ↓exAt31, ↓exIx31, ↓exAt32, ↓exIx32, ↓exAt40, ↓exIx40, ↓exAt41, ↓exIx41, ↓exAt42, ↓exIx42, ↓exAt43, ↓exIx43, ↓exAt50, ↓exIx50, ↓exAt51, ↓exIx51, ↓exAt52, ↓exIx52, ↓exAt53, ↓exIx53, ↓exAt54, ↓exIx54, ↓exAt60, ↓exIx60, ↓exAt61, ↓exIx61, ↓exAt62, ↓exIx62, ↓exAt63, ↓exIx63, ↓exAt64, ↓exIx64, ↓exAt65, ↓exIx65, up_up, false_or, or_false, ↓exAtM, ↓dFlag_bl, ↓exBl, ↓exInt, ↓exRef, ↓dVar0, ↓dAug0, ↓dSet0, ↓dTgN0, ↓dTgW0, ↓dVar1, ↓dAug1, ↓dSet1, ↓dTgN1, ↓dTgW1, ↓dVar2, ↓dAug2, ↓dSet2, ↓dTgN2, ↓dTgW2, ↓dVar3, ↓dAug3, ↓dSet3, ↓dTgN3, ↓dTgW3, ↓dVar4, ↓dAug4, ↓dSet4, ↓dTgN4, ↓dTgW4, ↓dVar5, ↓dAug5, ↓dSet5, ↓dTgN5, ↓dTgW5, ↓dVar6, ↓dAug6, ↓dSet6, ↓dTgN6, ↓dTgW6, ↓dVar7, ↓dAug7, ↓dSet7, ↓dTgN7, ↓dTgW7, ↓dVar8, ↓dAug8, ↓dSet8, ↓dTgN8, ↓dTgW8, ↓dVar9, ↓dAug9, ↓dSet9, ↓dTgN9, ↓dTgW9, ↓dVar10, ↓dAug10, ↓dSet10, ↓dTgN10, ↓dTgW10, ↓dVar11, ↓dAug11, ↓dSet11, ↓dTgN11, ↓dTgW11, ↓dVar12, ↓dAug12, ↓dSet12, ↓dTgN12, ↓dTgW12, ↓dVar13, ↓dAug13, ↓dSet13, ↓dTgN13, ↓dTgW13, ↓dVar14, ↓dAug14, ↓dSet14, ↓dTgN14, ↓dTgW14, ↓dVar15, ↓dAug15, ↓dSet15, ↓dTgN15, ↓dTgW15, ↓dVar16, ↓dAug16, ↓dSet16, ↓dTgN16, ↓dTgW16, ↓dVar17, ↓dAug17, ↓dSet17, ↓dTgN17, ↓dTgW17, ↓dVar18, ↓dAug18, ↓dSet18, ↓dTgN18, ↓dTgW18, ↓dVar19, ↓dAug19, ↓dSet19, ↓dTgN19, ↓dTgW19, ↓dTg_t2, ↓dTg_t3, ↓exGetM, ↓exSumU, nD, plD, rwD, ↓dAdd_tup, ↓dAdd_ref, dSIndex, dInS, dKeysI, dValsI, dItemsI, dMulS, dEqK, dNeK, dClrK, dCntS]
      rw [lf_of hg he]
      refine forL D.str e.2 (fun r δ M' => M' = up W q2 (.dK (gpK g fun o => gl l (gp g k t) o + r.count o * gp g k t e.1)) ∧ ∃ d : Option D, δ = [some (.ref p), some (.str k), some (nD m), some (.ref q1), some (nD t), some (.ref q2), some (.str e.1), d]) rfl ⟨?_, _, rfl⟩ ?_ ?_
      · congr 3
        funext o
        simp
      · rintro r o r2 δ' _ pre3 P3 e3 ⟨rfl, d, rfl⟩ hP3
        have ho := eo o (by rw [e3]; simp)
        subst t5
        simp (config := {failIfUnchanged := false}) only [dC, dOp, dTest, dChain, dAnd, dOr, dNot, dAndV, dOrV, dNotV, dIf, dNil, dCons, dTup, dLst, dCB, d1, dIx, dNoPart, dPart, dSl, dCut, dNeg, dLen, dTupOf, dListOf, dSorted, dSum, dAll, dAny, dInt, dAbs, dMax, dMin, dIsi, isT, dNext, dSeq, dBrk, dCont, dNever, dExpr, dRet, dRetN, dIfS, dAsg, dPutI, dI0, dI, dIsN, dNotN, dSeqI, dRng1, dRng2, dRngDn, dEnumI, dZipI, dYes, dCall, dLM, dAppend, dExtend, dReverse, dInsert, dAugI, dRg1, dRg2, dTupRg, dLstRg, dNewK, dNewT, ↓S0_, ↓S1_, ↓S2_, ↓S3_, ↓S4_, ↓S5_, ↓S6_, List.map_cons, List.map_nil, List.length_cons, List.length_nil, List.replicate, List.cons_append, List.nil_append, Nat.reduceAdd, Nat.reduceSub, Nat.zero_add, List.getElem?_cons_zero, List.getElem?_cons_succ, Option.some.injEq, exists_eq_left, exists_eq_left', List.set_cons_zero, List.set_cons_succ, wipeD, D.int.injEq, D.bl.injEq, D.str.injEq, D.ref.injEq, D.tup.injEq, D.ty.injEq, true_and, and_true, forall_const, forall_eq', forall_eq, mt_int, mt_bool, mt_str, mt_tuple, mt_list, mt_dict, st_int_int, st_int_bool, st_int_str, st_int_tuple, st_int_list, st_int_dict, st_bool_int, st_bool_bool, st_bool_str, st_bool_tuple, st_bool_list, st_bool_dict, st_str_int, st_str_bool, st_str_str, st_str_tuple, st_str_list, st_str_dict, st_tuple_int, st_tuple_bool, st_tuple_str, st_tuple_tuple, st_tuple_list, st_tuple_dict, st_list_int, st_list_bool, st_list_str, st_list_tuple, st_list_list, st_list_dict, st_dict_int, st_dict_bool, st_dict_str, st_dict_tuple, st_dict_list, st_dict_dict, eq_self, Bool.true_eq_false, Bool.false_eq_true, false_implies, true_implies, implies_true, decide_eq_true_eq, decide_eq_false_iff_not, Bool.not_true, Bool.not_false, Bool.not_eq_true, Bool.not_eq_false, Bool.not_eq_true', Bool.not_eq_false', not_true_eq_false, not_false_eq_true, false_and, and_false, or_false, false_or, reduceCtorEq, ↓exLSu, ↓exDKu, ↓exDKd, ↓exLSd, ↓exLu, ↓dIxRu, ↓dPutu, ↓dGetAu, ↓dEq_int, ↓dNe_int, ↓dEq_bl, ↓dNe_bl, ↓dEq_str, ↓dNe_str, ↓dAdd_int, ↓exAt10, ↓exIx10, ↓exAt20, ↓exIx20, ↓exAt21, ↓exIx21, ↓exAt30, ↓exIx30, ↓exAt31, ↓exIx31, ↓exAt32, ↓exIx32, ↓exAt40, ↓exIx40, ↓exAt41, ↓exIx41, ↓exAt42, ↓exIx42, ↓exAt43, ↓exIx43, ↓exAt50, ↓exIx50, ↓exAt51, ↓exIx51, ↓exAt52, ↓exIx52, ↓exAt53, ↓exIx53, ↓exAt54, ↓exIx54, ↓exAt60, ↓exIx60, ↓exAt61, ↓exIx61, ↓exAt62, ↓exIx62, ↓exAt63, ↓exIx63, ↓exAt64, ↓exIx64, ↓exAt65, ↓exIx65, up_up, false_or, or_false, ↓exAtM, ↓dFlag_bl, ↓exBl, ↓exInt, ↓exRef, ↓dVar0, ↓dAug0, ↓dSet0, ↓dTgN0, ↓dTgW0, ↓dVar1, ↓dAug1, ↓dSet1, ↓dTgN1, ↓dTgW1, ↓dVar2, ↓dAug2, ↓dSet2, ↓dTgN2, ↓dTgW2, ↓dVar3, ↓dAug3, ↓dSet3, ↓dTgN3, ↓dTgW3, ↓dVar4, ↓dAug4, ↓dSet4, ↓dTgN4, ↓dTgW4, ↓dVar5, ↓dAug5, ↓dSet5, ↓dTgN5, ↓dTgW5, ↓dVar6, ↓dAug6, ↓dSet6, ↓dTgN6, ↓dTgW6, ↓dVar7, ↓dAug7, ↓dSet7, ↓dTgN7, ↓dTgW7, ↓dVar8, ↓dAug8, ↓dSet8, ↓dTgN8, ↓dTgW8, ↓dVar9, ↓dAug9, ↓dSet9, ↓dTgN9, ↓dTgW9, ↓dVar10, ↓dAug10, ↓dSet10, ↓dTgN10, ↓dTgW10, ↓dVar11, ↓dAug11, ↓dSet11, ↓dTgN11, ↓dTgW11, ↓dVar12, ↓dAug12, ↓dSet12, ↓dTgN12, ↓dTgW12, ↓dVar13, ↓dAug13, ↓dSet13, ↓dTgN13, ↓dTgW13, ↓dVar14, ↓dAug14, ↓dSet14, ↓dTgN14, ↓dTgW14, ↓dVar15, ↓dAug15, ↓dSet15, ↓dTgN15, ↓dTgW15, ↓dVar16, ↓dAug16, ↓dSet16, ↓dTgN16, ↓dTgW16, ↓dVar17, ↓dAug17, ↓dSet17, ↓dTgN17, ↓dTgW17, ↓dVar18, ↓dAug18, ↓dSet18, ↓dTgN18, ↓dTgW18, ↓dVar19, ↓dAug19, ↓dSet19, ↓dTgN19, ↓dTgW19, ↓dTg_t2, ↓dTg_t3, ↓exGetM, ↓exSumU, nD, plD, rwD, ↓dAdd_tup, ↓dAdd_ref, dSIndex, dInS, dKeysI, dValsI, dItemsI, dMulS, dEqK, dNeK, dClrK, dCntS]
        refine ⟨q2, rfl, .inr ⟨_, .inr o, _, rfl, .inl up_same, val_gp hg _ ho, .inr (.inl ⟨_, .inr e.1, _, rfl, .inl (wq2 _), val_gp hg _ hm1, ?_⟩)⟩⟩
        show dPut (.ref q2) (.str o) (.int (((gl l (gp g k t) o + List.count o r * gp g k t e.1 : Nat) : Int) + ((gp g k t e.1 : Nat) : Int))) _ _
        refine ⟨q2, rfl, .inr (.inl ⟨_, .inr o, rfl, up_same, by rw [gp_len]; exact Nat.lt_of_le_of_lt hg.few (by decide), ?_⟩)⟩
        rw [up_up, ← Int.natCast_add]
        have := put_gp hg (fun o => gl l (gp g k t) o + List.count o r * gp g k t e.1) ho (gl l (gp g k t) o + List.count o r * gp g k t e.1 + gp g k t e.1)
        refine sb0 (hP3 _ _ ⟨?_, _, rfl⟩)
        refine (congrArg (fun y => up W q2 (.dK y)) this).trans ?_
        congr 3
        funext o2
        by_cases z : o2 = o
        · subst z
          rw [if_pos rfl, List.count_append, List.count_singleton_self, Nat.add_mul, Nat.one_mul, Nat.add_assoc]
        · rw [if_neg z, List.count_append, show List.count o2 [o] = 0 from List.count_eq_zero.mpr (by simpa using z), Nat.add_zero]
      · rintro δ' _ ⟨rfl, d, rfl⟩
        rw [h5]
        refine sb0 (hP2 _ _ ⟨?_, _, _, rfl⟩)
        congr 3
        funext o
        rw [gl_snoc]
    · rintro δ' _ ⟨rfl, c, d, rfl⟩
      refine ⟨wz2 _, ?_⟩
      rw [h4]
      clear h4 t4
      simp (config := {failIfUnchanged := false}) only [dC, dOp, dTest, dChain, dAnd, dOr, dNot, dAndV, dOrV, dNotV, dIf, dNil, dCons, dTup, dLst, dCB, d1, dIx, dNoPart, dPart, dSl, dCut, dNeg, dLen, dTupOf, dListOf, dSorted, dSum, dAll, dAny, dInt, dAbs, dMax, dMin, dIsi, isT, dNext, dSeq, dBrk, dCont, dNever, dExpr, dRet, dRetN, dIfS, dAsg, dPutI, dI0, dI, dIsN, dNotN, dSeqI, dRng1, dRng2, dRngDn, dEnumI, dZipI, dYes, dCall, dLM, dAppend, dExtend, dReverse, dInsert, dAugI, dRg1, dRg2, dTupRg, dLstRg, dNewK, dNewT, ↓S0_, ↓S1_, ↓S2_, ↓S3_, ↓S4_, ↓S5_, ↓S6_, List.map_cons, List.map_nil, List.length_cons, List.length_nil, List.replicate, List.cons_append, List.nil_append, Nat.reduceAdd, Nat.reduceSub, Nat.zero_add, List.getElem?_cons_zero, List.getElem?_cons_succ, Option.some.injEq, exists_eq_left, exists_eq_left', List.set_cons_zero, List.set_cons_succ, wipeD, D.int.injEq, D.bl.injEq, D.str.injEq, D.ref.injEq, D.tup.injEq, D.ty.injEq, true_and, and_true, forall_const, forall_eq', forall_eq, mt_int, mt_bool, mt_str, mt_tuple, mt_list, mt_dict, st_int_int, st_int_bool, st_int_str, st_int_tuple, st_int_list, st_int_dict, st_bool_int, st_bool_bool, st_bool_str, st_bool_tuple, st_bool_list, st_bool_dict, st_str_int, st_str_bool, st_str_str, st_str_tuple, st_str_list, st_str_dict, st_tuple_int, st_tuple_bool, st_tuple_str, st_tuple_tuple, st_tuple_list, st_tuple_dict, st_list_int, st_list_bool, st_list_str, st_list_tuple, st_list_list, st_list_dict, st_dict_int, st_dict_bool, st_dict_str, st_dict_tuple, st_dict_list, st_dict_dict, eq_self, Bool.true_eq_false, Bool.false_eq_true, false_implies, true_implies, implies_true, decide_eq_true_eq, decide_eq_false_iff_not, Bool.not_true, Bool.not_false, Bool.not_eq_true, Bool.not_eq_false, Bool.not_eq_true', Bool.not_eq_false', not_true_eq_false, not_false_eq_true, false_and, and_false, or_false, false_or, reduceCtorEq, ↓exLSu, ↓exDKu, ↓exDKd, ↓exLSd, ↓exLu, ↓dIxRu, ↓dPutu, ↓dGetAu, ↓dEq_int, ↓dNe_int, ↓dEq_bl, ↓dNe_bl, ↓dEq_str, ↓dNe_str, ↓dAdd_int, ↓exAt10, ↓exIx10, ↓exAt20, ↓exIx20, ↓exAt21, ↓exIx21, ↓exAt30, ↓exIx30, ↓exAt31, ↓exIx31, ↓exAt32, ↓exIx32, ↓exAt40, ↓exIx40, ↓exAt41, ↓exIx41, ↓exAt42, ↓exIx42, ↓exAt43, ↓exIx43, ↓exAt50, ↓exIx50, ↓exAt51, ↓exIx51, ↓exAt52, ↓exIx52, ↓exAt53, ↓exIx53, ↓exAt54, ↓exIx54, ↓exAt60, ↓exIx60, ↓exAt61, ↓exIx61, ↓exAt62, ↓exIx62, ↓exAt63, ↓exIx63, ↓exAt64, ↓exIx64, ↓exAt65, ↓exIx65, up_up, false_or, or_false, ↓exAtM, ↓dFlag_bl, ↓exBl, ↓exInt, ↓exRef, ↓dVar0, ↓dAug0, ↓dSet0, ↓dTgN0, ↓dTgW0, ↓dVar1, ↓dAug1, ↓dSet1, ↓dTgN1, ↓dTgW1, ↓dVar2, ↓dAug2, ↓dSet2, ↓dTgN2, ↓dTgW2, ↓dVar3, ↓dAug3, ↓dSet3, ↓dTgN3, ↓dTgW3, ↓dVar4, ↓dAug4, ↓dSet4, ↓dTgN4, ↓dTgW4, ↓dVar5, ↓dAug5, ↓dSet5, ↓dTgN5, ↓dTgW5, ↓dVar6, ↓dAug6, ↓dSet6, ↓dTgN6, ↓dTgW6, ↓dVar7, ↓dAug7, ↓dSet7, ↓dTgN7, ↓dTgW7, ↓dVar8, ↓dAug8, ↓dSet8, ↓dTgN8, ↓dTgW8, ↓dVar9, ↓dAug9, ↓dSet9, ↓dTgN9, ↓dTgW9, ↓dVar10, ↓dAug10, ↓dSet10, ↓dTgN10, ↓dTgW10, ↓dVar11, ↓dAug11, ↓dSet11, ↓dTgN11, ↓dTgW11, ↓dVar12, ↓dAug12, ↓dSet12, ↓dTgN12, ↓dTgW12, ↓dVar13, ↓dAug13, ↓dSet13, ↓dTgN13, ↓dTgW13, ↓dVar14, ↓dAug14, ↓dSet14, ↓dTgN14, ↓dTgW14, ↓dVar15, ↓dAug15, ↓dSet15, ↓dTgN15, ↓dTgW15, ↓dVar16, ↓dAug16, ↓dSet16, ↓dTgN16, ↓dTgW16, ↓dVar17, ↓dAug17, ↓dSet17, ↓dTgN17, ↓dTgW17, ↓dVar18, ↓dAug18, ↓dSet18, ↓dTgN18, ↓dTgW18, ↓dVar19, ↓dAug19, ↓dSet19, ↓dTgN19, ↓dTgW19, ↓dTg_t2, ↓dTg_t3, ↓exGetM, ↓exSumU, nD, plD, rwD, ↓dAdd_tup, ↓dAdd_ref, dSIndex, dInS, dKeysI, dValsI, dItemsI, dMulS, dEqK, dNeK, dClrK, dCntS]
      refine ⟨wz2 _, ?_⟩
      rw [wb]
      exact sb0 (hP _ _ ⟨(Sub.new hqM1 (by intro _ z; cases z)).trans s1, q2, s1.free hqM1, by rw [up_same]; rfl, _, _, _, _, rfl⟩)
  · rintro δ' M1 ⟨s1, q1, hq1, hq1', a, b, c, d, rfl⟩
    rw [rg_len] at hq1'
    rw [h2]
    clear h2 t2
    simp (config := {failIfUnchanged := false}) only [dC, dOp, dTest, dChain, dAnd, dOr, dNot, dAndV, dOrV, dNotV, dIf, dNil, dCons, dTup, dLst, dCB, d1, dIx, dNoPart, dPart, dSl, dCut, dNeg, dLen, dTupOf, dListOf, dSorted, dSum, dAll, dAny, dInt, dAbs, dMax, dMin, dIsi, isT, dNext, dSeq, dBrk, dCont, dNever, dExpr, dRet, dRetN, dIfS, dAsg, dPutI, dI0, dI, dIsN, dNotN, dSeqI, dRng1, dRng2, dRngDn, dEnumI, dZipI, dYes, dCall, dLM, dAppend, dExtend, dReverse, dInsert, dAugI, dRg1, dRg2, dTupRg, dLstRg, dNewK, dNewT, ↓S0_, ↓S1_, ↓S2_, ↓S3_, ↓S4_, ↓S5_, ↓S6_, List.map_cons, List.map_nil, List.length_cons, List.length_nil, List.replicate, List.cons_append, List.nil_append, Nat.reduceAdd, Nat.reduceSub, Nat.zero_add, List.getElem?_cons_zero, List.getElem?_cons_succ, Option.some.injEq, exists_eq_left, exists_eq_left', List.set_cons_zero, List.set_cons_succ, wipeD, D.int.injEq, D.bl.injEq, D.str.injEq, D.ref.injEq, D.tup.injEq, D.ty.injEq, true_and, and_true, forall_const, forall_eq', forall_eq, mt_int, mt_bool, mt_str, mt_tuple, mt_list, mt_dict, st_int_int, st_int_bool, st_int_str, st_int_tuple, st_int_list, st_int_dict, st_bool_int, st_bool_bool, st_bool_str, st_bool_tuple, st_bool_list, st_bool_dict, st_str_int, st_str_bool, st_str_str, st_str_tuple, st_str_list, st_str_dict, st_tuple_int, st_tuple_bool, st_tuple_str, st_tuple_tuple, st_tuple_list, st_tuple_dict, st_list_int, st_list_bool, st_list_str, st_list_tuple, st_list_list, st_list_dict, st_dict_int, st_dict_bool, st_dict_str, st_dict_tuple, st_dict_list, st_dict_dict, eq_self, Bool.true_eq_false, Bool.false_eq_true, false_implies, true_implies, implies_true, decide_eq_true_eq, decide_eq_false_iff_not, Bool.not_true, Bool.not_false, Bool.not_eq_true, Bool.not_eq_false, Bool.not_eq_true', Bool.not_eq_false', not_true_eq_false, not_false_eq_true, false_and, and_false, or_false, false_or, reduceCtorEq, ↓exLSu, ↓exDKu, ↓exDKd, ↓exLSd, ↓exLu, ↓dIxRu, ↓dPutu, ↓dGetAu, ↓dEq_int, ↓dNe_int, ↓dEq_bl, ↓dNe_bl, ↓dEq_str, ↓dNe_str, ↓dAdd_int, ↓exAt10, ↓exIx10, ↓exAt20, ↓exIx20, ↓exAt21, ↓exIx21, ↓exAt30, ↓exIx30, ↓exAt31, ↓exIx31, ↓exAt32, ↓exIx32, ↓exAt40, ↓exIx40, ↓exAt41, ↓exIx41, ↓exAt42, ↓exIx42, ↓exAt43, ↓exIx43, ↓exAt50, ↓exIx50, ↓exAt51, ↓exIx51, ↓exAt52, ↓exIx52, ↓exAt53, ↓exIx53, ↓exAt54, ↓exIx54, ↓exAt60, ↓exIx60, ↓exAt61, ↓exIx61, ↓exAt62, ↓exIx62, ↓exAt63, ↓exIx63, ↓exAt64, ↓exIx64, ↓exAt65, ↓exIx65, up_up, false_or, or_false, ↓exAtM, ↓dFlag_bl, ↓exBl, ↓exInt, ↓exRef, ↓dVar0, ↓dAug0, ↓dSet0, ↓dTgN0, ↓dTgW0, ↓dVar1, ↓dAug1, ↓dSet1, ↓dTgN1, ↓dTgW1, ↓dVar2, ↓dAug2, ↓dSet2, ↓dTgN2, ↓dTgW2, ↓dVar3, ↓dAug3, ↓dSet3, ↓dTgN3, ↓dTgW3, ↓dVar4, ↓dAug4, ↓dSet4, ↓dTgN4, ↓dTgW4, ↓dVar5, ↓dAug5, ↓dSet5, ↓dTgN5, ↓dTgW5, ↓dVar6, ↓dAug6, ↓dSet6, ↓dTgN6, ↓dTgW6, ↓dVar7, ↓dAug7, ↓dSet7, ↓dTgN7, ↓dTgW7, ↓dVar8, ↓dAug8, ↓dSet8, ↓dTgN8, ↓dTgW8, ↓dVar9, ↓dAug9, ↓dSet9, ↓dTgN9, ↓dTgW9, ↓dVar10, ↓dAug10, ↓dSet10, ↓dTgN10, ↓dTgW10, ↓dVar11, ↓dAug11, ↓dSet11, ↓dTgN11, ↓dTgW11, ↓dVar12, ↓dAug12, ↓dSet12, ↓dTgN12, ↓dTgW12, ↓dVar13, ↓dAug13, ↓dSet13, ↓dTgN13, ↓dTgW13, ↓dVar14, ↓dAug14, ↓dSet14, ↓dTgN14, ↓dTgW14, ↓dVar15, ↓dAug15, ↓dSet15, ↓dTgN15, ↓dTgW15, ↓dVar16, ↓dAug16, ↓dSet16, ↓dTgN16, ↓dTgW16, ↓dVar17, ↓dAug17, ↓dSet17, ↓dTgN17, ↓dTgW17, ↓dVar18, ↓dAug18, ↓dSet18, ↓dTgN18, ↓dTgW18, ↓dVar19, ↓dAug19, ↓dSet19, ↓dTgN19, ↓dTgW19, ↓dTg_t2, ↓dTg_t3, ↓exGetM, ↓exSumU, nD, plD, rwD, ↓dAdd_tup, ↓dAdd_ref, dSIndex, dInS, dKeysI, dValsI, dItemsI, dMulS, dEqK, dNeK, dClrK, dCntS]
    exact dn0 (h q1 M1 hq1 s1 hq1')
end
/-! rows, round by round -/
def fit (g : Gr) : Nat → List Str → List Str
  | 0, r => r
  | t + 1, r => fit g t (r.flatMap (lf g))
theorem fit_succ (g : Gr) : ∀ (t : Nat) (r : List Str), fit g (t + 1) r = (fit g t r).flatMap (lf g)
  | 0, _ => rfl
  | t + 1, r => fit_succ g t (r.flatMap (lf g))
def ndR (g : Gr) (t : Nat) (r : List Str) : Nat := (r.map fun o => nd_ g t o).sum
theorem ndR_succ (g : Gr) (t : Nat) : ∀ r : List Str, ndR g (t + 1) r = r.length + ndR g t (r.flatMap (lf g))
  | [] => rfl
  | o :: r => by
    have := ndR_succ g t r
    unfold ndR at *
    rw [List.map_cons, List.sum_cons, this, List.flatMap_cons, List.map_append, List.sum_append, List.length_cons]
    show 1 + _ + _ = _
    omega
theorem ndR_step (g : Gr) : ∀ (t : Nat) (r : List Str), ndR g (t + 1) r = ndR g t r + (fit g t r).length
  | 0, r => by
    rw [ndR_succ]
    have z : ∀ r : List Str, ndR g 0 r = 0 := fun r => by
      unfold ndR
      induction r with
      | nil => rfl
      | cons o r ih => rw [List.map_cons, List.sum_cons, ih]; rfl
    rw [z, z]
    show r.length + 0 = 0 + r.length
    omega
  | t + 1, r => by
    rw [ndR_succ, ndR_step g t, ndR_succ, Nat.add_assoc]; rfl
theorem nd_step (g : Gr) (t : Nat) (k : Str) : nd_ g (t + 1) k = nd_ g t k + (fit g t [k]).length := by
  have := ndR_step g t [k]
  unfold ndR at this
  simpa using this
theorem fit_keys {g : Gr} (G : Grw g) {k : Str} (hk : k ∈ g.map (·.1)) : ∀ t, ∀ o ∈ fit g t [k], o ∈ g.map (·.1)
  | 0, o, h => by
    rw [show fit g 0 [k] = [k] from rfl, List.mem_singleton] at h
    rw [h]; exact hk
  | t + 1, o, h => by
    rw [fit_succ] at h
    obtain ⟨a, ha, ho⟩ := List.mem_flatMap.mp h
    obtain ⟨e, he, rfl⟩ := List.mem_map.mp (fit_keys G hk t a ha)
    rw [lf_of G he] at ho
    exact (G.left e he).2 o ho
theorem sum_keys (F : Str → Nat) (g : Gr) (nd : (g.map (·.1)).Nodup) : ∀ (r : List Str), (∀ o ∈ r, o ∈ g.map (·.1)) → (r.map F).sum = (g.map fun e => r.count e.1 * F e.1).sum
  | [], _ => by
    have : (g.map fun e => ([] : List Str).count e.1 * F e.1) = g.map fun _ => 0 := List.map_congr_left fun e _ => by rw [List.count_nil, Nat.zero_mul]
    rw [List.map_nil, List.sum_nil, this]
    have z : ∀ g : Gr, (g.map fun _ => 0).sum = 0 := fun g => by
      induction g with
      | nil => rfl
      | cons e g ih => rw [List.map_cons, List.sum_cons, ih]
    rw [z]
  | o :: r, h => by
    rw [List.map_cons, List.sum_cons, sum_keys F g nd r fun x hx => h x (by simp [hx])]
    have ho := h o (by simp)
    clear h
    induction g with
    | nil => cases ho
    | cons e g ih =>
      rw [List.map_cons, List.nodup_cons] at nd
      rw [List.map_cons, List.map_cons, List.sum_cons, List.sum_cons, List.count_cons]
      by_cases z : o = e.1
      · have none : (g.map fun e => (o :: r).count e.1 * F e.1) = g.map fun e => r.count e.1 * F e.1 := List.map_congr_left fun x hx => by
          have : ¬ o = x.1 := fun w => nd.1 (List.mem_map.mpr ⟨x, hx, by rw [← w, z]⟩)
          rw [List.count_cons_of_ne this]
        rw [none, if_pos (by simp [z]), Nat.add_mul, Nat.one_mul, z]
        omega
      · have ho2 : o ∈ g.map (·.1) := by
          rw [List.map_cons] at ho
          rcases List.mem_cons.mp ho with w | w
          · exact absurd w z
          · exact w
        have := ih nd.2 ho2
        rw [if_neg (by simpa using z), Nat.add_zero, ← this]
        omega
theorem count_flat (g : Gr) (x : Str) : ∀ r : List Str, (r.flatMap (lf g)).count x = (r.map fun o => (lf g o).count x).sum
  | [] => rfl
  | o :: r => by rw [List.flatMap_cons, List.count_append, count_flat g x r, List.map_cons, List.sum_cons]
theorem gp_count {g : Gr} (G : Grw g) {k : Str} (hk : k ∈ g.map (·.1)) : ∀ (t : Nat) (x : Str), (fit g t [k]).count x = gp g k t x
  | 0, x => by
    show [k].count x = if x = k then 1 else 0
    rw [List.count_singleton]
    by_cases z : x = k
    · subst z; simp
    · have : ¬ k = x := fun w => z w.symm
      simp [z, this]
  | t + 1, x => by
    rw [fit_succ, count_flat, sum_keys (fun o => (lf g o).count x) g G.nd _ (fit_keys G hk t)]
    show _ = (g.map fun e => e.2.count x * gp g k t e.1).sum
    congr 1
    refine List.map_congr_left fun e he => ?_
    rw [gp_count G hk t e.1, lf_of G he, Nat.mul_comm]
theorem fit_sum {g : Gr} (G : Grw g) {k : Str} (hk : k ∈ g.map (·.1)) (t : Nat) : (fit g t [k]).length = (g.map fun e => gp g k t e.1).sum := by
  have := sum_keys (fun _ => 1) g G.nd _ (fit_keys G hk t)
  have e1 : ((fit g t [k]).map fun _ => 1).sum = (fit g t [k]).length := by
    generalize fit g t [k] = r
    induction r with
    | nil => rfl
    | cons o r ih => rw [List.map_cons, List.sum_cons, ih, List.length_cons, Nat.add_comm]
  rw [e1] at this
  rw [this]
  congr 1
  refine List.map_congr_left fun e he => ?_
  rw [gp_count G hk t e.1, Nat.mul_one]
theorem nd_gp {g : Gr} (G : Grw g) {k : Str} (hk : k ∈ g.map (·.1)) (t : Nat) : nd_ g (t + 1) k = nd_ g t k + (g.map fun e => gp g k t e.1).sum := by
  rw [nd_step, fit_sum G hk]
theorem merge_gp {g : Gr} (h : Grw g) (f : Str → Nat) : mergeD [] (gpK g f) = gpK g f := by
  unfold mergeD
  have := fold_put (kf := fun kv : Key × D => kv.1) (v := fun kv : Key × D => kv.2) (gpK g f) [] (by
    rw [List.map_nil, List.nil_append]
    have := keys_nd h
    unfold gpK
    rw [List.map_map]; exact this)
  rw [this, List.nil_append]
  exact List.map_id'' (fun _ => rfl) _
theorem sam_gp {g : Gr} (G : Grw g) (f : Str → Nat) {M : Hd} {a b : Addr} (ha : M a = some (.dK (gpK g f))) (hb : M b = some (.dK (gpK g f))) : SamK M (.ref a) (.ref b) := by
  refine ⟨a, b, _, _, rfl, rfl, ha, hb, rfl, fun p hp => ?_⟩
  obtain ⟨e, he, rfl⟩ := List.mem_map.mp hp
  exact ⟨val_gp G f (List.mem_map.mpr ⟨e, he, rfl⟩), trivial⟩
theorem Up.of_sub {M M' : Hd} {x : D} (s : T3.Sub M' M) (h : Pool M x) : Up M' M x := ⟨fun a o e _ => s.1 _ _ e, by
  obtain ⟨q, r1, r2, rfl, d⟩ := h
  exact ⟨q, r1, r2, rfl, s.1 _ _ d.at_, s.1 _ _ d.o1, s.1 _ _ d.o2, d.ne⟩, fun a e => s.free e⟩
/-- [.. for each in a growth], locked meanwhile -/
theorem lock_lc {i j : Nat} {U : DE} {δ : DS} {M : Hd} {Q : DK} {p : Addr} {kvs : List (Key × D)} {g : Gr} (F : Str × List Str → D) (hi : δ[i]? = some (some (.ref p))) (hp : M p = some (.dK kvs)) (hk : kvs.map (fun kv => T3.kD kv.1) = g.map fun e => D.str e.1) (hl : g.length ≤ 1000)
    (step : ∀ e ∈ g, ∀ (Mz : Hd) od ws, Mz p = some (.dKz kvs od ws) → (∀ a, a ≠ p → Mz a = M a) → ∀ R : DK, R (F e) Mz → U ((wipeD δ [j]).set j (some (.str e.1))) Mz R)
    (fin : ∀ l, M l = none → Q (.ref l) (up M l (.lst (g.map F)))) : dLockE (dLc (dKeysI (dVar i)) (.nm j) dYes U [j]) δ M Q := by
  refine ⟨p, kvs, hp, fun od ws => ?_⟩
  have hz : up M p (.dKz kvs od ws) p = some (.dKz kvs od ws) := up_same
  have hne : ∀ a, a ≠ p → up M p (.dKz kvs od ws) a = M a := fun a h => up_ne h
  have hback : ∀ l o, l ≠ p → up (up (up M p (.dKz kvs od ws)) l o) p (.dK kvs) = up M l o := fun l o h => by rw [up_comm h, up_up, up_self hp]
  generalize up M p (.dKz kvs od ws) = Mz at *
  refine ⟨.ref p, hi, kvs, od, ws, hz, by rw [hk, List.length_map]; exact Nat.le_of_lt (small1000 hl), ?_⟩
  refine lcM (fun e : Str × List Str => D.str e.1) F g hk (fun l e t pre acc P2 ee hP2 => ⟨hz, fun _ => step e (by rw [ee]; simp) Mz od ws hz hne _ (sb0 hP2), nofun⟩) ⟨hz, fun l h => ?_⟩
  have n : l ≠ p := by rintro rfl; rw [hz] at h; cases h
  refine ⟨by rw [up_ne n.symm]; exact hz, ?_⟩
  rw [hback _ _ n]
  exact fin l (by rw [← hne l n]; exact h)
section
variable {P : Program} {w : World} {K : PySem.W.Frag} {mg : Str → Option Value} {base : Heap}
theorem pr_law (G : Gv K mg) : Pr P w K mg base "law" 5 ["_law_script"] SLaw := by
  refine (pr3 (k := 4) G.d_law bi_law sc_law S1n (fun f cdv A outer s H E hr => (b_cons (s_set 1 sc_law.nd (e_callP (pr__law_pool G) (hr.mono (by decide)) (by rfl) pass0 (a_cons (e_var 0) a_nil)))
      (b_cons (s_set 2 sc_law.nd (e_callP (pr__law_growth G) (hr.mono (by decide)) (by rfl) pass0 (a_cons (e_var 1) a_nil)))
      (b_cons (s_set 3 sc_law.nd (e_callP (pr__law_pick G) (hr.mono (by decide)) (by rfl) pass0 (a_cons (e_var 1) (a_cons (e_callTy (cd_list rfl) (by rfl) G.b_list rfl (a_cons (e_var 2) a_nil)) a_nil))))
      (b_cons (s_set 4 sc_law.nd (e_lst (a_cons (e_var 3) a_nil)))
      (b_cons (s_set 5 sc_law.nd (e_callTy (cd_dict rfl) (by rfl) G.b_dict rfl (a_cons (e_lock (e_lc (own := [("_law_each", 10)]) rfl sc_law.nd (i_keys (e_var 2)) (blkOk_by (by rfl)) (fun _ _ _ _ _ => (g_nm 10 sc_law.nd)) (fun _ _ _ _ _ => ts_nil) (fun _ _ _ _ _ => (e_tup (a_cons (e_var 10) (a_cons (e_callTy cd_int (by rfl) G.b_int rfl (a_cons (e_cmp (od_eq (hu3 hr)) (e_var 10) (e_var 3)) a_nil)) a_nil)))))) a_nil)))
      (b_cons (s_set 6 sc_law.nd e_int)
      (b_cons (s_set 7 sc_law.nd (e_callP (pr__law_pick G) (hr.mono (by decide)) (by rfl) pass0 (a_cons (e_var 1) (a_cons (e_lst (a_cons e_int (a_cons e_int (a_cons e_int (a_cons e_int a_nil))))) a_nil))))
      (b_cons (s_for PassesOwn.never rfl (i_rng1 (by rfl) G.b_range (a_cons (e_op od_add (e_var 7) e_int) a_nil)) (g_nm 8 sc_law.nd)
      (b_cut (s_if (PW3.pt (w_or (t_cmp od_lt (e_var 8) e_int) (w_or1 (t_cmp (od_eq (hu3 hr)) (e_var 8) (e_var 7))))) (b_cons (s_set 11 sc_law.nd (e_callP (pr_gaps G) (hr.mono (by decide)) (by rfl) pass0 (a_cons (e_var 2) (a_cons (e_var 3) (a_cons (e_var 8) a_nil)))))
      (b_cons (s_if (PW3.pt (w_or (t_not (t_val (e_callB cd_isi (by rfl) G.b_isinstance rfl (a_cons (e_var 11) (a_cons (e_ty (by rfl) G.b_dict rfl) a_nil))))) (w_or (t_cmp (od_neK (hu3 hr)) (e_var 11) (e_var 5)) (w_or1 (t_not (t_val (e_callB (cd_all rfl) (by rfl) G.b_all rfl (a_cons (e_lock (e_lc (own := [("_law_each", 10)]) rfl sc_law.nd (i_keys (e_var 11)) (blkOk_by (by rfl)) (fun _ _ _ _ _ => (g_nm 10 sc_law.nd)) (fun _ _ _ _ _ => ts_nil) (fun _ _ _ _ _ => (e_callP (pr__law_is_int G) (hr.mono (by decide)) (by rfl) pass0 (a_cons (e_ix (ixd (hu_of hr)) (e_var 11) (e_var 10)) a_nil))))) a_nil)))))))) (b_one (s_ret e_bl)) b_nil)
      (b_cut (s_if (PW3.pt (w_and (t_cmp od_lt (e_callB cd_len (by rfl) G.b_len rfl (a_cons (e_var 4) a_nil)) e_int) (w_and1 (t_cmp (od_neK (hu3 hr)) (e_var 11) (e_callTy (cd_dict rfl) (by rfl) G.b_dict rfl (a_cons (e_lock (e_lc (own := [("_law_each", 10)]) rfl sc_law.nd (i_keys (e_var 2)) (blkOk_by (by rfl)) (fun _ _ _ _ _ => (g_nm 10 sc_law.nd)) (fun _ _ _ _ _ => ts_nil) (fun _ _ _ _ _ => (e_tup (a_cons (e_var 10) (a_cons (e_lm PySem.F.slot_list_count PySem.F.type_list_count (m_countS (hu_of hr)) (e_var 4) (a_cons (e_var 10) a_nil)) a_nil)))))) a_nil)))))) (b_one (s_ret e_bl)) b_nil)
      (b_cons (s_if (t_cmp (od_ne (hu3 hr)) (e_callP (pr_needed G) (hr.mono (by decide)) (by rfl) pass0 (a_cons (e_var 2) (a_cons (e_var 3) (a_cons (e_var 8) a_nil)))) (e_var 6)) (b_one (s_ret e_bl)) b_nil)
      (b_cons (s_expr (e_clearK (e_var 11)))
      (b_one (s_if (t_cmp (od_neK (hu3 hr)) (e_callP (pr_gaps G) (hr.mono (by decide)) (by rfl) pass0 (a_cons (e_var 2) (a_cons (e_var 3) (a_cons (e_var 8) a_nil)))) (e_var 5)) (b_one (s_ret e_bl)) b_nil))))))) b_nil)
      (b_cons (s_set 6 sc_law.nd (e_op od_add (e_var 6) (e_callB (cd_sum rfl) (by rfl) G.b_sum rfl (a_cons (e_lock (e_lc (own := [("_law_each", 10)]) rfl sc_law.nd (i_keys (e_var 2)) (blkOk_by (by rfl)) (fun _ _ _ _ _ => (g_nm 10 sc_law.nd)) (fun _ _ _ _ _ => ts_nil) (fun _ _ _ _ _ => (e_ix (ixd (hu_of hr)) (e_var 5) (e_var 10))))) a_nil))))
      (b_cons (s_set 9 sc_law.nd (e_callTy (cd_dict rfl) (by rfl) G.b_dict rfl (a_cons (e_lock (e_lc (own := [("_law_each", 10)]) rfl sc_law.nd (i_keys (e_var 2)) (blkOk_by (by rfl)) (fun _ _ _ _ _ => (g_nm 10 sc_law.nd)) (fun _ _ _ _ _ => ts_nil) (fun _ _ _ _ _ => (e_tup (a_cons (e_var 10) (a_cons e_int a_nil)))))) a_nil)))
      (b_cons (s_lock (s_for PassesOwn.never rfl (i_keys (e_var 2)) (g_nm 10 sc_law.nd)
      (b_one (s_for PassesOwn.never rfl (i_seq (e_ix (ixd (hu_of hr)) (e_var 2) (e_var 10))) (g_nm 12 sc_law.nd)
      (b_one (s_put (put3 (hu_of hr)) (e_var 9) (e_var 12) (e_op od_add (e_ix (ixd (hu_of hr)) (e_var 9) (e_var 12)) (e_ix (ixd (hu_of hr)) (e_var 5) (e_var 10)))))))))
      (b_cons (s_set 5 sc_law.nd (e_var 9))
      (b_one (s_if (t_cmp od_lt (e_callB cd_len (by rfl) G.b_len rfl (a_cons (e_var 4) a_nil)) e_int) (b_one (s_set 4 sc_law.nd (e_callP (pr__law_grown G) (hr.mono (by decide)) (by rfl) pass0 (a_cons (e_var 2) (a_cons (e_var 4) a_nil))))) b_nil))))))))
      (b_one (s_ret e_bl)))))))))))) ?_
  rintro _ M Q E ⟨x, rfl, ns, hl, hs, h⟩ H rep
  refine ⟨M, rep, fun _ h => h, ?_⟩
  simp only [startD, List.map_cons, List.map_nil, List.length_cons, List.length_nil, Nat.reduceAdd, Nat.reduceSub, Nat.zero_add, List.replicate, List.cons_append, List.nil_append]; simp (config := {failIfUnchanged := false}) only [dC, dOp, dTest, dChain, dAnd, dOr, dNot, dAndV, dOrV, dNotV, dIf, dNil, dCons, dTup, dLst, dCB, d1, dIx, dNoPart, dPart, dSl, dCut, dNeg, dLen, dTupOf, dListOf, dSorted, dSum, dAll, dAny, dInt, dAbs, dMax, dMin, dIsi, isT, dNext, dSeq, dBrk, dCont, dNever, dExpr, dRet, dRetN, dIfS, dAsg, dPutI, dI0, dI, dIsN, dNotN, dSeqI, dRng1, dRng2, dRngDn, dEnumI, dZipI, dYes, dCall, dLM, dAppend, dExtend, dReverse, dInsert, dAugI, dRg1, dRg2, dTupRg, dLstRg, dNewK, dNewT, ↓S0_, ↓S1_, ↓S2_, ↓S3_, ↓S4_, ↓S5_, ↓S6_, List.map_cons, List.map_nil, List.length_cons, List.length_nil, List.replicate, List.cons_append, List.nil_append, Nat.reduceAdd, Nat.reduceSub, Nat.zero_add, List.getElem?_cons_zero, List.getElem?_cons_succ, Option.some.injEq, exists_eq_left, exists_eq_left', List.set_cons_zero, List.set_cons_succ, wipeD, D.int.injEq, D.bl.injEq, D.str.injEq, D.ref.injEq, D.tup.injEq, D.ty.injEq, true_and, and_true, forall_const, forall_eq', forall_eq, mt_int, mt_bool, mt_str, mt_tuple, mt_list, mt_dict, st_int_int, st_int_bool, st_int_str, st_int_tuple, st_int_list, st_int_dict, st_bool_int, st_bool_bool, st_bool_str, st_bool_tuple, st_bool_list, st_bool_dict, st_str_int, st_str_bool, st_str_str, st_str_tuple, st_str_list, st_str_dict, st_tuple_int, st_tuple_bool, st_tuple_str, st_tuple_tuple, st_tuple_list, st_tuple_dict, st_list_int, st_list_bool, st_list_str, st_list_tuple, st_list_list, st_list_dict, st_dict_int, st_dict_bool, st_dict_str, st_dict_tuple, st_dict_list, st_dict_dict, eq_self, Bool.true_eq_false, Bool.false_eq_true, false_implies, true_implies, implies_true, decide_eq_true_eq, decide_eq_false_iff_not, Bool.not_true, Bool.not_false, Bool.not_eq_true, Bool.not_eq_false, Bool.not_eq_true', Bool.not_eq_false', not_true_eq_false, not_false_eq_true, false_and, and_false, or_false, false_or, reduceCtorEq, ↓exLSu, ↓exDKu, ↓exDKd, ↓exLSd, ↓exLu, ↓dIxRu, ↓dPutu, ↓dGetAu, ↓dEq_int, ↓dNe_int, ↓dEq_bl, ↓dNe_bl, ↓dEq_str, ↓dNe_str, ↓dAdd_int, ↓exAt10, ↓exIx10, ↓exAt20, ↓exIx20, ↓exAt21, ↓exIx21, ↓exAt30, ↓exIx30, ↓exAt31, ↓exIx31, ↓exAt32, ↓exIx32, ↓exAt40, ↓exIx40, ↓exAt41, ↓exIx41, ↓exAt42, ↓exIx42, ↓exAt43, ↓exIx43, ↓exAt50, ↓exIx50, ↓exAt51, ↓exIx51, ↓exAt52, ↓exIx52, ↓exAt53, ↓exIx53, ↓exAt54, ↓exIx54, ↓exAt60, ↓exIx60, ↓exAt61, ↓exIx61, ↓exAt62, ↓exIx62, ↓exAt63, ↓exIx63, ↓exAt64, ↓exIx64, ↓exAt65, ↓exIx65, up_up, false_or, or_false, ↓exAtM, ↓dFlag_bl, ↓exBl, ↓exInt, ↓exRef, ↓dVar0, ↓dAug0, ↓dSet0, ↓dTgN0, ↓dTgW0, ↓dVar1, ↓dAug1, ↓dSet1, ↓dTgN1, ↓dTgW1, ↓dVar2, ↓dAug2, ↓dSet2, ↓dTgN2, ↓dTgW2, ↓dVar3, ↓dAug3, ↓dSet3, ↓dTgN3, ↓dTgW3, ↓dVar4, ↓dAug4, ↓dSet4, ↓dTgN4, ↓dTgW4, ↓dVar5, ↓dAug5, ↓dSet5, ↓dTgN5, ↓dTgW5, ↓dVar6, ↓dAug6, ↓dSet6, ↓dTgN6, ↓dTgW6, ↓dVar7, ↓dAug7, ↓dSet7, ↓dTgN7, ↓dTgW7, ↓dVar8, ↓dAug8, ↓dSet8, ↓dTgN8, ↓dTgW8, ↓dVar9, ↓dAug9, ↓dSet9, ↓dTgN9, ↓dTgW9, ↓dVar10, ↓dAug10, ↓dSet10, ↓dTgN10, ↓dTgW10, ↓dVar11, ↓dAug11, ↓dSet11, ↓dTgN11, ↓dTgW11, ↓dVar12, ↓dAug12, ↓dSet12, ↓dTgN12, ↓dTgW12, ↓dVar13, ↓dAug13, ↓dSet13, ↓dTgN13, ↓dTgW13, ↓dVar14, ↓dAug14, ↓dSet14, ↓dTgN14, ↓dTgW14, ↓dVar15, ↓dAug15, ↓dSet15, ↓dTgN15, ↓dTgW15, ↓dVar16, ↓dAug16, ↓dSet16, ↓dTgN16, ↓dTgW16, ↓dVar17, ↓dAug17, ↓dSet17, ↓dTgN17, ↓dTgW17, ↓dVar18, ↓dAug18, ↓dSet18, ↓dTgN18, ↓dTgW18, ↓dVar19, ↓dAug19, ↓dSet19, ↓dTgN19, ↓dTgW19, ↓dTg_t2, ↓dTg_t3, ↓exGetM, ↓exSumU, nD, plD, rwD, ↓dAdd_tup, ↓dAdd_ref, dSIndex, dInS, dKeysI, dValsI, dItemsI, dMulS, dEqK, dNeK, dClrK, dCntS]
  refine ⟨ns, hl, hs, fun y M0 hp => ⟨hp, fun q M1 g u1 hq hg => .inr ⟨_, .inl hq, fun l hl' => ?_⟩⟩⟩
  have hne : (g.map (·.1)).map D.str ≠ [] := fun z => by
    have := congrArg List.length z
    rw [List.length_map, List.length_map, List.length_nil] at this
    have := hg.pos
    omega
  have hlen : ((g.map (·.1)).map D.str).length ≤ 1000 := by
    rw [List.length_map, List.length_map]
    exact Nat.le_trans hg.few (by decide)
  have hkl : (gD g).map (fun kv => T3.kD kv.1) = g.map fun e => D.str e.1 := by rw [gD_keys, List.map_map]; rfl
  have hlen2 : ((gD g).map fun kv => T3.kD kv.1).length ≤ sizeLine := by rw [List.length_map, gD_len]; exact Nat.le_trans hg.few (by decide)
  rw [gD_keys]
  have v1 := Up.new (o := .lst ((g.map (·.1)).map D.str)) u1.pool hl' (by intro _ z; cases z)
  refine ⟨l, _, rfl, up_same, hne, hlen, v1.pool, fun d M2 hd u2 f hf => ?_⟩
  obtain ⟨k, hk, rfl⟩ := List.mem_map.mp hd
  have u3 := (u2.trans v1)
  have hq2 := u3.keep _ _ hq nofun
  have nfq : q ≠ f := by rintro rfl; rw [hq2] at hf; cases hf
  have u4 := Up.new (o := .lst [D.str k]) u3.pool hf (by intro _ z; cases z)
  have hq3 := u4.keep _ _ hq2 nofun
  have hf3 : up M2 f (.lst [D.str k]) f = some (.lst ([k].map D.str)) := up_same
  have w3 := (u4.trans u3).trans u1
  generalize up M2 f (.lst [D.str k]) = M3 at *
  have g12 : g.length ≤ 1000 := Nat.le_trans hg.few (by decide)
  have pairs : ∀ f : Str → Nat, (g.map fun e => D.tup [D.str e.1, nD (f e.1)]) = (gpK g f).map fun kv => .tup [T3.kD kv.1, kv.2] := fun f => by unfold gpK; rw [List.map_map]; rfl
  simp (config := {failIfUnchanged := false}) only [dC, dOp, dTest, dChain, dAnd, dOr, dNot, dAndV, dOrV, dNotV, dIf, dNil, dCons, dTup, dLst, dCB, d1, dIx, dNoPart, dPart, dSl, dCut, dNeg, dLen, dTupOf, dListOf, dSorted, dSum, dAll, dAny, dInt, dAbs, dMax, dMin, dIsi, isT, dNext, dSeq, dBrk, dCont, dNever, dExpr, dRet, dRetN, dIfS, dAsg, dPutI, dI0, dI, dIsN, dNotN, dSeqI, dRng1, dRng2, dRngDn, dEnumI, dZipI, dYes, dCall, dLM, dAppend, dExtend, dReverse, dInsert, dAugI, dRg1, dRg2, dTupRg, dLstRg, dNewK, dNewT, ↓S0_, ↓S1_, ↓S2_, ↓S3_, ↓S4_, ↓S5_, ↓S6_, List.map_cons, List.map_nil, List.length_cons, List.length_nil, List.replicate, List.cons_append, List.nil_append, Nat.reduceAdd, Nat.reduceSub, Nat.zero_add, List.getElem?_cons_zero, List.getElem?_cons_succ, Option.some.injEq, exists_eq_left, exists_eq_left', List.set_cons_zero, List.set_cons_succ, wipeD, D.int.injEq, D.bl.injEq, D.str.injEq, D.ref.injEq, D.tup.injEq, D.ty.injEq, true_and, and_true, forall_const, forall_eq', forall_eq, mt_int, mt_bool, mt_str, mt_tuple, mt_list, mt_dict, st_int_int, st_int_bool, st_int_str, st_int_tuple, st_int_list, st_int_dict, st_bool_int, st_bool_bool, st_bool_str, st_bool_tuple, st_bool_list, st_bool_dict, st_str_int, st_str_bool, st_str_str, st_str_tuple, st_str_list, st_str_dict, st_tuple_int, st_tuple_bool, st_tuple_str, st_tuple_tuple, st_tuple_list, st_tuple_dict, st_list_int, st_list_bool, st_list_str, st_list_tuple, st_list_list, st_list_dict, st_dict_int, st_dict_bool, st_dict_str, st_dict_tuple, st_dict_list, st_dict_dict, eq_self, Bool.true_eq_false, Bool.false_eq_true, false_implies, true_implies, implies_true, decide_eq_true_eq, decide_eq_false_iff_not, Bool.not_true, Bool.not_false, Bool.not_eq_true, Bool.not_eq_false, Bool.not_eq_true', Bool.not_eq_false', not_true_eq_false, not_false_eq_true, false_and, and_false, or_false, false_or, reduceCtorEq, ↓exLSu, ↓exDKu, ↓exDKd, ↓exLSd, ↓exLu, ↓dIxRu, ↓dPutu, ↓dGetAu, ↓dEq_int, ↓dNe_int, ↓dEq_bl, ↓dNe_bl, ↓dEq_str, ↓dNe_str, ↓dAdd_int, ↓exAt10, ↓exIx10, ↓exAt20, ↓exIx20, ↓exAt21, ↓exIx21, ↓exAt30, ↓exIx30, ↓exAt31, ↓exIx31, ↓exAt32, ↓exIx32, ↓exAt40, ↓exIx40, ↓exAt41, ↓exIx41, ↓exAt42, ↓exIx42, ↓exAt43, ↓exIx43, ↓exAt50, ↓exIx50, ↓exAt51, ↓exIx51, ↓exAt52, ↓exIx52, ↓exAt53, ↓exIx53, ↓exAt54, ↓exIx54, ↓exAt60, ↓exIx60, ↓exAt61, ↓exIx61, ↓exAt62, ↓exIx62, ↓exAt63, ↓exIx63, ↓exAt64, ↓exIx64, ↓exAt65, ↓exIx65, up_up, false_or, or_false, ↓exAtM, ↓dFlag_bl, ↓exBl, ↓exInt, ↓exRef, ↓dVar0, ↓dAug0, ↓dSet0, ↓dTgN0, ↓dTgW0, ↓dVar1, ↓dAug1, ↓dSet1, ↓dTgN1, ↓dTgW1, ↓dVar2, ↓dAug2, ↓dSet2, ↓dTgN2, ↓dTgW2, ↓dVar3, ↓dAug3, ↓dSet3, ↓dTgN3, ↓dTgW3, ↓dVar4, ↓dAug4, ↓dSet4, ↓dTgN4, ↓dTgW4, ↓dVar5, ↓dAug5, ↓dSet5, ↓dTgN5, ↓dTgW5, ↓dVar6, ↓dAug6, ↓dSet6, ↓dTgN6, ↓dTgW6, ↓dVar7, ↓dAug7, ↓dSet7, ↓dTgN7, ↓dTgW7, ↓dVar8, ↓dAug8, ↓dSet8, ↓dTgN8, ↓dTgW8, ↓dVar9, ↓dAug9, ↓dSet9, ↓dTgN9, ↓dTgW9, ↓dVar10, ↓dAug10, ↓dSet10, ↓dTgN10, ↓dTgW10, ↓dVar11, ↓dAug11, ↓dSet11, ↓dTgN11, ↓dTgW11, ↓dVar12, ↓dAug12, ↓dSet12, ↓dTgN12, ↓dTgW12, ↓dVar13, ↓dAug13, ↓dSet13, ↓dTgN13, ↓dTgW13, ↓dVar14, ↓dAug14, ↓dSet14, ↓dTgN14, ↓dTgW14, ↓dVar15, ↓dAug15, ↓dSet15, ↓dTgN15, ↓dTgW15, ↓dVar16, ↓dAug16, ↓dSet16, ↓dTgN16, ↓dTgW16, ↓dVar17, ↓dAug17, ↓dSet17, ↓dTgN17, ↓dTgW17, ↓dVar18, ↓dAug18, ↓dSet18, ↓dTgN18, ↓dTgW18, ↓dVar19, ↓dAug19, ↓dSet19, ↓dTgN19, ↓dTgW19, ↓dTg_t2, ↓dTg_t3, ↓exGetM, ↓exSumU, nD, plD, rwD, ↓dAdd_tup, ↓dAdd_ref, dSIndex, dInS, dKeysI, dValsI, dItemsI, dMulS, dEqK, dNeK, dClrK, dCntS]
  refine lock_lc (fun e => D.tup [D.str e.1, nD (gp g k 0 e.1)]) rfl hq3 hkl g12 (fun e he Mz od ws hz hn R hR => ?_) fun l hl' => ?_
  · simp (config := {failIfUnchanged := false}) only [dC, dOp, dTest, dChain, dAnd, dOr, dNot, dAndV, dOrV, dNotV, dIf, dNil, dCons, dTup, dLst, dCB, d1, dIx, dNoPart, dPart, dSl, dCut, dNeg, dLen, dTupOf, dListOf, dSorted, dSum, dAll, dAny, dInt, dAbs, dMax, dMin, dIsi, isT, dNext, dSeq, dBrk, dCont, dNever, dExpr, dRet, dRetN, dIfS, dAsg, dPutI, dI0, dI, dIsN, dNotN, dSeqI, dRng1, dRng2, dRngDn, dEnumI, dZipI, dYes, dCall, dLM, dAppend, dExtend, dReverse, dInsert, dAugI, dRg1, dRg2, dTupRg, dLstRg, dNewK, dNewT, ↓S0_, ↓S1_, ↓S2_, ↓S3_, ↓S4_, ↓S5_, ↓S6_, List.map_cons, List.map_nil, List.length_cons, List.length_nil, List.replicate, List.cons_append, List.nil_append, Nat.reduceAdd, Nat.reduceSub, Nat.zero_add, List.getElem?_cons_zero, List.getElem?_cons_succ, Option.some.injEq, exists_eq_left, exists_eq_left', List.set_cons_zero, List.set_cons_succ, wipeD, D.int.injEq, D.bl.injEq, D.str.injEq, D.ref.injEq, D.tup.injEq, D.ty.injEq, true_and, and_true, forall_const, forall_eq', forall_eq, mt_int, mt_bool, mt_str, mt_tuple, mt_list, mt_dict, st_int_int, st_int_bool, st_int_str, st_int_tuple, st_int_list, st_int_dict, st_bool_int, st_bool_bool, st_bool_str, st_bool_tuple, st_bool_list, st_bool_dict, st_str_int, st_str_bool, st_str_str, st_str_tuple, st_str_list, st_str_dict, st_tuple_int, st_tuple_bool, st_tuple_str, st_tuple_tuple, st_tuple_list, st_tuple_dict, st_list_int, st_list_bool, st_list_str, st_list_tuple, st_list_list, st_list_dict, st_dict_int, st_dict_bool, st_dict_str, st_dict_tuple, st_dict_list, st_dict_dict, eq_self, Bool.true_eq_false, Bool.false_eq_true, false_implies, true_implies, implies_true, decide_eq_true_eq, decide_eq_false_iff_not, Bool.not_true, Bool.not_false, Bool.not_eq_true, Bool.not_eq_false, Bool.not_eq_true', Bool.not_eq_false', not_true_eq_false, not_false_eq_true, false_and, and_false, or_false, false_or, reduceCtorEq, ↓exLSu, ↓exDKu, ↓exDKd, ↓exLSd, ↓exLu, ↓dIxRu, ↓dPutu, ↓dGetAu, ↓dEq_int, ↓dNe_int, ↓dEq_bl, ↓dNe_bl, ↓dEq_str, ↓dNe_str, ↓dAdd_int, ↓exAt10, ↓exIx10, ↓exAt20, ↓exIx20, ↓exAt21, ↓exIx21, ↓exAt30, ↓exIx30, ↓exAt31, ↓exIx31, ↓exAt32, ↓exIx32, ↓exAt40, ↓exIx40, ↓exAt41, ↓exIx41, ↓exAt42, ↓exIx42, ↓exAt43, ↓exIx43, ↓exAt50, ↓exIx50, ↓exAt51, ↓exIx51, ↓exAt52, ↓exIx52, ↓exAt53, ↓exIx53, ↓exAt54, ↓exIx54, ↓exAt60, ↓exIx60, ↓exAt61, ↓exIx61, ↓exAt62, ↓exIx62, ↓exAt63, ↓exIx63, ↓exAt64, ↓exIx64, ↓exAt65, ↓exIx65, up_up, false_or, or_false, ↓exAtM, ↓dFlag_bl, ↓exBl, ↓exInt, ↓exRef, ↓dVar0, ↓dAug0, ↓dSet0, ↓dTgN0, ↓dTgW0, ↓dVar1, ↓dAug1, ↓dSet1, ↓dTgN1, ↓dTgW1, ↓dVar2, ↓dAug2, ↓dSet2, ↓dTgN2, ↓dTgW2, ↓dVar3, ↓dAug3, ↓dSet3, ↓dTgN3, ↓dTgW3, ↓dVar4, ↓dAug4, ↓dSet4, ↓dTgN4, ↓dTgW4, ↓dVar5, ↓dAug5, ↓dSet5, ↓dTgN5, ↓dTgW5, ↓dVar6, ↓dAug6, ↓dSet6, ↓dTgN6, ↓dTgW6, ↓dVar7, ↓dAug7, ↓dSet7, ↓dTgN7, ↓dTgW7, ↓dVar8, ↓dAug8, ↓dSet8, ↓dTgN8, ↓dTgW8, ↓dVar9, ↓dAug9, ↓dSet9, ↓dTgN9, ↓dTgW9, ↓dVar10, ↓dAug10, ↓dSet10, ↓dTgN10, ↓dTgW10, ↓dVar11, ↓dAug11, ↓dSet11, ↓dTgN11, ↓dTgW11, ↓dVar12, ↓dAug12, ↓dSet12, ↓dTgN12, ↓dTgW12, ↓dVar13, ↓dAug13, ↓dSet13, ↓dTgN13, ↓dTgW13, ↓dVar14, ↓dAug14, ↓dSet14, ↓dTgN14, ↓dTgW14, ↓dVar15, ↓dAug15, ↓dSet15, ↓dTgN15, ↓dTgW15, ↓dVar16, ↓dAug16, ↓dSet16, ↓dTgN16, ↓dTgW16, ↓dVar17, ↓dAug17, ↓dSet17, ↓dTgN17, ↓dTgW17, ↓dVar18, ↓dAug18, ↓dSet18, ↓dTgN18, ↓dTgW18, ↓dVar19, ↓dAug19, ↓dSet19, ↓dTgN19, ↓dTgW19, ↓dTg_t2, ↓dTg_t3, ↓exGetM, ↓exSumU, nD, plD, rwD, ↓dAdd_tup, ↓dAdd_ref, dSIndex, dInS, dKeysI, dValsI, dItemsI, dMulS, dEqK, dNeK, dClrK, dCntS]
    have ev : D.int (if e.1 = k then 1 else 0) = nD (gp g k 0 e.1) := by
      show _ = D.int ((if e.1 = k then 1 else 0 : Nat) : Int)
      split <;> rfl
    rw [ev]
    exact hR
  have x1 := Up.new (o := .lst (g.map fun e => D.tup [D.str e.1, nD (gp g k 0 e.1)])) w3.pool hl' (by intro _ z; cases z)
  refine ⟨l, rfl, .inl ⟨gpK g (gp g k 0), LS_up.mpr (pairs _).symm, fun c hc => ?_⟩⟩
  rw [merge_gp hg]
  have ncq : c ≠ q := by rintro rfl; rw [x1.keep _ _ hq3 nofun] at hc; cases hc
  have x2 := (Up.new (o := .dK (gpK g (gp g k 0))) x1.pool hc (by intro _ z; cases z)).trans x1
  have hq4 := x2.keep _ _ hq3 nofun
  have hf4 := x2.keep _ _ hf3 nofun
  have hc4 : up (up M3 l (.lst (g.map fun e => D.tup [D.str e.1, nD (gp g k 0 e.1)]))) c (.dK (gpK g (gp g k 0))) c = some (.dK (gpK g (gp g k 0))) := up_same
  generalize up (up M3 l (.lst (g.map fun e => D.tup [D.str e.1, nD (gp g k 0 e.1)]))) c (.dK (gpK g (gp g k 0))) = M4 at *
  clear hc hl'
  intro p hp
  have x3 := Up.new (o := .lst [D.int 3, D.int 9, D.int 40, D.int 200]) x2.pool hp (by intro _ z; cases z)
  refine ⟨p, _, rfl, up_same, by simp, by simp, x3.pool, fun d M5 hd x4 => ?_⟩
  obtain ⟨L, hL, rfl⟩ : ∃ n : Nat, n ≤ 200 ∧ d = D.int (n : Int) := by
    simp only [List.mem_cons, List.not_mem_nil, or_false] at hd
    rcases hd with rfl | rfl | rfl | rfl
    · exact ⟨3, by omega, rfl⟩
    · exact ⟨9, by omega, rfl⟩
    · exact ⟨40, by omega, rfl⟩
    · exact ⟨200, by omega, rfl⟩
  have x5 := x4.trans x3
  have hq5 := x5.keep _ _ hq4 nofun
  have hf5 := x5.keep _ _ hf4 nofun
  have hc5 := x5.keep _ _ hc4 nofun
  have x6 := (x5.trans x2).trans w3
  clear hp
  refine dFor_g fun F1 T1 h1 t1 => ?_; simp only [dFor, dC, dOp, dTest, dChain, dAnd, dOr, dNot, dAndV, dOrV, dNotV, dIf, dNil, dCons, dTup, dLst, dCB, d1, dIx, dNoPart, dPart, dSl, dCut, dNeg, dLen, dTupOf, dListOf, dSorted, dSum, dAll, dAny, dInt, dAbs, dMax, dMin, dIsi, isT, dNext, dSeq, dBrk, dCont, dNever, dExpr, dRet, dRetN, dIfS, dAsg, dPutI, dI0, dI, dIsN, dNotN, dSeqI, dRng1, dRng2, dRngDn, dEnumI, dZipI, dYes, dCall, dLM, dAppend, dExtend, dReverse, dInsert, dAugI, dRg1, dRg2, dTupRg, dLstRg, dNewK, dNewT, ↓S0_, ↓S1_, ↓S2_, ↓S3_, ↓S4_, ↓S5_, ↓S6_, List.map_cons, List.map_nil, List.length_cons, List.length_nil, List.replicate, List.cons_append, List.nil_append, Nat.reduceAdd, Nat.reduceSub, Nat.zero_add, List.getElem?_cons_zero, List.getElem?_cons_succ, Option.some.injEq, exists_eq_left, exists_eq_left', List.set_cons_zero, List.set_cons_succ, wipeD, D.int.injEq, D.bl.injEq, D.str.injEq, D.ref.injEq, D.tup.injEq, D.ty.injEq, true_and, and_true, forall_const, forall_eq', forall_eq, mt_int, mt_bool, mt_str, mt_tuple, mt_list, mt_dict, st_int_int, st_int_bool, st_int_str, st_int_tuple, st_int_list, st_int_dict, st_bool_int, st_bool_bool, st_bool_str, st_bool_tuple, st_bool_list, st_bool_dict, st_str_int, st_str_bool, st_str_str, st_str_tuple, st_str_list, st_str_dict, st_tuple_int, st_tuple_bool, st_tuple_str, st_tuple_tuple, st_tuple_list, st_tuple_dict, st_list_int, st_list_bool, st_list_str, st_list_tuple, st_list_list, st_list_dict, st_dict_int, st_dict_bool, st_dict_str, st_dict_tuple, st_dict_list, st_dict_dict, eq_self, Bool.true_eq_false, Bool.false_eq_true, false_implies, true_implies, implies_true, decide_eq_true_eq, decide_eq_false_iff_not, Bool.not_true, Bool.not_false, Bool.not_eq_true, Bool.not_eq_false, Bool.not_eq_true', Bool.not_eq_false', not_true_eq_false, not_false_eq_true, false_and, and_false, or_false, false_or, reduceCtorEq, ↓exLSu, ↓exDKu, ↓exDKd, ↓exLSd, ↓exLu, ↓dIxRu, ↓dPutu, ↓dGetAu, ↓dEq_int, ↓dNe_int, ↓dEq_bl, ↓dNe_bl, ↓dEq_str, ↓dNe_str, ↓dAdd_int, ↓exAt10, ↓exIx10, ↓exAt20, ↓exIx20, ↓exAt21, ↓exIx21, ↓exAt30, ↓exIx30, ↓exAt31, ↓exIx31, ↓exAt32, ↓exIx32, ↓exAt40, ↓exIx40, ↓exAt41, ↓exIx41, ↓exAt42, ↓exIx42, ↓exAt43, ↓exIx43, ↓exAt50, ↓exIx50, ↓exAt51, ↓exIx51, ↓exAt52, ↓exIx52, ↓exAt53, ↓exIx53, ↓exAt54, ↓exIx54, ↓exAt60, ↓exIx60, ↓exAt61, ↓exIx61, ↓exAt62, ↓exIx62, ↓exAt63, ↓exIx63, ↓exAt64, ↓exIx64, ↓exAt65, ↓exIx65, up_up, false_or, or_false, ↓exAtM, ↓dFlag_bl, ↓exBl, ↓exInt, ↓exRef, ↓dVar0, ↓dAug0, ↓dSet0, ↓dTgN0, ↓dTgW0, ↓dVar1, ↓dAug1, ↓dSet1, ↓dTgN1, ↓dTgW1, ↓dVar2, ↓dAug2, ↓dSet2, ↓dTgN2, ↓dTgW2, ↓dVar3, ↓dAug3, ↓dSet3, ↓dTgN3, ↓dTgW3, ↓dVar4, ↓dAug4, ↓dSet4, ↓dTgN4, ↓dTgW4, ↓dVar5, ↓dAug5, ↓dSet5, ↓dTgN5, ↓dTgW5, ↓dVar6, ↓dAug6, ↓dSet6, ↓dTgN6, ↓dTgW6, ↓dVar7, ↓dAug7, ↓dSet7, ↓dTgN7, ↓dTgW7, ↓dVar8, ↓dAug8, ↓dSet8, ↓dTgN8, ↓dTgW8, ↓dVar9, ↓dAug9, ↓dSet9, ↓dTgN9, ↓dTgW9, ↓dVar10, ↓dAug10, ↓dSet10, ↓dTgN10, ↓dTgW10, ↓dVar11, ↓dAug11, ↓dSet11, ↓dTgN11, ↓dTgW11, ↓dVar12, ↓dAug12, ↓dSet12, ↓dTgN12, ↓dTgW12, ↓dVar13, ↓dAug13, ↓dSet13, ↓dTgN13, ↓dTgW13, ↓dVar14, ↓dAug14, ↓dSet14, ↓dTgN14, ↓dTgW14, ↓dVar15, ↓dAug15, ↓dSet15, ↓dTgN15, ↓dTgW15, ↓dVar16, ↓dAug16, ↓dSet16, ↓dTgN16, ↓dTgW16, ↓dVar17, ↓dAug17, ↓dSet17, ↓dTgN17, ↓dTgW17, ↓dVar18, ↓dAug18, ↓dSet18, ↓dTgN18, ↓dTgW18, ↓dVar19, ↓dAug19, ↓dSet19, ↓dTgN19, ↓dTgW19, ↓dTg_t2, ↓dTg_t3, ↓exGetM, ↓exSumU, nD, plD, rwD, ↓dAdd_tup, ↓dAdd_ref, dSIndex, dInS, dKeysI, dValsI, dItemsI, dMulS, dEqK, dNeK, dClrK, dCntS]
  simp (config := {failIfUnchanged := false}) only [dC, dOp, dTest, dChain, dAnd, dOr, dNot, dAndV, dOrV, dNotV, dIf, dNil, dCons, dTup, dLst, dCB, d1, dIx, dNoPart, dPart, dSl, dCut, dNeg, dLen, dTupOf, dListOf, dSorted, dSum, dAll, dAny, dInt, dAbs, dMax, dMin, dIsi, isT, dNext, dSeq, dBrk, dCont, dNever, dExpr, dRet, dRetN, dIfS, dAsg, dPutI, dI0, dI, dIsN, dNotN, dSeqI, dRng1, dRng2, dRngDn, dEnumI, dZipI, dYes, dCall, dLM, dAppend, dExtend, dReverse, dInsert, dAugI, dRg1, dRg2, dTupRg, dLstRg, dNewK, dNewT, ↓S0_, ↓S1_, ↓S2_, ↓S3_, ↓S4_, ↓S5_, ↓S6_, List.map_cons, List.map_nil, List.length_cons, List.length_nil, List.replicate, List.cons_append, List.nil_append, Nat.reduceAdd, Nat.reduceSub, Nat.zero_add, List.getElem?_cons_zero, List.getElem?_cons_succ, Option.some.injEq, exists_eq_left, exists_eq_left', List.set_cons_zero, List.set_cons_succ, wipeD, D.int.injEq, D.bl.injEq, D.str.injEq, D.ref.injEq, D.tup.injEq, D.ty.injEq, true_and, and_true, forall_const, forall_eq', forall_eq, mt_int, mt_bool, mt_str, mt_tuple, mt_list, mt_dict, st_int_int, st_int_bool, st_int_str, st_int_tuple, st_int_list, st_int_dict, st_bool_int, st_bool_bool, st_bool_str, st_bool_tuple, st_bool_list, st_bool_dict, st_str_int, st_str_bool, st_str_str, st_str_tuple, st_str_list, st_str_dict, st_tuple_int, st_tuple_bool, st_tuple_str, st_tuple_tuple, st_tuple_list, st_tuple_dict, st_list_int, st_list_bool, st_list_str, st_list_tuple, st_list_list, st_list_dict, st_dict_int, st_dict_bool, st_dict_str, st_dict_tuple, st_dict_list, st_dict_dict, eq_self, Bool.true_eq_false, Bool.false_eq_true, false_implies, true_implies, implies_true, decide_eq_true_eq, decide_eq_false_iff_not, Bool.not_true, Bool.not_false, Bool.not_eq_true, Bool.not_eq_false, Bool.not_eq_true', Bool.not_eq_false', not_true_eq_false, not_false_eq_true, false_and, and_false, or_false, false_or, reduceCtorEq, ↓exLSu, ↓exDKu, ↓exDKd, ↓exLSd, ↓exLu, ↓dIxRu, ↓dPutu, ↓dGetAu, ↓dEq_int, ↓dNe_int, ↓dEq_bl, ↓dNe_bl, ↓dEq_str, ↓dNe_str, ↓dAdd_int, ↓exAt10, ↓exIx10, ↓exAt20, ↓exIx20, ↓exAt21, ↓exIx21, ↓exAt30, ↓exIx30, ↓exAt31, ↓exIx31, ↓exAt32, ↓exIx32, ↓exAt40, ↓exIx40, ↓exAt41, ↓exIx41, ↓exAt42, ↓exIx42, ↓exAt43, ↓exIx43, ↓exAt50, ↓exIx50, ↓exAt51, ↓exIx51, ↓exAt52, ↓exIx52, ↓exAt53, ↓exIx53, ↓exAt54, ↓exIx54, ↓exAt60, ↓exIx60, ↓exAt61, ↓exIx61, ↓exAt62, ↓exIx62, ↓exAt63, ↓exIx63, ↓exAt64, ↓exIx64, ↓exAt65, ↓exIx65, up_up, false_or, or_false, ↓exAtM, ↓dFlag_bl, ↓exBl, ↓exInt, ↓exRef, ↓dVar0, ↓dAug0, ↓dSet0, ↓dTgN0, ↓dTgW0, ↓dVar1, ↓dAug1, ↓dSet1, ↓dTgN1, ↓dTgW1, ↓dVar2, ↓dAug2, ↓dSet2, ↓dTgN2, ↓dTgW2, ↓dVar3, ↓dAug3, ↓dSet3, ↓dTgN3, ↓dTgW3, ↓dVar4, ↓dAug4, ↓dSet4, ↓dTgN4, ↓dTgW4, ↓dVar5, ↓dAug5, ↓dSet5, ↓dTgN5, ↓dTgW5, ↓dVar6, ↓dAug6, ↓dSet6, ↓dTgN6, ↓dTgW6, ↓dVar7, ↓dAug7, ↓dSet7, ↓dTgN7, ↓dTgW7, ↓dVar8, ↓dAug8, ↓dSet8, ↓dTgN8, ↓dTgW8, ↓dVar9, ↓dAug9, ↓dSet9, ↓dTgN9, ↓dTgW9, ↓dVar10, ↓dAug10, ↓dSet10, ↓dTgN10, ↓dTgW10, ↓dVar11, ↓dAug11, ↓dSet11, ↓dTgN11, ↓dTgW11, ↓dVar12, ↓dAug12, ↓dSet12, ↓dTgN12, ↓dTgW12, ↓dVar13, ↓dAug13, ↓dSet13, ↓dTgN13, ↓dTgW13, ↓dVar14, ↓dAug14, ↓dSet14, ↓dTgN14, ↓dTgW14, ↓dVar15, ↓dAug15, ↓dSet15, ↓dTgN15, ↓dTgW15, ↓dVar16, ↓dAug16, ↓dSet16, ↓dTgN16, ↓dTgW16, ↓dVar17, ↓dAug17, ↓dSet17, ↓dTgN17, ↓dTgW17, ↓dVar18, ↓dAug18, ↓dSet18, ↓dTgN18, ↓dTgW18, ↓dVar19, ↓dAug19, ↓dSet19, ↓dTgN19, ↓dTgW19, ↓dTg_t2, ↓dTg_t3, ↓exGetM, ↓exSumU, nD, plD, rwD, ↓dAdd_tup, ↓dAdd_ref, dSIndex, dInS, dKeysI, dValsI, dItemsI, dMulS, dEqK, dNeK, dClrK, dCntS]
  rw [show ((L : Int) + 1) = ((L + 1 : Nat) : Int) by omega, rng0]
  refine ⟨by omega, forN (fun i δ M' => Up M' M0 y ∧ M' q = some (.dK (gD g)) ∧ ∃ f s, M' f = some (.lst ((fit g s [k]).map D.str)) ∧ ((fit g s [k]).length < 400 → s = i) ∧ ∃ c, M' c = some (.dK (gpK g (gp g k i))) ∧ c ≠ q ∧ ∃ b8 b9 b10 b11 b12 : Option D, δ = [some x, some y, some (.ref q), some (.str k), some (.ref f), some (.ref c), some (nD (nd_ g i k)), some (nD L), b8, b9, b10, b11, b12]) ⟨x6, hq5, f, 0, hf5, fun _ => rfl, c, hc5, ncq, _, _, _, _, _, rfl⟩ ?_ ?_⟩
  · rintro i z δ' M6 pre P' hz ⟨y0, hq6, f, s, hf6, hs6, c, hc6, ncq, b8, b9, b10, b11, b12, rfl⟩ hP
    obtain ⟨hi, rfl⟩ := rgx hz
    subst t1
    simp (config := {failIfUnchanged := false}) only [dC, dOp, dTest, dChain, dAnd, dOr, dNot, dAndV, dOrV, dNotV, dIf, dNil, dCons, dTup, dLst, dCB, d1, dIx, dNoPart, dPart, dSl, dCut, dNeg, dLen, dTupOf, dListOf, dSorted, dSum, dAll, dAny, dInt, dAbs, dMax, dMin, dIsi, isT, dNext, dSeq, dBrk, dCont, dNever, dExpr, dRet, dRetN, dIfS, dAsg, dPutI, dI0, dI, dIsN, dNotN, dSeqI, dRng1, dRng2, dRngDn, dEnumI, dZipI, dYes, dCall, dLM, dAppend, dExtend, dReverse, dInsert, dAugI, dRg1, dRg2, dTupRg, dLstRg, dNewK, dNewT, ↓S0_, ↓S1_, ↓S2_, ↓S3_, ↓S4_, ↓S5_, ↓S6_, List.map_cons, List.map_nil, List.length_cons, List.length_nil, List.replicate, List.cons_append, List.nil_append, Nat.reduceAdd, Nat.reduceSub, Nat.zero_add, List.getElem?_cons_zero, List.getElem?_cons_succ, Option.some.injEq, exists_eq_left, exists_eq_left', List.set_cons_zero, List.set_cons_succ, wipeD, D.int.injEq, D.bl.injEq, D.str.injEq, D.ref.injEq, D.tup.injEq, D.ty.injEq, true_and, and_true, forall_const, forall_eq', forall_eq, mt_int, mt_bool, mt_str, mt_tuple, mt_list, mt_dict, st_int_int, st_int_bool, st_int_str, st_int_tuple, st_int_list, st_int_dict, st_bool_int, st_bool_bool, st_bool_str, st_bool_tuple, st_bool_list, st_bool_dict, st_str_int, st_str_bool, st_str_str, st_str_tuple, st_str_list, st_str_dict, st_tuple_int, st_tuple_bool, st_tuple_str, st_tuple_tuple, st_tuple_list, st_tuple_dict, st_list_int, st_list_bool, st_list_str, st_list_tuple, st_list_list, st_list_dict, st_dict_int, st_dict_bool, st_dict_str, st_dict_tuple, st_dict_list, st_dict_dict, eq_self, Bool.true_eq_false, Bool.false_eq_true, false_implies, true_implies, implies_true, decide_eq_true_eq, decide_eq_false_iff_not, Bool.not_true, Bool.not_false, Bool.not_eq_true, Bool.not_eq_false, Bool.not_eq_true', Bool.not_eq_false', not_true_eq_false, not_false_eq_true, false_and, and_false, or_false, false_or, reduceCtorEq, ↓exLSu, ↓exDKu, ↓exDKd, ↓exLSd, ↓exLu, ↓dIxRu, ↓dPutu, ↓dGetAu, ↓dEq_int, ↓dNe_int, ↓dEq_bl, ↓dNe_bl, ↓dEq_str, ↓dNe_str, ↓dAdd_int, ↓exAt10, ↓exIx10, ↓exAt20, ↓exIx20, ↓exAt21, ↓exIx21, ↓exAt30, ↓exIx30, ↓exAt31, ↓exIx31, ↓exAt32, ↓exIx32, ↓exAt40, ↓exIx40, ↓exAt41, ↓exIx41, ↓exAt42, ↓exIx42, ↓exAt43, ↓exIx43, ↓exAt50, ↓exIx50, ↓exAt51, ↓exIx51, ↓exAt52, ↓exIx52, ↓exAt53, ↓exIx53, ↓exAt54, ↓exIx54, ↓exAt60, ↓exIx60, ↓exAt61, ↓exIx61, ↓exAt62, ↓exIx62, ↓exAt63, ↓exIx63, ↓exAt64, ↓exIx64, ↓exAt65, ↓exIx65, up_up, false_or, or_false, ↓exAtM, ↓dFlag_bl, ↓exBl, ↓exInt, ↓exRef, ↓dVar0, ↓dAug0, ↓dSet0, ↓dTgN0, ↓dTgW0, ↓dVar1, ↓dAug1, ↓dSet1, ↓dTgN1, ↓dTgW1, ↓dVar2, ↓dAug2, ↓dSet2, ↓dTgN2, ↓dTgW2, ↓dVar3, ↓dAug3, ↓dSet3, ↓dTgN3, ↓dTgW3, ↓dVar4, ↓dAug4, ↓dSet4, ↓dTgN4, ↓dTgW4, ↓dVar5, ↓dAug5, ↓dSet5, ↓dTgN5, ↓dTgW5, ↓dVar6, ↓dAug6, ↓dSet6, ↓dTgN6, ↓dTgW6, ↓dVar7, ↓dAug7, ↓dSet7, ↓dTgN7, ↓dTgW7, ↓dVar8, ↓dAug8, ↓dSet8, ↓dTgN8, ↓dTgW8, ↓dVar9, ↓dAug9, ↓dSet9, ↓dTgN9, ↓dTgW9, ↓dVar10, ↓dAug10, ↓dSet10, ↓dTgN10, ↓dTgW10, ↓dVar11, ↓dAug11, ↓dSet11, ↓dTgN11, ↓dTgW11, ↓dVar12, ↓dAug12, ↓dSet12, ↓dTgN12, ↓dTgW12, ↓dVar13, ↓dAug13, ↓dSet13, ↓dTgN13, ↓dTgW13, ↓dVar14, ↓dAug14, ↓dSet14, ↓dTgN14, ↓dTgW14, ↓dVar15, ↓dAug15, ↓dSet15, ↓dTgN15, ↓dTgW15, ↓dVar16, ↓dAug16, ↓dSet16, ↓dTgN16, ↓dTgW16, ↓dVar17, ↓dAug17, ↓dSet17, ↓dTgN17, ↓dTgW17, ↓dVar18, ↓dAug18, ↓dSet18, ↓dTgN18, ↓dTgW18, ↓dVar19, ↓dAug19, ↓dSet19, ↓dTgN19, ↓dTgW19, ↓dTg_t2, ↓dTg_t3, ↓exGetM, ↓exSumU, nD, plD, rwD, ↓dAdd_tup, ↓dAdd_ref, dSIndex, dInS, dKeysI, dValsI, dItemsI, dMulS, dEqK, dNeK, dClrK, dCntS]
    refine ⟨fun δ' M' => Up M' M0 y ∧ M' q = some (.dK (gD g)) ∧ M' f = some (.lst ((fit g s [k]).map D.str)) ∧ M' c = some (.dK (gpK g (gp g k i))) ∧ ∃ b9 b10 b11 b12 : Option D, δ' = [some x, some y, some (.ref q), some (.str k), some (.ref f), some (.ref c), some (nD (nd_ g i k)), some (nD L), some (nD i), b9, b10, b11, b12], ?_, ?_⟩
    · simp (config := {failIfUnchanged := false}) only [dC, dOp, dTest, dChain, dAnd, dOr, dNot, dAndV, dOrV, dNotV, dIf, dNil, dCons, dTup, dLst, dCB, d1, dIx, dNoPart, dPart, dSl, dCut, dNeg, dLen, dTupOf, dListOf, dSorted, dSum, dAll, dAny, dInt, dAbs, dMax, dMin, dIsi, isT, dNext, dSeq, dBrk, dCont, dNever, dExpr, dRet, dRetN, dIfS, dAsg, dPutI, dI0, dI, dIsN, dNotN, dSeqI, dRng1, dRng2, dRngDn, dEnumI, dZipI, dYes, dCall, dLM, dAppend, dExtend, dReverse, dInsert, dAugI, dRg1, dRg2, dTupRg, dLstRg, dNewK, dNewT, ↓S0_, ↓S1_, ↓S2_, ↓S3_, ↓S4_, ↓S5_, ↓S6_, List.map_cons, List.map_nil, List.length_cons, List.length_nil, List.replicate, List.cons_append, List.nil_append, Nat.reduceAdd, Nat.reduceSub, Nat.zero_add, List.getElem?_cons_zero, List.getElem?_cons_succ, Option.some.injEq, exists_eq_left, exists_eq_left', List.set_cons_zero, List.set_cons_succ, wipeD, D.int.injEq, D.bl.injEq, D.str.injEq, D.ref.injEq, D.tup.injEq, D.ty.injEq, true_and, and_true, forall_const, forall_eq', forall_eq, mt_int, mt_bool, mt_str, mt_tuple, mt_list, mt_dict, st_int_int, st_int_bool, st_int_str, st_int_tuple, st_int_list, st_int_dict, st_bool_int, st_bool_bool, st_bool_str, st_bool_tuple, st_bool_list, st_bool_dict, st_str_int, st_str_bool, st_str_str, st_str_tuple, st_str_list, st_str_dict, st_tuple_int, st_tuple_bool, st_tuple_str, st_tuple_tuple, st_tuple_list, st_tuple_dict, st_list_int, st_list_bool, st_list_str, st_list_tuple, st_list_list, st_list_dict, st_dict_int, st_dict_bool, st_dict_str, st_dict_tuple, st_dict_list, st_dict_dict, eq_self, Bool.true_eq_false, Bool.false_eq_true, false_implies, true_implies, implies_true, decide_eq_true_eq, decide_eq_false_iff_not, Bool.not_true, Bool.not_false, Bool.not_eq_true, Bool.not_eq_false, Bool.not_eq_true', Bool.not_eq_false', not_true_eq_false, not_false_eq_true, false_and, and_false, or_false, false_or, reduceCtorEq, ↓exLSu, ↓exDKu, ↓exDKd, ↓exLSd, ↓exLu, ↓dIxRu, ↓dPutu, ↓dGetAu, ↓dEq_int, ↓dNe_int, ↓dEq_bl, ↓dNe_bl, ↓dEq_str, ↓dNe_str, ↓dAdd_int, ↓exAt10, ↓exIx10, ↓exAt20, ↓exIx20, ↓exAt21, ↓exIx21, ↓exAt30, ↓exIx30, ↓exAt31, ↓exIx31, ↓exAt32, ↓exIx32, ↓exAt40, ↓exIx40, ↓exAt41, ↓exIx41, ↓exAt42, ↓exIx42, ↓exAt43, ↓exIx43, ↓exAt50, ↓exIx50, ↓exAt51, ↓exIx51, ↓exAt52, ↓exIx52, ↓exAt53, ↓exIx53, ↓exAt54, ↓exIx54, ↓exAt60, ↓exIx60, ↓exAt61, ↓exIx61, ↓exAt62, ↓exIx62, ↓exAt63, ↓exIx63, ↓exAt64, ↓exIx64, ↓exAt65, ↓exIx65, up_up, false_or, or_false, ↓exAtM, ↓dFlag_bl, ↓exBl, ↓exInt, ↓exRef, ↓dVar0, ↓dAug0, ↓dSet0, ↓dTgN0, ↓dTgW0, ↓dVar1, ↓dAug1, ↓dSet1, ↓dTgN1, ↓dTgW1, ↓dVar2, ↓dAug2, ↓dSet2, ↓dTgN2, ↓dTgW2, ↓dVar3, ↓dAug3, ↓dSet3, ↓dTgN3, ↓dTgW3, ↓dVar4, ↓dAug4, ↓dSet4, ↓dTgN4, ↓dTgW4, ↓dVar5, ↓dAug5, ↓dSet5, ↓dTgN5, ↓dTgW5, ↓dVar6, ↓dAug6, ↓dSet6, ↓dTgN6, ↓dTgW6, ↓dVar7, ↓dAug7, ↓dSet7, ↓dTgN7, ↓dTgW7, ↓dVar8, ↓dAug8, ↓dSet8, ↓dTgN8, ↓dTgW8, ↓dVar9, ↓dAug9, ↓dSet9, ↓dTgN9, ↓dTgW9, ↓dVar10, ↓dAug10, ↓dSet10, ↓dTgN10, ↓dTgW10, ↓dVar11, ↓dAug11, ↓dSet11, ↓dTgN11, ↓dTgW11, ↓dVar12, ↓dAug12, ↓dSet12, ↓dTgN12, ↓dTgW12, ↓dVar13, ↓dAug13, ↓dSet13, ↓dTgN13, ↓dTgW13, ↓dVar14, ↓dAug14, ↓dSet14, ↓dTgN14, ↓dTgW14, ↓dVar15, ↓dAug15, ↓dSet15, ↓dTgN15, ↓dTgW15, ↓dVar16, ↓dAug16, ↓dSet16, ↓dTgN16, ↓dTgW16, ↓dVar17, ↓dAug17, ↓dSet17, ↓dTgN17, ↓dTgW17, ↓dVar18, ↓dAug18, ↓dSet18, ↓dTgN18, ↓dTgW18, ↓dVar19, ↓dAug19, ↓dSet19, ↓dTgN19, ↓dTgW19, ↓dTg_t2, ↓dTg_t3, ↓exGetM, ↓exSumU, nD, plD, rwD, ↓dAdd_tup, ↓dAdd_ref, dSIndex, dInS, dKeysI, dValsI, dItemsI, dMulS, dEqK, dNeK, dClrK, dCntS]
      refine (fun hb => ⟨fun _ => hb, fun _ => ⟨fun _ => hb, fun _ => ⟨y0, hq6, hf6, hc6, _, _, _, _, rfl⟩⟩⟩ : (_ → _)) ?_
      refine ⟨q, g, k, i, rfl, rfl, rfl, hq6, hg, hk, by omega, fun r M7 hr s7 hr7 => .inr ⟨_, hr7, sam_gp hg _ hr7 (s7.1 _ _ hc6), lock_lc (fun _ => D.bl true) rfl hr7 (by unfold gpK; rw [List.map_map]; rfl) g12 (fun e he Mz od ws hz hn R hR => ?_) fun l hl' => ?_⟩⟩
      · simp (config := {failIfUnchanged := false}) only [dC, dOp, dTest, dChain, dAnd, dOr, dNot, dAndV, dOrV, dNotV, dIf, dNil, dCons, dTup, dLst, dCB, d1, dIx, dNoPart, dPart, dSl, dCut, dNeg, dLen, dTupOf, dListOf, dSorted, dSum, dAll, dAny, dInt, dAbs, dMax, dMin, dIsi, isT, dNext, dSeq, dBrk, dCont, dNever, dExpr, dRet, dRetN, dIfS, dAsg, dPutI, dI0, dI, dIsN, dNotN, dSeqI, dRng1, dRng2, dRngDn, dEnumI, dZipI, dYes, dCall, dLM, dAppend, dExtend, dReverse, dInsert, dAugI, dRg1, dRg2, dTupRg, dLstRg, dNewK, dNewT, ↓S0_, ↓S1_, ↓S2_, ↓S3_, ↓S4_, ↓S5_, ↓S6_, List.map_cons, List.map_nil, List.length_cons, List.length_nil, List.replicate, List.cons_append, List.nil_append, Nat.reduceAdd, Nat.reduceSub, Nat.zero_add, List.getElem?_cons_zero, List.getElem?_cons_succ, Option.some.injEq, exists_eq_left, exists_eq_left', List.set_cons_zero, List.set_cons_succ, wipeD, D.int.injEq, D.bl.injEq, D.str.injEq, D.ref.injEq, D.tup.injEq, D.ty.injEq, true_and, and_true, forall_const, forall_eq', forall_eq, mt_int, mt_bool, mt_str, mt_tuple, mt_list, mt_dict, st_int_int, st_int_bool, st_int_str, st_int_tuple, st_int_list, st_int_dict, st_bool_int, st_bool_bool, st_bool_str, st_bool_tuple, st_bool_list, st_bool_dict, st_str_int, st_str_bool, st_str_str, st_str_tuple, st_str_list, st_str_dict, st_tuple_int, st_tuple_bool, st_tuple_str, st_tuple_tuple, st_tuple_list, st_tuple_dict, st_list_int, st_list_bool, st_list_str, st_list_tuple, st_list_list, st_list_dict, st_dict_int, st_dict_bool, st_dict_str, st_dict_tuple, st_dict_list, st_dict_dict, eq_self, Bool.true_eq_false, Bool.false_eq_true, false_implies, true_implies, implies_true, decide_eq_true_eq, decide_eq_false_iff_not, Bool.not_true, Bool.not_false, Bool.not_eq_true, Bool.not_eq_false, Bool.not_eq_true', Bool.not_eq_false', not_true_eq_false, not_false_eq_true, false_and, and_false, or_false, false_or, reduceCtorEq, ↓exLSu, ↓exDKu, ↓exDKd, ↓exLSd, ↓exLu, ↓dIxRu, ↓dPutu, ↓dGetAu, ↓dEq_int, ↓dNe_int, ↓dEq_bl, ↓dNe_bl, ↓dEq_str, ↓dNe_str, ↓dAdd_int, ↓exAt10, ↓exIx10, ↓exAt20, ↓exIx20, ↓exAt21, ↓exIx21, ↓exAt30, ↓exIx30, ↓exAt31, ↓exIx31, ↓exAt32, ↓exIx32, ↓exAt40, ↓exIx40, ↓exAt41, ↓exIx41, ↓exAt42, ↓exIx42, ↓exAt43, ↓exIx43, ↓exAt50, ↓exIx50, ↓exAt51, ↓exIx51, ↓exAt52, ↓exIx52, ↓exAt53, ↓exIx53, ↓exAt54, ↓exIx54, ↓exAt60, ↓exIx60, ↓exAt61, ↓exIx61, ↓exAt62, ↓exIx62, ↓exAt63, ↓exIx63, ↓exAt64, ↓exIx64, ↓exAt65, ↓exIx65, up_up, false_or, or_false, ↓exAtM, ↓dFlag_bl, ↓exBl, ↓exInt, ↓exRef, ↓dVar0, ↓dAug0, ↓dSet0, ↓dTgN0, ↓dTgW0, ↓dVar1, ↓dAug1, ↓dSet1, ↓dTgN1, ↓dTgW1, ↓dVar2, ↓dAug2, ↓dSet2, ↓dTgN2, ↓dTgW2, ↓dVar3, ↓dAug3, ↓dSet3, ↓dTgN3, ↓dTgW3, ↓dVar4, ↓dAug4, ↓dSet4, ↓dTgN4, ↓dTgW4, ↓dVar5, ↓dAug5, ↓dSet5, ↓dTgN5, ↓dTgW5, ↓dVar6, ↓dAug6, ↓dSet6, ↓dTgN6, ↓dTgW6, ↓dVar7, ↓dAug7, ↓dSet7, ↓dTgN7, ↓dTgW7, ↓dVar8, ↓dAug8, ↓dSet8, ↓dTgN8, ↓dTgW8, ↓dVar9, ↓dAug9, ↓dSet9, ↓dTgN9, ↓dTgW9, ↓dVar10, ↓dAug10, ↓dSet10, ↓dTgN10, ↓dTgW10, ↓dVar11, ↓dAug11, ↓dSet11, ↓dTgN11, ↓dTgW11, ↓dVar12, ↓dAug12, ↓dSet12, ↓dTgN12, ↓dTgW12, ↓dVar13, ↓dAug13, ↓dSet13, ↓dTgN13, ↓dTgW13, ↓dVar14, ↓dAug14, ↓dSet14, ↓dTgN14, ↓dTgW14, ↓dVar15, ↓dAug15, ↓dSet15, ↓dTgN15, ↓dTgW15, ↓dVar16, ↓dAug16, ↓dSet16, ↓dTgN16, ↓dTgW16, ↓dVar17, ↓dAug17, ↓dSet17, ↓dTgN17, ↓dTgW17, ↓dVar18, ↓dAug18, ↓dSet18, ↓dTgN18, ↓dTgW18, ↓dVar19, ↓dAug19, ↓dSet19, ↓dTgN19, ↓dTgW19, ↓dTg_t2, ↓dTg_t3, ↓exGetM, ↓exSumU, nD, plD, rwD, ↓dAdd_tup, ↓dAdd_ref, dSIndex, dInS, dKeysI, dValsI, dItemsI, dMulS, dEqK, dNeK, dClrK, dCntS]
        exact .inr (.inl ⟨_, .inr e.1, _, rfl, .inr ⟨od, ws, hz⟩, val_gp hg _ (List.mem_map.mpr ⟨e, he, rfl⟩), _, rfl, hR⟩)
      have y1 := Up.of_sub s7 y0.pool
      have nrq : r ≠ q := by rintro rfl; rw [hq6] at hr; cases hr
      have nrc : r ≠ c := by rintro rfl; rw [hc6] at hr; cases hr
      have nrf : r ≠ f := by rintro rfl; rw [hf6] at hr; cases hr
      have hrM : M0 r = none := y0.free _ hr
      have y2 := (Up.new (o := .lst (g.map fun e => D.bl true)) y1.pool hl' (by intro _ z; cases z))
      have hr8 := y2.keep _ _ hr7 nofun
      have hq8 := (y2.trans y1).keep _ _ hq6 nofun
      have hf8 := (y2.trans y1).keep _ _ hf6 nofun
      have hc8 := (y2.trans y1).keep _ _ hc6 nofun
      replace y2 := (y2.trans y1).trans y0
      refine ⟨g.map fun _ => true, LS_up.mpr (by rw [List.map_map]; rfl), fun z => ?_, fun _ => ?_⟩
      · rw [show (g.map fun _ => true).all id = true by rw [List.all_map]; exact List.all_eq_true.mpr fun _ _ => rfl] at z
        cases z
      generalize up M7 l (.lst (g.map fun e => D.bl true)) = M8 at *
      clear hl' y1 s7 hr7 hr
      refine ⟨fun δ' M' => Up M' M0 y ∧ M' q = some (.dK (gD g)) ∧ M' f = some (.lst ((fit g s [k]).map D.str)) ∧ M' c = some (.dK (gpK g (gp g k i))) ∧ M' r = some (.dK (gpK g (gp g k i))) ∧ δ' = [some x, some y, some (.ref q), some (.str k), some (.ref f), some (.ref c), some (nD (nd_ g i k)), some (nD L), some (nD i), b9, b10, some (.ref r), b12], ?_, ?_⟩
      · simp (config := {failIfUnchanged := false}) only [dC, dOp, dTest, dChain, dAnd, dOr, dNot, dAndV, dOrV, dNotV, dIf, dNil, dCons, dTup, dLst, dCB, d1, dIx, dNoPart, dPart, dSl, dCut, dNeg, dLen, dTupOf, dListOf, dSorted, dSum, dAll, dAny, dInt, dAbs, dMax, dMin, dIsi, isT, dNext, dSeq, dBrk, dCont, dNever, dExpr, dRet, dRetN, dIfS, dAsg, dPutI, dI0, dI, dIsN, dNotN, dSeqI, dRng1, dRng2, dRngDn, dEnumI, dZipI, dYes, dCall, dLM, dAppend, dExtend, dReverse, dInsert, dAugI, dRg1, dRg2, dTupRg, dLstRg, dNewK, dNewT, ↓S0_, ↓S1_, ↓S2_, ↓S3_, ↓S4_, ↓S5_, ↓S6_, List.map_cons, List.map_nil, List.length_cons, List.length_nil, List.replicate, List.cons_append, List.nil_append, Nat.reduceAdd, Nat.reduceSub, Nat.zero_add, List.getElem?_cons_zero, List.getElem?_cons_succ, Option.some.injEq, exists_eq_left, exists_eq_left', List.set_cons_zero, List.set_cons_succ, wipeD, D.int.injEq, D.bl.injEq, D.str.injEq, D.ref.injEq, D.tup.injEq, D.ty.injEq, true_and, and_true, forall_const, forall_eq', forall_eq, mt_int, mt_bool, mt_str, mt_tuple, mt_list, mt_dict, st_int_int, st_int_bool, st_int_str, st_int_tuple, st_int_list, st_int_dict, st_bool_int, st_bool_bool, st_bool_str, st_bool_tuple, st_bool_list, st_bool_dict, st_str_int, st_str_bool, st_str_str, st_str_tuple, st_str_list, st_str_dict, st_tuple_int, st_tuple_bool, st_tuple_str, st_tuple_tuple, st_tuple_list, st_tuple_dict, st_list_int, st_list_bool, st_list_str, st_list_tuple, st_list_list, st_list_dict, st_dict_int, st_dict_bool, st_dict_str, st_dict_tuple, st_dict_list, st_dict_dict, eq_self, Bool.true_eq_false, Bool.false_eq_true, false_implies, true_implies, implies_true, decide_eq_true_eq, decide_eq_false_iff_not, Bool.not_true, Bool.not_false, Bool.not_eq_true, Bool.not_eq_false, Bool.not_eq_true', Bool.not_eq_false', not_true_eq_false, not_false_eq_true, false_and, and_false, or_false, false_or, reduceCtorEq, ↓exLSu, ↓exDKu, ↓exDKd, ↓exLSd, ↓exLu, ↓dIxRu, ↓dPutu, ↓dGetAu, ↓dEq_int, ↓dNe_int, ↓dEq_bl, ↓dNe_bl, ↓dEq_str, ↓dNe_str, ↓dAdd_int, ↓exAt10, ↓exIx10, ↓exAt20, ↓exIx20, ↓exAt21, ↓exIx21, ↓exAt30, ↓exIx30, ↓exAt31, ↓exIx31, ↓exAt32, ↓exIx32, ↓exAt40, ↓exIx40, ↓exAt41, ↓exIx41, ↓exAt42, ↓exIx42, ↓exAt43, ↓exIx43, ↓exAt50, ↓exIx50, ↓exAt51, ↓exIx51, ↓exAt52, ↓exIx52, ↓exAt53, ↓exIx53, ↓exAt54, ↓exIx54, ↓exAt60, ↓exIx60, ↓exAt61, ↓exIx61, ↓exAt62, ↓exIx62, ↓exAt63, ↓exIx63, ↓exAt64, ↓exIx64, ↓exAt65, ↓exIx65, up_up, false_or, or_false, ↓exAtM, ↓dFlag_bl, ↓exBl, ↓exInt, ↓exRef, ↓dVar0, ↓dAug0, ↓dSet0, ↓dTgN0, ↓dTgW0, ↓dVar1, ↓dAug1, ↓dSet1, ↓dTgN1, ↓dTgW1, ↓dVar2, ↓dAug2, ↓dSet2, ↓dTgN2, ↓dTgW2, ↓dVar3, ↓dAug3, ↓dSet3, ↓dTgN3, ↓dTgW3, ↓dVar4, ↓dAug4, ↓dSet4, ↓dTgN4, ↓dTgW4, ↓dVar5, ↓dAug5, ↓dSet5, ↓dTgN5, ↓dTgW5, ↓dVar6, ↓dAug6, ↓dSet6, ↓dTgN6, ↓dTgW6, ↓dVar7, ↓dAug7, ↓dSet7, ↓dTgN7, ↓dTgW7, ↓dVar8, ↓dAug8, ↓dSet8, ↓dTgN8, ↓dTgW8, ↓dVar9, ↓dAug9, ↓dSet9, ↓dTgN9, ↓dTgW9, ↓dVar10, ↓dAug10, ↓dSet10, ↓dTgN10, ↓dTgW10, ↓dVar11, ↓dAug11, ↓dSet11, ↓dTgN11, ↓dTgW11, ↓dVar12, ↓dAug12, ↓dSet12, ↓dTgN12, ↓dTgW12, ↓dVar13, ↓dAug13, ↓dSet13, ↓dTgN13, ↓dTgW13, ↓dVar14, ↓dAug14, ↓dSet14, ↓dTgN14, ↓dTgW14, ↓dVar15, ↓dAug15, ↓dSet15, ↓dTgN15, ↓dTgW15, ↓dVar16, ↓dAug16, ↓dSet16, ↓dTgN16, ↓dTgW16, ↓dVar17, ↓dAug17, ↓dSet17, ↓dTgN17, ↓dTgW17, ↓dVar18, ↓dAug18, ↓dSet18, ↓dTgN18, ↓dTgW18, ↓dVar19, ↓dAug19, ↓dSet19, ↓dTgN19, ↓dTgW19, ↓dTg_t2, ↓dTg_t3, ↓exGetM, ↓exSumU, nD, plD, rwD, ↓dAdd_tup, ↓dAdd_ref, dSIndex, dInS, dKeysI, dValsI, dItemsI, dMulS, dEqK, dNeK, dClrK, dCntS]
        refine .inl ⟨_, .inl hf8, fun hlt => lock_lc (fun e => D.tup [D.str e.1, nD (gp g k i e.1)]) rfl hq8 hkl g12 (fun e he Mz od ws hz hn R hR => ?_) fun l2 hl2 => ?_, fun _ => ⟨y2, hq8, hf8, hc8, hr8⟩⟩
        · have nfq : f ≠ q := by rintro rfl; rw [hq8] at hf8; cases hf8
          have es := hs6 (by rw [List.length_map] at hlt; omega)
          have hfz : Mz f = some (.lst ((fit g s [k]).map D.str)) := by rw [hn _ nfq]; exact hf8
          simp (config := {failIfUnchanged := false}) only [dC, dOp, dTest, dChain, dAnd, dOr, dNot, dAndV, dOrV, dNotV, dIf, dNil, dCons, dTup, dLst, dCB, d1, dIx, dNoPart, dPart, dSl, dCut, dNeg, dLen, dTupOf, dListOf, dSorted, dSum, dAll, dAny, dInt, dAbs, dMax, dMin, dIsi, isT, dNext, dSeq, dBrk, dCont, dNever, dExpr, dRet, dRetN, dIfS, dAsg, dPutI, dI0, dI, dIsN, dNotN, dSeqI, dRng1, dRng2, dRngDn, dEnumI, dZipI, dYes, dCall, dLM, dAppend, dExtend, dReverse, dInsert, dAugI, dRg1, dRg2, dTupRg, dLstRg, dNewK, dNewT, ↓S0_, ↓S1_, ↓S2_, ↓S3_, ↓S4_, ↓S5_, ↓S6_, List.map_cons, List.map_nil, List.length_cons, List.length_nil, List.replicate, List.cons_append, List.nil_append, Nat.reduceAdd, Nat.reduceSub, Nat.zero_add, List.getElem?_cons_zero, List.getElem?_cons_succ, Option.some.injEq, exists_eq_left, exists_eq_left', List.set_cons_zero, List.set_cons_succ, wipeD, D.int.injEq, D.bl.injEq, D.str.injEq, D.ref.injEq, D.tup.injEq, D.ty.injEq, true_and, and_true, forall_const, forall_eq', forall_eq, mt_int, mt_bool, mt_str, mt_tuple, mt_list, mt_dict, st_int_int, st_int_bool, st_int_str, st_int_tuple, st_int_list, st_int_dict, st_bool_int, st_bool_bool, st_bool_str, st_bool_tuple, st_bool_list, st_bool_dict, st_str_int, st_str_bool, st_str_str, st_str_tuple, st_str_list, st_str_dict, st_tuple_int, st_tuple_bool, st_tuple_str, st_tuple_tuple, st_tuple_list, st_tuple_dict, st_list_int, st_list_bool, st_list_str, st_list_tuple, st_list_list, st_list_dict, st_dict_int, st_dict_bool, st_dict_str, st_dict_tuple, st_dict_list, st_dict_dict, eq_self, Bool.true_eq_false, Bool.false_eq_true, false_implies, true_implies, implies_true, decide_eq_true_eq, decide_eq_false_iff_not, Bool.not_true, Bool.not_false, Bool.not_eq_true, Bool.not_eq_false, Bool.not_eq_true', Bool.not_eq_false', not_true_eq_false, not_false_eq_true, false_and, and_false, or_false, false_or, reduceCtorEq, ↓exLSu, ↓exDKu, ↓exDKd, ↓exLSd, ↓exLu, ↓dIxRu, ↓dPutu, ↓dGetAu, ↓dEq_int, ↓dNe_int, ↓dEq_bl, ↓dNe_bl, ↓dEq_str, ↓dNe_str, ↓dAdd_int, ↓exAt10, ↓exIx10, ↓exAt20, ↓exIx20, ↓exAt21, ↓exIx21, ↓exAt30, ↓exIx30, ↓exAt31, ↓exIx31, ↓exAt32, ↓exIx32, ↓exAt40, ↓exIx40, ↓exAt41, ↓exIx41, ↓exAt42, ↓exIx42, ↓exAt43, ↓exIx43, ↓exAt50, ↓exIx50, ↓exAt51, ↓exIx51, ↓exAt52, ↓exIx52, ↓exAt53, ↓exIx53, ↓exAt54, ↓exIx54, ↓exAt60, ↓exIx60, ↓exAt61, ↓exIx61, ↓exAt62, ↓exIx62, ↓exAt63, ↓exIx63, ↓exAt64, ↓exIx64, ↓exAt65, ↓exIx65, up_up, false_or, or_false, ↓exAtM, ↓dFlag_bl, ↓exBl, ↓exInt, ↓exRef, ↓dVar0, ↓dAug0, ↓dSet0, ↓dTgN0, ↓dTgW0, ↓dVar1, ↓dAug1, ↓dSet1, ↓dTgN1, ↓dTgW1, ↓dVar2, ↓dAug2, ↓dSet2, ↓dTgN2, ↓dTgW2, ↓dVar3, ↓dAug3, ↓dSet3, ↓dTgN3, ↓dTgW3, ↓dVar4, ↓dAug4, ↓dSet4, ↓dTgN4, ↓dTgW4, ↓dVar5, ↓dAug5, ↓dSet5, ↓dTgN5, ↓dTgW5, ↓dVar6, ↓dAug6, ↓dSet6, ↓dTgN6, ↓dTgW6, ↓dVar7, ↓dAug7, ↓dSet7, ↓dTgN7, ↓dTgW7, ↓dVar8, ↓dAug8, ↓dSet8, ↓dTgN8, ↓dTgW8, ↓dVar9, ↓dAug9, ↓dSet9, ↓dTgN9, ↓dTgW9, ↓dVar10, ↓dAug10, ↓dSet10, ↓dTgN10, ↓dTgW10, ↓dVar11, ↓dAug11, ↓dSet11, ↓dTgN11, ↓dTgW11, ↓dVar12, ↓dAug12, ↓dSet12, ↓dTgN12, ↓dTgW12, ↓dVar13, ↓dAug13, ↓dSet13, ↓dTgN13, ↓dTgW13, ↓dVar14, ↓dAug14, ↓dSet14, ↓dTgN14, ↓dTgW14, ↓dVar15, ↓dAug15, ↓dSet15, ↓dTgN15, ↓dTgW15, ↓dVar16, ↓dAug16, ↓dSet16, ↓dTgN16, ↓dTgW16, ↓dVar17, ↓dAug17, ↓dSet17, ↓dTgN17, ↓dTgW17, ↓dVar18, ↓dAug18, ↓dSet18, ↓dTgN18, ↓dTgW18, ↓dVar19, ↓dAug19, ↓dSet19, ↓dTgN19, ↓dTgW19, ↓dTg_t2, ↓dTg_t3, ↓exGetM, ↓exSumU, nD, plD, rwD, ↓dAdd_tup, ↓dAdd_ref, dSIndex, dInS, dKeysI, dValsI, dItemsI, dMulS, dEqK, dNeK, dClrK, dCntS]
          refine ⟨⟨f, _, rfl, .inl hfz⟩, fit g s [k], .inl hfz, ?_⟩
          rw [gp_count hg hk, es]
          exact hR
        have z1 := Up.new (o := .lst (g.map fun e => D.tup [D.str e.1, nD (gp g k i e.1)])) y2.pool hl2 (by intro _ z; cases z)
        refine ⟨l2, rfl, .inl ⟨gpK g (gp g k i), LS_up.mpr (pairs _).symm, fun r3 hr3 => ?_⟩⟩
        rw [merge_gp hg]
        have z2 := (Up.new (o := .dK (gpK g (gp g k i))) z1.pool hr3 (by intro _ z; cases z)).trans z1
        exact ⟨sam_gp hg _ (z2.keep _ _ hr8 nofun) up_same, z2.trans y2, z2.keep _ _ hq8 nofun, z2.keep _ _ hf8 nofun, z2.keep _ _ hc8 nofun, z2.keep _ _ hr8 nofun⟩
      rintro δ' M9 ⟨y9, hq9, hf9, hc9, hr9, rfl⟩
      simp (config := {failIfUnchanged := false}) only [dC, dOp, dTest, dChain, dAnd, dOr, dNot, dAndV, dOrV, dNotV, dIf, dNil, dCons, dTup, dLst, dCB, d1, dIx, dNoPart, dPart, dSl, dCut, dNeg, dLen, dTupOf, dListOf, dSorted, dSum, dAll, dAny, dInt, dAbs, dMax, dMin, dIsi, isT, dNext, dSeq, dBrk, dCont, dNever, dExpr, dRet, dRetN, dIfS, dAsg, dPutI, dI0, dI, dIsN, dNotN, dSeqI, dRng1, dRng2, dRngDn, dEnumI, dZipI, dYes, dCall, dLM, dAppend, dExtend, dReverse, dInsert, dAugI, dRg1, dRg2, dTupRg, dLstRg, dNewK, dNewT, ↓S0_, ↓S1_, ↓S2_, ↓S3_, ↓S4_, ↓S5_, ↓S6_, List.map_cons, List.map_nil, List.length_cons, List.length_nil, List.replicate, List.cons_append, List.nil_append, Nat.reduceAdd, Nat.reduceSub, Nat.zero_add, List.getElem?_cons_zero, List.getElem?_cons_succ, Option.some.injEq, exists_eq_left, exists_eq_left', List.set_cons_zero, List.set_cons_succ, wipeD, D.int.injEq, D.bl.injEq, D.str.injEq, D.ref.injEq, D.tup.injEq, D.ty.injEq, true_and, and_true, forall_const, forall_eq', forall_eq, mt_int, mt_bool, mt_str, mt_tuple, mt_list, mt_dict, st_int_int, st_int_bool, st_int_str, st_int_tuple, st_int_list, st_int_dict, st_bool_int, st_bool_bool, st_bool_str, st_bool_tuple, st_bool_list, st_bool_dict, st_str_int, st_str_bool, st_str_str, st_str_tuple, st_str_list, st_str_dict, st_tuple_int, st_tuple_bool, st_tuple_str, st_tuple_tuple, st_tuple_list, st_tuple_dict, st_list_int, st_list_bool, st_list_str, st_list_tuple, st_list_list, st_list_dict, st_dict_int, st_dict_bool, st_dict_str, st_dict_tuple, st_dict_list, st_dict_dict, eq_self, Bool.true_eq_false, Bool.false_eq_true, false_implies, true_implies, implies_true, decide_eq_true_eq, decide_eq_false_iff_not, Bool.not_true, Bool.not_false, Bool.not_eq_true, Bool.not_eq_false, Bool.not_eq_true', Bool.not_eq_false', not_true_eq_false, not_false_eq_true, false_and, and_false, or_false, false_or, reduceCtorEq, ↓exLSu, ↓exDKu, ↓exDKd, ↓exLSd, ↓exLu, ↓dIxRu, ↓dPutu, ↓dGetAu, ↓dEq_int, ↓dNe_int, ↓dEq_bl, ↓dNe_bl, ↓dEq_str, ↓dNe_str, ↓dAdd_int, ↓exAt10, ↓exIx10, ↓exAt20, ↓exIx20, ↓exAt21, ↓exIx21, ↓exAt30, ↓exIx30, ↓exAt31, ↓exIx31, ↓exAt32, ↓exIx32, ↓exAt40, ↓exIx40, ↓exAt41, ↓exIx41, ↓exAt42, ↓exIx42, ↓exAt43, ↓exIx43, ↓exAt50, ↓exIx50, ↓exAt51, ↓exIx51, ↓exAt52, ↓exIx52, ↓exAt53, ↓exIx53, ↓exAt54, ↓exIx54, ↓exAt60, ↓exIx60, ↓exAt61, ↓exIx61, ↓exAt62, ↓exIx62, ↓exAt63, ↓exIx63, ↓exAt64, ↓exIx64, ↓exAt65, ↓exIx65, up_up, false_or, or_false, ↓exAtM, ↓dFlag_bl, ↓exBl, ↓exInt, ↓exRef, ↓dVar0, ↓dAug0, ↓dSet0, ↓dTgN0, ↓dTgW0, ↓dVar1, ↓dAug1, ↓dSet1, ↓dTgN1, ↓dTgW1, ↓dVar2, ↓dAug2, ↓dSet2, ↓dTgN2, ↓dTgW2, ↓dVar3, ↓dAug3, ↓dSet3, ↓dTgN3, ↓dTgW3, ↓dVar4, ↓dAug4, ↓dSet4, ↓dTgN4, ↓dTgW4, ↓dVar5, ↓dAug5, ↓dSet5, ↓dTgN5, ↓dTgW5, ↓dVar6, ↓dAug6, ↓dSet6, ↓dTgN6, ↓dTgW6, ↓dVar7, ↓dAug7, ↓dSet7, ↓dTgN7, ↓dTgW7, ↓dVar8, ↓dAug8, ↓dSet8, ↓dTgN8, ↓dTgW8, ↓dVar9, ↓dAug9, ↓dSet9, ↓dTgN9, ↓dTgW9, ↓dVar10, ↓dAug10, ↓dSet10, ↓dTgN10, ↓dTgW10, ↓dVar11, ↓dAug11, ↓dSet11, ↓dTgN11, ↓dTgW11, ↓dVar12, ↓dAug12, ↓dSet12, ↓dTgN12, ↓dTgW12, ↓dVar13, ↓dAug13, ↓dSet13, ↓dTgN13, ↓dTgW13, ↓dVar14, ↓dAug14, ↓dSet14, ↓dTgN14, ↓dTgW14, ↓dVar15, ↓dAug15, ↓dSet15, ↓dTgN15, ↓dTgW15, ↓dVar16, ↓dAug16, ↓dSet16, ↓dTgN16, ↓dTgW16, ↓dVar17, ↓dAug17, ↓dSet17, ↓dTgN17, ↓dTgW17, ↓dVar18, ↓dAug18, ↓dSet18, ↓dTgN18, ↓dTgW18, ↓dVar19, ↓dAug19, ↓dSet19, ↓dTgN19, ↓dTgW19, ↓dTg_t2, ↓dTg_t3, ↓exGetM, ↓exSumU, nD, plD, rwD, ↓dAdd_tup, ↓dAdd_ref, dSIndex, dInS, dKeysI, dValsI, dItemsI, dMulS, dEqK, dNeK, dClrK, dCntS]
      refine ⟨q, g, k, i, rfl, rfl, rfl, hq9, hg, hk, by omega, fun z => absurd rfl z, fun _ => ⟨r, _, rfl, hr9, ?_⟩⟩
      have yA := y9.put (o := .dK []) hr9 nofun nofun hrM
      have hqA : up M9 r (.dK []) q = some (.dK (gD g)) := by rw [up_ne nrq.symm]; exact hq9
      have hfA : up M9 r (.dK []) f = some (.lst ((fit g s [k]).map D.str)) := by rw [up_ne nrf.symm]; exact hf9
      have hcA : up M9 r (.dK []) c = some (.dK (gpK g (gp g k i))) := by rw [up_ne nrc.symm]; exact hc9
      generalize up M9 r (.dK []) = MA at *
      refine ⟨q, g, k, i, rfl, rfl, rfl, hqA, hg, hk, by omega, fun r2 MB hr2 sB hr2B => ⟨sam_gp hg _ hr2B (sB.1 _ _ hcA), ?_⟩⟩
      simp (config := {failIfUnchanged := false}) only [dC, dOp, dTest, dChain, dAnd, dOr, dNot, dAndV, dOrV, dNotV, dIf, dNil, dCons, dTup, dLst, dCB, d1, dIx, dNoPart, dPart, dSl, dCut, dNeg, dLen, dTupOf, dListOf, dSorted, dSum, dAll, dAny, dInt, dAbs, dMax, dMin, dIsi, isT, dNext, dSeq, dBrk, dCont, dNever, dExpr, dRet, dRetN, dIfS, dAsg, dPutI, dI0, dI, dIsN, dNotN, dSeqI, dRng1, dRng2, dRngDn, dEnumI, dZipI, dYes, dCall, dLM, dAppend, dExtend, dReverse, dInsert, dAugI, dRg1, dRg2, dTupRg, dLstRg, dNewK, dNewT, ↓S0_, ↓S1_, ↓S2_, ↓S3_, ↓S4_, ↓S5_, ↓S6_, List.map_cons, List.map_nil, List.length_cons, List.length_nil, List.replicate, List.cons_append, List.nil_append, Nat.reduceAdd, Nat.reduceSub, Nat.zero_add, List.getElem?_cons_zero, List.getElem?_cons_succ, Option.some.injEq, exists_eq_left, exists_eq_left', List.set_cons_zero, List.set_cons_succ, wipeD, D.int.injEq, D.bl.injEq, D.str.injEq, D.ref.injEq, D.tup.injEq, D.ty.injEq, true_and, and_true, forall_const, forall_eq', forall_eq, mt_int, mt_bool, mt_str, mt_tuple, mt_list, mt_dict, st_int_int, st_int_bool, st_int_str, st_int_tuple, st_int_list, st_int_dict, st_bool_int, st_bool_bool, st_bool_str, st_bool_tuple, st_bool_list, st_bool_dict, st_str_int, st_str_bool, st_str_str, st_str_tuple, st_str_list, st_str_dict, st_tuple_int, st_tuple_bool, st_tuple_str, st_tuple_tuple, st_tuple_list, st_tuple_dict, st_list_int, st_list_bool, st_list_str, st_list_tuple, st_list_list, st_list_dict, st_dict_int, st_dict_bool, st_dict_str, st_dict_tuple, st_dict_list, st_dict_dict, eq_self, Bool.true_eq_false, Bool.false_eq_true, false_implies, true_implies, implies_true, decide_eq_true_eq, decide_eq_false_iff_not, Bool.not_true, Bool.not_false, Bool.not_eq_true, Bool.not_eq_false, Bool.not_eq_true', Bool.not_eq_false', not_true_eq_false, not_false_eq_true, false_and, and_false, or_false, false_or, reduceCtorEq, ↓exLSu, ↓exDKu, ↓exDKd, ↓exLSd, ↓exLu, ↓dIxRu, ↓dPutu, ↓dGetAu, ↓dEq_int, ↓dNe_int, ↓dEq_bl, ↓dNe_bl, ↓dEq_str, ↓dNe_str, ↓dAdd_int, ↓exAt10, ↓exIx10, ↓exAt20, ↓exIx20, ↓exAt21, ↓exIx21, ↓exAt30, ↓exIx30, ↓exAt31, ↓exIx31, ↓exAt32, ↓exIx32, ↓exAt40, ↓exIx40, ↓exAt41, ↓exIx41, ↓exAt42, ↓exIx42, ↓exAt43, ↓exIx43, ↓exAt50, ↓exIx50, ↓exAt51, ↓exIx51, ↓exAt52, ↓exIx52, ↓exAt53, ↓exIx53, ↓exAt54, ↓exIx54, ↓exAt60, ↓exIx60, ↓exAt61, ↓exIx61, ↓exAt62, ↓exIx62, ↓exAt63, ↓exIx63, ↓exAt64, ↓exIx64, ↓exAt65, ↓exIx65, up_up, false_or, or_false, ↓exAtM, ↓dFlag_bl, ↓exBl, ↓exInt, ↓exRef, ↓dVar0, ↓dAug0, ↓dSet0, ↓dTgN0, ↓dTgW0, ↓dVar1, ↓dAug1, ↓dSet1, ↓dTgN1, ↓dTgW1, ↓dVar2, ↓dAug2, ↓dSet2, ↓dTgN2, ↓dTgW2, ↓dVar3, ↓dAug3, ↓dSet3, ↓dTgN3, ↓dTgW3, ↓dVar4, ↓dAug4, ↓dSet4, ↓dTgN4, ↓dTgW4, ↓dVar5, ↓dAug5, ↓dSet5, ↓dTgN5, ↓dTgW5, ↓dVar6, ↓dAug6, ↓dSet6, ↓dTgN6, ↓dTgW6, ↓dVar7, ↓dAug7, ↓dSet7, ↓dTgN7, ↓dTgW7, ↓dVar8, ↓dAug8, ↓dSet8, ↓dTgN8, ↓dTgW8, ↓dVar9, ↓dAug9, ↓dSet9, ↓dTgN9, ↓dTgW9, ↓dVar10, ↓dAug10, ↓dSet10, ↓dTgN10, ↓dTgW10, ↓dVar11, ↓dAug11, ↓dSet11, ↓dTgN11, ↓dTgW11, ↓dVar12, ↓dAug12, ↓dSet12, ↓dTgN12, ↓dTgW12, ↓dVar13, ↓dAug13, ↓dSet13, ↓dTgN13, ↓dTgW13, ↓dVar14, ↓dAug14, ↓dSet14, ↓dTgN14, ↓dTgW14, ↓dVar15, ↓dAug15, ↓dSet15, ↓dTgN15, ↓dTgW15, ↓dVar16, ↓dAug16, ↓dSet16, ↓dTgN16, ↓dTgW16, ↓dVar17, ↓dAug17, ↓dSet17, ↓dTgN17, ↓dTgW17, ↓dVar18, ↓dAug18, ↓dSet18, ↓dTgN18, ↓dTgW18, ↓dVar19, ↓dAug19, ↓dSet19, ↓dTgN19, ↓dTgW19, ↓dTg_t2, ↓dTg_t3, ↓exGetM, ↓exSumU, nD, plD, rwD, ↓dAdd_tup, ↓dAdd_ref, dSIndex, dInS, dKeysI, dValsI, dItemsI, dMulS, dEqK, dNeK, dClrK, dCntS]
      exact ⟨(Up.of_sub sB yA.pool).trans yA, sB.1 _ _ hqA, sB.1 _ _ hfA, sB.1 _ _ hcA, _, _, _, _, rfl⟩
    · rintro δ' M7 ⟨y1, hq7, hf7, hc7, b9, b10, b11, b12, rfl⟩
      simp (config := {failIfUnchanged := false}) only [dC, dOp, dTest, dChain, dAnd, dOr, dNot, dAndV, dOrV, dNotV, dIf, dNil, dCons, dTup, dLst, dCB, d1, dIx, dNoPart, dPart, dSl, dCut, dNeg, dLen, dTupOf, dListOf, dSorted, dSum, dAll, dAny, dInt, dAbs, dMax, dMin, dIsi, isT, dNext, dSeq, dBrk, dCont, dNever, dExpr, dRet, dRetN, dIfS, dAsg, dPutI, dI0, dI, dIsN, dNotN, dSeqI, dRng1, dRng2, dRngDn, dEnumI, dZipI, dYes, dCall, dLM, dAppend, dExtend, dReverse, dInsert, dAugI, dRg1, dRg2, dTupRg, dLstRg, dNewK, dNewT, ↓S0_, ↓S1_, ↓S2_, ↓S3_, ↓S4_, ↓S5_, ↓S6_, List.map_cons, List.map_nil, List.length_cons, List.length_nil, List.replicate, List.cons_append, List.nil_append, Nat.reduceAdd, Nat.reduceSub, Nat.zero_add, List.getElem?_cons_zero, List.getElem?_cons_succ, Option.some.injEq, exists_eq_left, exists_eq_left', List.set_cons_zero, List.set_cons_succ, wipeD, D.int.injEq, D.bl.injEq, D.str.injEq, D.ref.injEq, D.tup.injEq, D.ty.injEq, true_and, and_true, forall_const, forall_eq', forall_eq, mt_int, mt_bool, mt_str, mt_tuple, mt_list, mt_dict, st_int_int, st_int_bool, st_int_str, st_int_tuple, st_int_list, st_int_dict, st_bool_int, st_bool_bool, st_bool_str, st_bool_tuple, st_bool_list, st_bool_dict, st_str_int, st_str_bool, st_str_str, st_str_tuple, st_str_list, st_str_dict, st_tuple_int, st_tuple_bool, st_tuple_str, st_tuple_tuple, st_tuple_list, st_tuple_dict, st_list_int, st_list_bool, st_list_str, st_list_tuple, st_list_list, st_list_dict, st_dict_int, st_dict_bool, st_dict_str, st_dict_tuple, st_dict_list, st_dict_dict, eq_self, Bool.true_eq_false, Bool.false_eq_true, false_implies, true_implies, implies_true, decide_eq_true_eq, decide_eq_false_iff_not, Bool.not_true, Bool.not_false, Bool.not_eq_true, Bool.not_eq_false, Bool.not_eq_true', Bool.not_eq_false', not_true_eq_false, not_false_eq_true, false_and, and_false, or_false, false_or, reduceCtorEq, ↓exLSu, ↓exDKu, ↓exDKd, ↓exLSd, ↓exLu, ↓dIxRu, ↓dPutu, ↓dGetAu, ↓dEq_int, ↓dNe_int, ↓dEq_bl, ↓dNe_bl, ↓dEq_str, ↓dNe_str, ↓dAdd_int, ↓exAt10, ↓exIx10, ↓exAt20, ↓exIx20, ↓exAt21, ↓exIx21, ↓exAt30, ↓exIx30, ↓exAt31, ↓exIx31, ↓exAt32, ↓exIx32, ↓exAt40, ↓exIx40, ↓exAt41, ↓exIx41, ↓exAt42, ↓exIx42, ↓exAt43, ↓exIx43, ↓exAt50, ↓exIx50, ↓exAt51, ↓exIx51, ↓exAt52, ↓exIx52, ↓exAt53, ↓exIx53, ↓exAt54, ↓exIx54, ↓exAt60, ↓exIx60, ↓exAt61, ↓exIx61, ↓exAt62, ↓exIx62, ↓exAt63, ↓exIx63, ↓exAt64, ↓exIx64, ↓exAt65, ↓exIx65, up_up, false_or, or_false, ↓exAtM, ↓dFlag_bl, ↓exBl, ↓exInt, ↓exRef, ↓dVar0, ↓dAug0, ↓dSet0, ↓dTgN0, ↓dTgW0, ↓dVar1, ↓dAug1, ↓dSet1, ↓dTgN1, ↓dTgW1, ↓dVar2, ↓dAug2, ↓dSet2, ↓dTgN2, ↓dTgW2, ↓dVar3, ↓dAug3, ↓dSet3, ↓dTgN3, ↓dTgW3, ↓dVar4, ↓dAug4, ↓dSet4, ↓dTgN4, ↓dTgW4, ↓dVar5, ↓dAug5, ↓dSet5, ↓dTgN5, ↓dTgW5, ↓dVar6, ↓dAug6, ↓dSet6, ↓dTgN6, ↓dTgW6, ↓dVar7, ↓dAug7, ↓dSet7, ↓dTgN7, ↓dTgW7, ↓dVar8, ↓dAug8, ↓dSet8, ↓dTgN8, ↓dTgW8, ↓dVar9, ↓dAug9, ↓dSet9, ↓dTgN9, ↓dTgW9, ↓dVar10, ↓dAug10, ↓dSet10, ↓dTgN10, ↓dTgW10, ↓dVar11, ↓dAug11, ↓dSet11, ↓dTgN11, ↓dTgW11, ↓dVar12, ↓dAug12, ↓dSet12, ↓dTgN12, ↓dTgW12, ↓dVar13, ↓dAug13, ↓dSet13, ↓dTgN13, ↓dTgW13, ↓dVar14, ↓dAug14, ↓dSet14, ↓dTgN14, ↓dTgW14, ↓dVar15, ↓dAug15, ↓dSet15, ↓dTgN15, ↓dTgW15, ↓dVar16, ↓dAug16, ↓dSet16, ↓dTgN16, ↓dTgW16, ↓dVar17, ↓dAug17, ↓dSet17, ↓dTgN17, ↓dTgW17, ↓dVar18, ↓dAug18, ↓dSet18, ↓dTgN18, ↓dTgW18, ↓dVar19, ↓dAug19, ↓dSet19, ↓dTgN19, ↓dTgW19, ↓dTg_t2, ↓dTg_t3, ↓exGetM, ↓exSumU, nD, plD, rwD, ↓dAdd_tup, ↓dAdd_ref, dSIndex, dInS, dKeysI, dValsI, dItemsI, dMulS, dEqK, dNeK, dClrK, dCntS]
      refine lock_lc (fun e => nD (gp g k i e.1)) rfl hq7 hkl g12 (fun e he Mz od ws hz hn R hR => ?_) fun l hl' => ?_
      · simp (config := {failIfUnchanged := false}) only [dC, dOp, dTest, dChain, dAnd, dOr, dNot, dAndV, dOrV, dNotV, dIf, dNil, dCons, dTup, dLst, dCB, d1, dIx, dNoPart, dPart, dSl, dCut, dNeg, dLen, dTupOf, dListOf, dSorted, dSum, dAll, dAny, dInt, dAbs, dMax, dMin, dIsi, isT, dNext, dSeq, dBrk, dCont, dNever, dExpr, dRet, dRetN, dIfS, dAsg, dPutI, dI0, dI, dIsN, dNotN, dSeqI, dRng1, dRng2, dRngDn, dEnumI, dZipI, dYes, dCall, dLM, dAppend, dExtend, dReverse, dInsert, dAugI, dRg1, dRg2, dTupRg, dLstRg, dNewK, dNewT, ↓S0_, ↓S1_, ↓S2_, ↓S3_, ↓S4_, ↓S5_, ↓S6_, List.map_cons, List.map_nil, List.length_cons, List.length_nil, List.replicate, List.cons_append, List.nil_append, Nat.reduceAdd, Nat.reduceSub, Nat.zero_add, List.getElem?_cons_zero, List.getElem?_cons_succ, Option.some.injEq, exists_eq_left, exists_eq_left', List.set_cons_zero, List.set_cons_succ, wipeD, D.int.injEq, D.bl.injEq, D.str.injEq, D.ref.injEq, D.tup.injEq, D.ty.injEq, true_and, and_true, forall_const, forall_eq', forall_eq, mt_int, mt_bool, mt_str, mt_tuple, mt_list, mt_dict, st_int_int, st_int_bool, st_int_str, st_int_tuple, st_int_list, st_int_dict, st_bool_int, st_bool_bool, st_bool_str, st_bool_tuple, st_bool_list, st_bool_dict, st_str_int, st_str_bool, st_str_str, st_str_tuple, st_str_list, st_str_dict, st_tuple_int, st_tuple_bool, st_tuple_str, st_tuple_tuple, st_tuple_list, st_tuple_dict, st_list_int, st_list_bool, st_list_str, st_list_tuple, st_list_list, st_list_dict, st_dict_int, st_dict_bool, st_dict_str, st_dict_tuple, st_dict_list, st_dict_dict, eq_self, Bool.true_eq_false, Bool.false_eq_true, false_implies, true_implies, implies_true, decide_eq_true_eq, decide_eq_false_iff_not, Bool.not_true, Bool.not_false, Bool.not_eq_true, Bool.not_eq_false, Bool.not_eq_true', Bool.not_eq_false', not_true_eq_false, not_false_eq_true, false_and, and_false, or_false, false_or, reduceCtorEq, ↓exLSu, ↓exDKu, ↓exDKd, ↓exLSd, ↓exLu, ↓dIxRu, ↓dPutu, ↓dGetAu, ↓dEq_int, ↓dNe_int, ↓dEq_bl, ↓dNe_bl, ↓dEq_str, ↓dNe_str, ↓dAdd_int, ↓exAt10, ↓exIx10, ↓exAt20, ↓exIx20, ↓exAt21, ↓exIx21, ↓exAt30, ↓exIx30, ↓exAt31, ↓exIx31, ↓exAt32, ↓exIx32, ↓exAt40, ↓exIx40, ↓exAt41, ↓exIx41, ↓exAt42, ↓exIx42, ↓exAt43, ↓exIx43, ↓exAt50, ↓exIx50, ↓exAt51, ↓exIx51, ↓exAt52, ↓exIx52, ↓exAt53, ↓exIx53, ↓exAt54, ↓exIx54, ↓exAt60, ↓exIx60, ↓exAt61, ↓exIx61, ↓exAt62, ↓exIx62, ↓exAt63, ↓exIx63, ↓exAt64, ↓exIx64, ↓exAt65, ↓exIx65, up_up, false_or, or_false, ↓exAtM, ↓dFlag_bl, ↓exBl, ↓exInt, ↓exRef, ↓dVar0, ↓dAug0, ↓dSet0, ↓dTgN0, ↓dTgW0, ↓dVar1, ↓dAug1, ↓dSet1, ↓dTgN1, ↓dTgW1, ↓dVar2, ↓dAug2, ↓dSet2, ↓dTgN2, ↓dTgW2, ↓dVar3, ↓dAug3, ↓dSet3, ↓dTgN3, ↓dTgW3, ↓dVar4, ↓dAug4, ↓dSet4, ↓dTgN4, ↓dTgW4, ↓dVar5, ↓dAug5, ↓dSet5, ↓dTgN5, ↓dTgW5, ↓dVar6, ↓dAug6, ↓dSet6, ↓dTgN6, ↓dTgW6, ↓dVar7, ↓dAug7, ↓dSet7, ↓dTgN7, ↓dTgW7, ↓dVar8, ↓dAug8, ↓dSet8, ↓dTgN8, ↓dTgW8, ↓dVar9, ↓dAug9, ↓dSet9, ↓dTgN9, ↓dTgW9, ↓dVar10, ↓dAug10, ↓dSet10, ↓dTgN10, ↓dTgW10, ↓dVar11, ↓dAug11, ↓dSet11, ↓dTgN11, ↓dTgW11, ↓dVar12, ↓dAug12, ↓dSet12, ↓dTgN12, ↓dTgW12, ↓dVar13, ↓dAug13, ↓dSet13, ↓dTgN13, ↓dTgW13, ↓dVar14, ↓dAug14, ↓dSet14, ↓dTgN14, ↓dTgW14, ↓dVar15, ↓dAug15, ↓dSet15, ↓dTgN15, ↓dTgW15, ↓dVar16, ↓dAug16, ↓dSet16, ↓dTgN16, ↓dTgW16, ↓dVar17, ↓dAug17, ↓dSet17, ↓dTgN17, ↓dTgW17, ↓dVar18, ↓dAug18, ↓dSet18, ↓dTgN18, ↓dTgW18, ↓dVar19, ↓dAug19, ↓dSet19, ↓dTgN19, ↓dTgW19, ↓dTg_t2, ↓dTg_t3, ↓exGetM, ↓exSumU, nD, plD, rwD, ↓dAdd_tup, ↓dAdd_ref, dSIndex, dInS, dKeysI, dValsI, dItemsI, dMulS, dEqK, dNeK, dClrK, dCntS]
        exact .inr (.inl ⟨_, .inr e.1, _, rfl, .inl (by rw [hn _ ncq]; exact hc7), val_gp hg _ (List.mem_map.mpr ⟨e, he, rfl⟩), hR⟩)
      refine ⟨(g.map fun e => gp g k i e.1).map fun n : Nat => (n : Int), LS_up.mpr (by rw [nD_ints, List.map_map]; rfl), ?_⟩
      rw [sumN, ← Int.natCast_add, ← nd_gp hg hk i]
      have y2 := (Up.new (o := .lst (g.map fun e => nD (gp g k i e.1))) y1.pool hl' (by intro _ z; cases z))
      have hq8 := y2.keep _ _ hq7 nofun
      have hf8 := y2.keep _ _ hf7 nofun
      have hc8 := y2.keep _ _ hc7 nofun
      replace y2 := y2.trans y1
      generalize up M7 l (.lst (g.map fun e => nD (gp g k i e.1))) = M8 at *
      clear hl'
      refine lock_lc (fun e => D.tup [D.str e.1, nD 0]) rfl hq8 hkl g12 (fun e he Mz od ws hz hn R hR => ?_) fun l hl' => ?_
      · simp (config := {failIfUnchanged := false}) only [dC, dOp, dTest, dChain, dAnd, dOr, dNot, dAndV, dOrV, dNotV, dIf, dNil, dCons, dTup, dLst, dCB, d1, dIx, dNoPart, dPart, dSl, dCut, dNeg, dLen, dTupOf, dListOf, dSorted, dSum, dAll, dAny, dInt, dAbs, dMax, dMin, dIsi, isT, dNext, dSeq, dBrk, dCont, dNever, dExpr, dRet, dRetN, dIfS, dAsg, dPutI, dI0, dI, dIsN, dNotN, dSeqI, dRng1, dRng2, dRngDn, dEnumI, dZipI, dYes, dCall, dLM, dAppend, dExtend, dReverse, dInsert, dAugI, dRg1, dRg2, dTupRg, dLstRg, dNewK, dNewT, ↓S0_, ↓S1_, ↓S2_, ↓S3_, ↓S4_, ↓S5_, ↓S6_, List.map_cons, List.map_nil, List.length_cons, List.length_nil, List.replicate, List.cons_append, List.nil_append, Nat.reduceAdd, Nat.reduceSub, Nat.zero_add, List.getElem?_cons_zero, List.getElem?_cons_succ, Option.some.injEq, exists_eq_left, exists_eq_left', List.set_cons_zero, List.set_cons_succ, wipeD, D.int.injEq, D.bl.injEq, D.str.injEq, D.ref.injEq, D.tup.injEq, D.ty.injEq, true_and, and_true, forall_const, forall_eq', forall_eq, mt_int, mt_bool, mt_str, mt_tuple, mt_list, mt_dict, st_int_int, st_int_bool, st_int_str, st_int_tuple, st_int_list, st_int_dict, st_bool_int, st_bool_bool, st_bool_str, st_bool_tuple, st_bool_list, st_bool_dict, st_str_int, st_str_bool, st_str_str, st_str_tuple, st_str_list, st_str_dict, st_tuple_int, st_tuple_bool, st_tuple_str, st_tuple_tuple, st_tuple_list, st_tuple_dict, st_list_int, st_list_bool, st_list_str, st_list_tuple, st_list_list, st_list_dict, st_dict_int, st_dict_bool, st_dict_str, st_dict_tuple, st_dict_list, st_dict_dict, eq_self, Bool.true_eq_false, Bool.false_eq_true, false_implies, true_implies, implies_true, decide_eq_true_eq, decide_eq_false_iff_not, Bool.not_true, Bool.not_false, Bool.not_eq_true, Bool.not_eq_false, Bool.not_eq_true', Bool.not_eq_false', not_true_eq_false, not_false_eq_true, false_and, and_false, or_false, false_or, reduceCtorEq, ↓exLSu, ↓exDKu, ↓exDKd, ↓exLSd, ↓exLu, ↓dIxRu, ↓dPutu, ↓dGetAu, ↓dEq_int, ↓dNe_int, ↓dEq_bl, ↓dNe_bl, ↓dEq_str, ↓dNe_str, ↓dAdd_int, ↓exAt10, ↓exIx10, ↓exAt20, ↓exIx20, ↓exAt21, ↓exIx21, ↓exAt30, ↓exIx30, ↓exAt31, ↓exIx31, ↓exAt32, ↓exIx32, ↓exAt40, ↓exIx40, ↓exAt41, ↓exIx41, ↓exAt42, ↓exIx42, ↓exAt43, ↓exIx43, ↓exAt50, ↓exIx50, ↓exAt51, ↓exIx51, ↓exAt52, ↓exIx52, ↓exAt53, ↓exIx53, ↓exAt54, ↓exIx54, ↓exAt60, ↓exIx60, ↓exAt61, ↓exIx61, ↓exAt62, ↓exIx62, ↓exAt63, ↓exIx63, ↓exAt64, ↓exIx64, ↓exAt65, ↓exIx65, up_up, false_or, or_false, ↓exAtM, ↓dFlag_bl, ↓exBl, ↓exInt, ↓exRef, ↓dVar0, ↓dAug0, ↓dSet0, ↓dTgN0, ↓dTgW0, ↓dVar1, ↓dAug1, ↓dSet1, ↓dTgN1, ↓dTgW1, ↓dVar2, ↓dAug2, ↓dSet2, ↓dTgN2, ↓dTgW2, ↓dVar3, ↓dAug3, ↓dSet3, ↓dTgN3, ↓dTgW3, ↓dVar4, ↓dAug4, ↓dSet4, ↓dTgN4, ↓dTgW4, ↓dVar5, ↓dAug5, ↓dSet5, ↓dTgN5, ↓dTgW5, ↓dVar6, ↓dAug6, ↓dSet6, ↓dTgN6, ↓dTgW6, ↓dVar7, ↓dAug7, ↓dSet7, ↓dTgN7, ↓dTgW7, ↓dVar8, ↓dAug8, ↓dSet8, ↓dTgN8, ↓dTgW8, ↓dVar9, ↓dAug9, ↓dSet9, ↓dTgN9, ↓dTgW9, ↓dVar10, ↓dAug10, ↓dSet10, ↓dTgN10, ↓dTgW10, ↓dVar11, ↓dAug11, ↓dSet11, ↓dTgN11, ↓dTgW11, ↓dVar12, ↓dAug12, ↓dSet12, ↓dTgN12, ↓dTgW12, ↓dVar13, ↓dAug13, ↓dSet13, ↓dTgN13, ↓dTgW13, ↓dVar14, ↓dAug14, ↓dSet14, ↓dTgN14, ↓dTgW14, ↓dVar15, ↓dAug15, ↓dSet15, ↓dTgN15, ↓dTgW15, ↓dVar16, ↓dAug16, ↓dSet16, ↓dTgN16, ↓dTgW16, ↓dVar17, ↓dAug17, ↓dSet17, ↓dTgN17, ↓dTgW17, ↓dVar18, ↓dAug18, ↓dSet18, ↓dTgN18, ↓dTgW18, ↓dVar19, ↓dAug19, ↓dSet19, ↓dTgN19, ↓dTgW19, ↓dTg_t2, ↓dTg_t3, ↓exGetM, ↓exSumU, nD, plD, rwD, ↓dAdd_tup, ↓dAdd_ref, dSIndex, dInS, dKeysI, dValsI, dItemsI, dMulS, dEqK, dNeK, dClrK, dCntS]
        exact hR
      have y3 := (Up.new (o := .lst (g.map fun e => D.tup [D.str e.1, nD 0])) y2.pool hl' (by intro _ z; cases z))
      refine ⟨l, rfl, .inl ⟨gpK g (fun _ => 0), LS_up.mpr (pairs _).symm, fun r hr => ?_⟩⟩
      rw [merge_gp hg]
      have y4 := (Up.new (o := .dK (gpK g (fun _ => 0))) y3.pool hr (by intro _ z; cases z)).trans y3
      have nrq : r ≠ q := by rintro rfl; rw [y3.keep _ _ hq8 nofun] at hr; cases hr
      have nrc : r ≠ c := by rintro rfl; rw [y3.keep _ _ hc8 nofun] at hr; cases hr
      have nrf : r ≠ f := by rintro rfl; rw [y3.keep _ _ hf8 nofun] at hr; cases hr
      have hrM : M0 r = none := y2.free _ (y3.free _ hr)
      have hq9 := y4.keep _ _ hq8 nofun
      have hf9 := y4.keep _ _ hf8 nofun
      have hc9 := y4.keep _ _ hc8 nofun
      have hr9 : up (up M8 l (.lst (g.map fun e => D.tup [D.str e.1, nD 0]))) r (.dK (gpK g (fun _ => 0))) r = some (.dK (gpK g (fun _ => 0))) := up_same
      replace y4 := y4.trans y2
      generalize up (up M8 l (.lst (g.map fun e => D.tup [D.str e.1, nD 0]))) r (.dK (gpK g (fun _ => 0))) = M9 at *
      clear hl' hr y3
      refine ⟨q, gD g, hq9, fun od ws => ?_⟩
      have wz : up M9 q (.dKz (gD g) od ws) q = some (.dKz (gD g) od ws) := up_same
      have wzf : up M9 q (.dKz (gD g) od ws) r = some (.dK (gpK g fun _ => 0)) := by rw [up_ne nrq]; exact hr9
      have wq : up M9 q (.dKz (gD g) od ws) c = some (.dK (gpK g (gp g k i))) := by rw [up_ne ncq]; exact hc9
      have wb : ∀ o, up (up (up M9 q (.dKz (gD g) od ws)) r o) q (.dK (gD g)) = up M9 r o := fun o => by rw [up_comm nrq, up_up, up_self hq9]
      generalize up M9 q (.dKz (gD g) od ws) = W at *
      have wz2 : ∀ o, up W r o q = some (.dKz (gD g) od ws) := fun o => by rw [up_ne nrq.symm]; exact wz
      have wq2 : ∀ o, up W r o c = some (.dK (gpK g (gp g k i))) := fun o => by rw [up_ne nrc.symm]; exact wq
      refine dFor_g fun F4 T4 h4 t4 => ?_; simp only [dFor, dC, dOp, dTest, dChain, dAnd, dOr, dNot, dAndV, dOrV, dNotV, dIf, dNil, dCons, dTup, dLst, dCB, d1, dIx, dNoPart, dPart, dSl, dCut, dNeg, dLen, dTupOf, dListOf, dSorted, dSum, dAll, dAny, dInt, dAbs, dMax, dMin, dIsi, isT, dNext, dSeq, dBrk, dCont, dNever, dExpr, dRet, dRetN, dIfS, dAsg, dPutI, dI0, dI, dIsN, dNotN, dSeqI, dRng1, dRng2, dRngDn, dEnumI, dZipI, dYes, dCall, dLM, dAppend, dExtend, dReverse, dInsert, dAugI, dRg1, dRg2, dTupRg, dLstRg, dNewK, dNewT, ↓S0_, ↓S1_, ↓S2_, ↓S3_, ↓S4_, ↓S5_, ↓S6_, List.map_cons, List.map_nil, List.length_cons, List.length_nil, List.replicate, List.cons_append, List.nil_append, Nat.reduceAdd, Nat.reduceSub, Nat.zero_add, List.getElem?_cons_zero, List.getElem?_cons_succ, Option.some.injEq, exists_eq_left, exists_eq_left', List.set_cons_zero, List.set_cons_succ, wipeD, D.int.injEq, D.bl.injEq, D.str.injEq, D.ref.injEq, D.tup.injEq, D.ty.injEq, true_and, and_true, forall_const, forall_eq', forall_eq, mt_int, mt_bool, mt_str, mt_tuple, mt_list, mt_dict, st_int_int, st_int_bool, st_int_str, st_int_tuple, st_int_list, st_int_dict, st_bool_int, st_bool_bool, st_bool_str, st_bool_tuple, st_bool_list, st_bool_dict, st_str_int, st_str_bool, st_str_str, st_str_tuple, st_str_list, st_str_dict, st_tuple_int, st_tuple_bool, st_tuple_str, st_tuple_tuple, st_tuple_list, st_tuple_dict, st_list_int, st_list_bool, st_list_str, st_list_tuple, st_list_list, st_list_dict, st_dict_int, st_dict_bool, st_dict_str, st_dict_tuple, st_dict_list, st_dict_dict, eq_self, Bool.true_eq_false, Bool.false_eq_true, false_implies, true_implies, implies_true, decide_eq_true_eq, decide_eq_false_iff_not, Bool.not_true, Bool.not_false, Bool.not_eq_true, Bool.not_eq_false, Bool.not_eq_true', Bool.not_eq_false', not_true_eq_false, not_false_eq_true, false_and, and_false, or_false, false_or, reduceCtorEq, ↓exLSu, ↓exDKu, ↓exDKd, ↓exLSd, ↓exLu, ↓dIxRu, ↓dPutu, ↓dGetAu, ↓dEq_int, ↓dNe_int, ↓dEq_bl, ↓dNe_bl, ↓dEq_str, ↓dNe_str, ↓dAdd_int, ↓exAt10, ↓exIx10, ↓exAt20, ↓exIx20, ↓exAt21, ↓exIx21, ↓exAt30, ↓exIx30, ↓exAt31, ↓exIx31, ↓exAt32, ↓exIx32, ↓exAt40, ↓exIx40, ↓exAt41, ↓exIx41, ↓exAt42, ↓exIx42, ↓exAt43, ↓exIx43, ↓exAt50, ↓exIx50, ↓exAt51, ↓exIx51, ↓exAt52, ↓exIx52, ↓exAt53, ↓exIx53, ↓exAt54, ↓exIx54, ↓exAt60, ↓exIx60, ↓exAt61, ↓exIx61, ↓exAt62, ↓exIx62, ↓exAt63, ↓exIx63, ↓exAt64, ↓exIx64, ↓exAt65, ↓exIx65, up_up, false_or, or_false, ↓exAtM, ↓dFlag_bl, ↓exBl, ↓exInt, ↓exRef, ↓dVar0, ↓dAug0, ↓dSet0, ↓dTgN0, ↓dTgW0, ↓dVar1, ↓dAug1, ↓dSet1, ↓dTgN1, ↓dTgW1, ↓dVar2, ↓dAug2, ↓dSet2, ↓dTgN2, ↓dTgW2, ↓dVar3, ↓dAug3, ↓dSet3, ↓dTgN3, ↓dTgW3, ↓dVar4, ↓dAug4, ↓dSet4, ↓dTgN4, ↓dTgW4, ↓dVar5, ↓dAug5, ↓dSet5, ↓dTgN5, ↓dTgW5, ↓dVar6, ↓dAug6, ↓dSet6, ↓dTgN6, ↓dTgW6, ↓dVar7, ↓dAug7, ↓dSet7, ↓dTgN7, ↓dTgW7, ↓dVar8, ↓dAug8, ↓dSet8, ↓dTgN8, ↓dTgW8, ↓dVar9, ↓dAug9, ↓dSet9, ↓dTgN9, ↓dTgW9, ↓dVar10, ↓dAug10, ↓dSet10, ↓dTgN10, ↓dTgW10, ↓dVar11, ↓dAug11, ↓dSet11, ↓dTgN11, ↓dTgW11, ↓dVar12, ↓dAug12, ↓dSet12, ↓dTgN12, ↓dTgW12, ↓dVar13, ↓dAug13, ↓dSet13, ↓dTgN13, ↓dTgW13, ↓dVar14, ↓dAug14, ↓dSet14, ↓dTgN14, ↓dTgW14, ↓dVar15, ↓dAug15, ↓dSet15, ↓dTgN15, ↓dTgW15, ↓dVar16, ↓dAug16, ↓dSet16, ↓dTgN16, ↓dTgW16, ↓dVar17, ↓dAug17, ↓dSet17, ↓dTgN17, ↓dTgW17, ↓dVar18, ↓dAug18, ↓dSet18, ↓dTgN18, ↓dTgW18, ↓dVar19, ↓dAug19, ↓dSet19, ↓dTgN19, ↓dTgW19, ↓dTg_t2, ↓dTg_t3, ↓exGetM, ↓exSumU, nD, plD, rwD, ↓dAdd_tup, ↓dAdd_ref, dSIndex, dInS, dKeysI, dValsI, dItemsI, dMulS, dEqK, dNeK, dClrK, dCntS]
      simp (config := {failIfUnchanged := false}) only [dC, dOp, dTest, dChain, dAnd, dOr, dNot, dAndV, dOrV, dNotV, dIf, dNil, dCons, dTup, dLst, dCB, d1, dIx, dNoPart, dPart, dSl, dCut, dNeg, dLen, dTupOf, dListOf, dSorted, dSum, dAll, dAny, dInt, dAbs, dMax, dMin, dIsi, isT, dNext, dSeq, dBrk, dCont, dNever, dExpr, dRet, dRetN, dIfS, dAsg, dPutI, dI0, dI, dIsN, dNotN, dSeqI, dRng1, dRng2, dRngDn, dEnumI, dZipI, dYes, dCall, dLM, dAppend, dExtend, dReverse, dInsert, dAugI, dRg1, dRg2, dTupRg, dLstRg, dNewK, dNewT, ↓S0_, ↓S1_, ↓S2_, ↓S3_, ↓S4_, ↓S5_, ↓S6_, List.map_cons, List.map_nil, List.length_cons, List.length_nil, List.replicate, List.cons_append, List.nil_append, Nat.reduceAdd, Nat.reduceSub, Nat.zero_add, List.getElem?_cons_zero, List.getElem?_cons_succ, Option.some.injEq, exists_eq_left, exists_eq_left', List.set_cons_zero, List.set_cons_succ, wipeD, D.int.injEq, D.bl.injEq, D.str.injEq, D.ref.injEq, D.tup.injEq, D.ty.injEq, true_and, and_true, forall_const, forall_eq', forall_eq, mt_int, mt_bool, mt_str, mt_tuple, mt_list, mt_dict, st_int_int, st_int_bool, st_int_str, st_int_tuple, st_int_list, st_int_dict, st_bool_int, st_bool_bool, st_bool_str, st_bool_tuple, st_bool_list, st_bool_dict, st_str_int, st_str_bool, st_str_str, st_str_tuple, st_str_list, st_str_dict, st_tuple_int, st_tuple_bool, st_tuple_str, st_tuple_tuple, st_tuple_list, st_tuple_dict, st_list_int, st_list_bool, st_list_str, st_list_tuple, st_list_list, st_list_dict, st_dict_int, st_dict_bool, st_dict_str, st_dict_tuple, st_dict_list, st_dict_dict, eq_self, Bool.true_eq_false, Bool.false_eq_true, false_implies, true_implies, implies_true, decide_eq_true_eq, decide_eq_false_iff_not, Bool.not_true, Bool.not_false, Bool.not_eq_true, Bool.not_eq_false, Bool.not_eq_true', Bool.not_eq_false', not_true_eq_false, not_false_eq_true, false_and, and_false, or_false, false_or, reduceCtorEq, ↓exLSu, ↓exDKu, ↓exDKd, ↓exLSd, ↓exLu, ↓dIxRu, ↓dPutu, ↓dGetAu, ↓dEq_int, ↓dNe_int, ↓dEq_bl, ↓dNe_bl, ↓dEq_str, ↓dNe_str, ↓dAdd_int, ↓exAt10, ↓exIx10, ↓exAt20, ↓exIx20, ↓exAt21, ↓exIx21, ↓exAt30, ↓exIx30, ↓exAt31, ↓exIx31, ↓exAt32, ↓exIx32, ↓exAt40, ↓exIx40, ↓exAt41, ↓exIx41, ↓exAt42, ↓exIx42, ↓exAt43, ↓exIx43, ↓exAt50, ↓exIx50, ↓exAt51, ↓exIx51, ↓exAt52, ↓exIx52, ↓exAt53, ↓exIx53, ↓exAt54, ↓exIx54, ↓exAt60, ↓exIx60, ↓exAt61, ↓exIx61, ↓exAt62, ↓exIx62, ↓exAt63, ↓exIx63, ↓exAt64, ↓exIx64, ↓exAt65, ↓exIx65, up_up, false_or, or_false, ↓exAtM, ↓dFlag_bl, ↓exBl, ↓exInt, ↓exRef, ↓dVar0, ↓dAug0, ↓dSet0, ↓dTgN0, ↓dTgW0, ↓dVar1, ↓dAug1, ↓dSet1, ↓dTgN1, ↓dTgW1, ↓dVar2, ↓dAug2, ↓dSet2, ↓dTgN2, ↓dTgW2, ↓dVar3, ↓dAug3, ↓dSet3, ↓dTgN3, ↓dTgW3, ↓dVar4, ↓dAug4, ↓dSet4, ↓dTgN4, ↓dTgW4, ↓dVar5, ↓dAug5, ↓dSet5, ↓dTgN5, ↓dTgW5, ↓dVar6, ↓dAug6, ↓dSet6, ↓dTgN6, ↓dTgW6, ↓dVar7, ↓dAug7, ↓dSet7, ↓dTgN7, ↓dTgW7, ↓dVar8, ↓dAug8, ↓dSet8, ↓dTgN8, ↓dTgW8, ↓dVar9, ↓dAug9, ↓dSet9, ↓dTgN9, ↓dTgW9, ↓dVar10, ↓dAug10, ↓dSet10, ↓dTgN10, ↓dTgW10, ↓dVar11, ↓dAug11, ↓dSet11, ↓dTgN11, ↓dTgW11, ↓dVar12, ↓dAug12, ↓dSet12, ↓dTgN12, ↓dTgW12, ↓dVar13, ↓dAug13, ↓dSet13, ↓dTgN13, ↓dTgW13, ↓dVar14, ↓dAug14, ↓dSet14, ↓dTgN14, ↓dTgW14, ↓dVar15, ↓dAug15, ↓dSet15, ↓dTgN15, ↓dTgW15, ↓dVar16, ↓dAug16, ↓dSet16, ↓dTgN16, ↓dTgW16, ↓dVar17, ↓dAug17, ↓dSet17, ↓dTgN17, ↓dTgW17, ↓dVar18, ↓dAug18, ↓dSet18, ↓dTgN18, ↓dTgW18, ↓dVar19, ↓dAug19, ↓dSet19, ↓dTgN19, ↓dTgW19, ↓dTg_t2, ↓dTg_t3, ↓exGetM, ↓exSumU, nD, plD, rwD, ↓dAdd_tup, ↓dAdd_ref, dSIndex, dInS, dKeysI, dValsI, dItemsI, dMulS, dEqK, dNeK, dClrK, dCntS]
      refine ⟨gD g, od, ws, wz, forL (fun e : Str × List Str => D.str e.1) g (fun l δ M' => M' = up W r (.dK (gpK g (gl l (gp g k i)))) ∧ ∃ b10 b11 b12 : Option D, δ = [some x, some y, some (.ref q), some (.str k), some (.ref f), some (.ref c), some (nD (nd_ g (i + 1) k)), some (nD L), some (nD i), some (.ref r), b10, b11, b12]) hkl ⟨(up_self wzf).symm, _, _, _, rfl⟩ ?_ ?_⟩
      · rintro l e tt δ' _ pre2 P2 ee ⟨rfl, b10, b11, b12, rfl⟩ hP2
        have he : e ∈ g := by rw [ee]; simp
        obtain ⟨e4, eo⟩ := hg.left e he
        have hm1 : e.1 ∈ g.map (·.1) := List.mem_map.mpr ⟨e, he, rfl⟩
        refine ⟨wz2 _, ?_⟩
        subst t4
        simp (config := {failIfUnchanged := false}) only [dC, dOp, dTest, dChain, dAnd, dOr, dNot, dAndV, dOrV, dNotV, dIf, dNil, dCons, dTup, dLst, dCB, d1, dIx, dNoPart, dPart, dSl, dCut, dNeg, dLen, dTupOf, dListOf, dSorted, dSum, dAll, dAny, dInt, dAbs, dMax, dMin, dIsi, isT, dNext, dSeq, dBrk, dCont, dNever, dExpr, dRet, dRetN, dIfS, dAsg, dPutI, dI0, dI, dIsN, dNotN, dSeqI, dRng1, dRng2, dRngDn, dEnumI, dZipI, dYes, dCall, dLM, dAppend, dExtend, dReverse, dInsert, dAugI, dRg1, dRg2, dTupRg, dLstRg, dNewK, dNewT, ↓S0_, ↓S1_, ↓S2_, ↓S3_, ↓S4_, ↓S5_, ↓S6_, List.map_cons, List.map_nil, List.length_cons, List.length_nil, List.replicate, List.cons_append, List.nil_append, Nat.reduceAdd, Nat.reduceSub, Nat.zero_add, List.getElem?_cons_zero, List.getElem?_cons_succ, Option.some.injEq, exists_eq_left, exists_eq_left', List.set_cons_zero, List.set_cons_succ, wipeD, D.int.injEq, D.bl.injEq, D.str.injEq, D.ref.injEq, D.tup.injEq, D.ty.injEq, true_and, and_true, forall_const, forall_eq', forall_eq, mt_int, mt_bool, mt_str, mt_tuple, mt_list, mt_dict, st_int_int, st_int_bool, st_int_str, st_int_tuple, st_int_list, st_int_dict, st_bool_int, st_bool_bool, st_bool_str, st_bool_tuple, st_bool_list, st_bool_dict, st_str_int, st_str_bool, st_str_str, st_str_tuple, st_str_list, st_str_dict, st_tuple_int, st_tuple_bool, st_tuple_str, st_tuple_tuple, st_tuple_list, st_tuple_dict, st_list_int, st_list_bool, st_list_str, st_list_tuple, st_list_list, st_list_dict, st_dict_int, st_dict_bool, st_dict_str, st_dict_tuple, st_dict_list, st_dict_dict, eq_self, Bool.true_eq_false, Bool.false_eq_true, false_implies, true_implies, implies_true, decide_eq_true_eq, decide_eq_false_iff_not, Bool.not_true, Bool.not_false, Bool.not_eq_true, Bool.not_eq_false, Bool.not_eq_true', Bool.not_eq_false', not_true_eq_false, not_false_eq_true, false_and, and_false, or_false, false_or, reduceCtorEq, ↓exLSu, ↓exDKu, ↓exDKd, ↓exLSd, ↓exLu, ↓dIxRu, ↓dPutu, ↓dGetAu, ↓dEq_int, ↓dNe_int, ↓dEq_bl, ↓dNe_bl, ↓dEq_str, ↓dNe_str, ↓dAdd_int, ↓exAt10, ↓exIx10, ↓exAt20, ↓exIx20, ↓exAt21, ↓exIx21, ↓exAt30, ↓exIx30, ↓exAt31, ↓exIx31, ↓exAt32, ↓exIx32, ↓exAt40, ↓exIx40, ↓exAt41, ↓exIx41, ↓exAt42, ↓exIx42, ↓exAt43, ↓exIx43, ↓exAt50, ↓exIx50, ↓exAt51, ↓exIx51, ↓exAt52, ↓exIx52, ↓exAt53, ↓exIx53, ↓exAt54, ↓exIx54, ↓exAt60, ↓exIx60, ↓exAt61, ↓exIx61, ↓exAt62, ↓exIx62, ↓exAt63, ↓exIx63, ↓exAt64, ↓exIx64, ↓exAt65, ↓exIx65, up_up, false_or, or_false, ↓exAtM, ↓dFlag_bl, ↓exBl, ↓exInt, ↓exRef, ↓dVar0, ↓dAug0, ↓dSet0, ↓dTgN0, ↓dTgW0, ↓dVar1, ↓dAug1, ↓dSet1, ↓dTgN1, ↓dTgW1, ↓dVar2, ↓dAug2, ↓dSet2, ↓dTgN2, ↓dTgW2, ↓dVar3, ↓dAug3, ↓dSet3, ↓dTgN3, ↓dTgW3, ↓dVar4, ↓dAug4, ↓dSet4, ↓dTgN4, ↓dTgW4, ↓dVar5, ↓dAug5, ↓dSet5, ↓dTgN5, ↓dTgW5, ↓dVar6, ↓dAug6, ↓dSet6, ↓dTgN6, ↓dTgW6, ↓dVar7, ↓dAug7, ↓dSet7, ↓dTgN7, ↓dTgW7, ↓dVar8, ↓dAug8, ↓dSet8, ↓dTgN8, ↓dTgW8, ↓dVar9, ↓dAug9, ↓dSet9, ↓dTgN9, ↓dTgW9, ↓dVar10, ↓dAug10, ↓dSet10, ↓dTgN10, ↓dTgW10, ↓dVar11, ↓dAug11, ↓dSet11, ↓dTgN11, ↓dTgW11, ↓dVar12, ↓dAug12, ↓dSet12, ↓dTgN12, ↓dTgW12, ↓dVar13, ↓dAug13, ↓dSet13, ↓dTgN13, ↓dTgW13, ↓dVar14, ↓dAug14, ↓dSet14, ↓dTgN14, ↓dTgW14, ↓dVar15, ↓dAug15, ↓dSet15, ↓dTgN15, ↓dTgW15, ↓dVar16, ↓dAug16, ↓dSet16, ↓dTgN16, ↓dTgW16, ↓dVar17, ↓dAug17, ↓dSet17, ↓dTgN17, ↓dTgW17, ↓dVar18, ↓dAug18, ↓dSet18, ↓dTgN18, ↓dTgW18, ↓dVar19, ↓dAug19, ↓dSet19, ↓dTgN19, ↓dTgW19, ↓dTg_t2, ↓dTg_t3, ↓exGetM, ↓exSumU, nD, plD, rwD, ↓dAdd_tup, ↓dAdd_ref, dSIndex, dInS, dKeysI, dValsI, dItemsI, dMulS, dEqK, dNeK, dClrK, dCntS]
        refine dFor_g fun F5 T5 h5 t5 => ?_; simp only [dFor, dC, dOp, dTest, dChain, dAnd, dOr, dNot, dAndV, dOrV, dNotV, dIf, dNil, dCons, dTup, dLst, dCB, d1, dIx, dNoPart, dPart, dSl, dCut, dNeg, dLen, dTupOf, dListOf, dSorted, dSum, dAll, dAny, dInt, dAbs, dMax, dMin, dIsi, isT, dNext, dSeq, dBrk, dCont, dNever, dExpr, dRet, dRetN, dIfS, dAsg, dPutI, dI0, dI, dIsN, dNotN, dSeqI, dRng1, dRng2, dRngDn, dEnumI, dZipI, dYes, dCall, dLM, dAppend, dExtend, dReverse, dInsert, dAugI, dRg1, dRg2, dTupRg, dLstRg, dNewK, dNewT, ↓S0_, ↓S1_, ↓S2_, ↓S3_, ↓S4_, ↓S5_, ↓S6_, List.map_cons, List.map_nil, List.length_cons, List.length_nil, List.replicate, List.cons_append, List.nil_append, Nat.reduceAdd, Nat.reduceSub, Nat.zero_add, List.getElem?_cons_zero, List.getElem?_cons_succ, Option.some.injEq, exists_eq_left, exists_eq_left', List.set_cons_zero, List.set_cons_succ, wipeD, D.int.injEq, D.bl.injEq, D.str.injEq, D.ref.injEq, D.tup.injEq, D.ty.injEq, true_and, and_true, forall_const, forall_eq', forall_eq, mt_int, mt_bool, mt_str, mt_tuple, mt_list, mt_dict, st_int_int, st_int_bool, st_int_str, st_int_tuple, st_int_list, st_int_dict, st_bool_int, st_bool_bool, st_bool_str, st_bool_tuple, st_bool_list, st_bool_dict, st_str_int, st_str_bool, st_str_str, st_str_tuple, st_str_list, st_str_dict, st_tuple_int, st_tuple_bool, st_tuple_str, st_tuple_tuple, st_tuple_list, st_tuple_dict, st_list_int, st_list_bool, st_list_str, st_list_tuple, st_list_list, st_list_dict, st_dict_int, st_dict_bool, st_dict_str, st_dict_tuple, st_dict_list, st_dict_dict, eq_self, Bool.true_eq_false, Bool.false_eq_true, false_implies, true_implies, implies_true, decide_eq_true_eq, decide_eq_false_iff_not, Bool.not_true, Bool.not_false, Bool.not_eq_true, Bool.not_eq_false, Bool.not_eq_true', Bool.not_eq_false', not_true_eq_false, not_false_eq_true, false_and, and_false, or_false, false_or, reduceCtorEq, ↓exLSu, ↓exDKu, ↓exDKd, ↓exLSd, ↓exLu, ↓dIxRu, ↓dPutu, ↓dGetAu, ↓dEq_int, ↓dNe_int, ↓dEq_bl, ↓dNe_bl, ↓dEq_str, ↓dNe_str, ↓dAdd_int, ↓exAt10, ↓exIx10, ↓exAt20, ↓exIx20, ↓exAt21, ↓exIx21, ↓exAt30, ↓exIx30, ↓exAt31, ↓exIx31, ↓exAt32, ↓exIx32, ↓exAt40, ↓exIx40, ↓exAt41, ↓exIx41, ↓exAt42, ↓exIx42, ↓exAt43, ↓exIx43, ↓exAt50, ↓exIx50, ↓exAt51, ↓exIx51, ↓exAt52, ↓exIx52, ↓exAt53, ↓exIx53, ↓exAt54, ↓exIx54, ↓exAt60, ↓exIx60, ↓exAt61, ↓exIx61, ↓exAt62, ↓exIx62, ↓exAt63, ↓exIx63, ↓exAt64, ↓exIx64, ↓exAt65, ↓exIx65, up_up, false_or, or_false, ↓exAtM, ↓dFlag_bl, ↓exBl, ↓exInt, ↓exRef, ↓dVar0, ↓dAug0, ↓dSet0, ↓dTgN0, ↓dTgW0, ↓dVar1, ↓dAug1, ↓dSet1, ↓dTgN1, ↓dTgW1, ↓dVar2, ↓dAug2, ↓dSet2, ↓dTgN2, ↓dTgW2, ↓dVar3, ↓dAug3, ↓dSet3, ↓dTgN3, ↓dTgW3, ↓dVar4, ↓dAug4, ↓dSet4, ↓dTgN4, ↓dTgW4, ↓dVar5, ↓dAug5, ↓dSet5, ↓dTgN5, ↓dTgW5, ↓dVar6, ↓dAug6, ↓dSet6, ↓dTgN6, ↓dTgW6, ↓dVar7, ↓dAug7, ↓dSet7, ↓dTgN7, ↓dTgW7, ↓dVar8, ↓dAug8, ↓dSet8, ↓dTgN8, ↓dTgW8, ↓dVar9, ↓dAug9, ↓dSet9, ↓dTgN9, ↓dTgW9, ↓dVar10, ↓dAug10, ↓dSet10, ↓dTgN10, ↓dTgW10, ↓dVar11, ↓dAug11, ↓dSet11, ↓dTgN11, ↓dTgW11, ↓dVar12, ↓dAug12, ↓dSet12, ↓dTgN12, ↓dTgW12, ↓dVar13, ↓dAug13, ↓dSet13, ↓dTgN13, ↓dTgW13, ↓dVar14, ↓dAug14, ↓dSet14, ↓dTgN14, ↓dTgW14, ↓dVar15, ↓dAug15, ↓dSet15, ↓dTgN15, ↓dTgW15, ↓dVar16, ↓dAug16, ↓dSet16, ↓dTgN16, ↓dTgW16, ↓dVar17, ↓dAug17, ↓dSet17, ↓dTgN17, ↓dTgW17, ↓dVar18, ↓dAug18, ↓dSet18, ↓dTgN18, ↓dTgW18, ↓dVar19, ↓dAug19, ↓dSet19, ↓dTgN19, ↓dTgW19, ↓dTg_t2, ↓dTg_t3, ↓exGetM, ↓exSumU, nD, plD, rwD, ↓dAdd_tup, ↓dAdd_ref, dSIndex, dInS, dKeysI, dValsI, dItemsI, dMulS, dEqK, dNeK, dClrK, dCntS]
        simp (config := {failIfUnchanged := false}) only [dC, dOp, dTest, dChain, dAnd, dOr, dNot, dAndV, dOrV, dNotV, dIf, dNil, dCons, dTup, dLst, dCB, d1, dIx, dNoPart, dPart, dSl, dCut, dNeg, dLen, dTupOf, dListOf, dSorted, dSum, dAll, dAny, dInt, dAbs, dMax, dMin, dIsi, isT, dNext, dSeq, dBrk, dCont, dNever, dExpr, dRet, dRetN, dIfS, dAsg, dPutI, dI0, dI, dIsN, dNotN, dSeqI, dRng1, dRng2, dRngDn, dEnumI, dZipI, dYes, dCall, dLM, dAppend, dExtend, dReverse, dInsert, dAugI, dRg1, dRg2, dTupRg, dLstRg, dNewK, dNewT, ↓S0_, ↓S1_, ↓S2_, ↓S3_, ↓S4_, ↓S5_, ↓S6_, List.map_cons, List.map_nil, List.length_cons, List.length_nil, List.replicate, List.cons_append, List.nil_append, Nat.reduceAdd, Nat.reduceSub, Nat.zero_add, List.getElem?_cons_zero, List.getElem?_cons_succ, Option.some.injEq, exists_eq_left, exists_eq_left', List.set_cons_zero, List.set_cons_succ, wipeD, D.int.injEq, D.bl.injEq, D.str.injEq, D.ref.injEq, D.tup.injEq, D.ty.injEq, true_and, and_true, forall_const, forall_eq', forall_eq, mt_int, mt_bool, mt_str, mt_tuple, mt_list, mt_dict, st_int_int, st_int_bool, st_int_str, st_int_tuple, st_int_list, st_int_dict, st_bool_int, st_bool_bool, st_bool_str, st_bool_tuple, st_bool_list, st_bool_dict, st_str_int, st_str_bool, st_str_str, st_str_tuple, st_str_list, st_str_dict, st_tuple_int, st_tuple_bool, st_tuple_str, st_tuple_tuple, st_tuple_list, st_tuple_dict, st_list_int, st_list_bool, st_list_str, st_list_tuple, st_list_list, st_list_dict, st_dict_int, st_dict_bool, st_dict_str, st_dict_tuple, st_dict_list, st_dict_dict, eq_self, Bool.true_eq_false, Bool.false_eq_true, false_implies, true_implies, implies_true, decide_eq_true_eq, decide_eq_false_iff_not, Bool.not_true, Bool.not_false, Bool.not_eq_true, Bool.not_eq_false, Bool.not_eq_true', Bool.not_eq_false', not_true_eq_false, not_false_eq_true, false_and, and_false, or_false, false_or, reduceCtorEq, ↓exLSu, ↓exDKu, ↓exDKd, ↓exLSd, ↓exLu, ↓dIxRu, ↓dPutu, ↓dGetAu, ↓dEq_int, ↓dNe_int, ↓dEq_bl, ↓dNe_bl, ↓dEq_str, ↓dNe_str, ↓dAdd_int, ↓exAt10, ↓exIx10, ↓exAt20, ↓exIx20, ↓exAt21, ↓exIx21, ↓exAt30, ↓exIx30, ↓exAt31, ↓exIx31, ↓exAt32, ↓exIx32, ↓exAt40, ↓exIx40, ↓exAt41, ↓exIx41, ↓exAt42, ↓exIx42, ↓exAt43, ↓exIx43, ↓exAt50, ↓exIx50, ↓exAt51, ↓exIx51, ↓exAt52, ↓exIx52, ↓exAt53, ↓exIx53, ↓exAt54, ↓exIx54, ↓exAt60, ↓exIx60, ↓exAt61, ↓exIx61, ↓exAt62, ↓exIx62, ↓exAt63, ↓exIx63, ↓exAt64, ↓exIx64, ↓exAt65, ↓exIx65, up_up, false_or, or_false, ↓exAtM, ↓dFlag_bl, ↓exBl, ↓exInt, ↓exRef, ↓dVar0, ↓dAug0, ↓dSet0, ↓dTgN0, ↓dTgW0, ↓dVar1, ↓dAug1, ↓dSet1, ↓dTgN1, ↓dTgW1, ↓dVar2, ↓dAug2, ↓dSet2, ↓dTgN2, ↓dTgW2, ↓dVar3, ↓dAug3, ↓dSet3, ↓dTgN3, ↓dTgW3, ↓dVar4, ↓dAug4, ↓dSet4, ↓dTgN4, ↓dTgW4, ↓dVar5, ↓dAug5, ↓dSet5, ↓dTgN5, ↓dTgW5, ↓dVar6, ↓dAug6, ↓dSet6, ↓dTgN6, ↓dTgW6, ↓dVar7, ↓dAug7, ↓dSet7, ↓dTgN7, ↓dTgW7, ↓dVar8, ↓dAug8, ↓dSet8, ↓dTgN8, ↓dTgW8, ↓dVar9, ↓dAug9, ↓dSet9, ↓dTgN9, ↓dTgW9, ↓dVar10, ↓dAug10, ↓dSet10, ↓dTgN10, ↓dTgW10, ↓dVar11, ↓dAug11, ↓dSet11, ↓dTgN11, ↓dTgW11, ↓dVar12, ↓dAug12, ↓dSet12, ↓dTgN12, ↓dTgW12, ↓dVar13, ↓dAug13, ↓dSet13, ↓dTgN13, ↓dTgW13, ↓dVar14, ↓dAug14, ↓dSet14, ↓dTgN14, ↓dTgW14, ↓dVar15, ↓dAug15, ↓dSet15, ↓dTgN15, ↓dTgW15, ↓dVar16, ↓dAug16, ↓dSet16, ↓dTgN16, ↓dTgW16, ↓dVar17, ↓dAug17, ↓dSet17, ↓dTgN17, ↓dTgW17, ↓dVar18, ↓dAug18, ↓dSet18, ↓dTgN18, ↓dTgW18, ↓dVar19, ↓dAug19, ↓dSet19, ↓dTgN19, ↓dTgW19, ↓dTg_t2, ↓dTg_t3, ↓exGetM, ↓exSumU, nD, plD, rwD, ↓dAdd_tup, ↓dAdd_ref, dSIndex, dInS, dKeysI, dValsI, dItemsI, dMulS, dEqK, dNeK, dClrK, dCntS]
        refine .inr (.inl ⟨gD g, .inr e.1, .tup ((lf g e.1).map D.str), rfl, .inr ⟨od, ws, wz2 _⟩, val_g hg hm1, ?_⟩)
        simp (config := {failIfUnchanged := false}) only [dC, dOp, dTest, dChain, dAnd, dOr, dNot, dAndV, dOrV, dNotV, dIf, dNil, dCons, dTup, dLst, dCB, d1, dIx, dNoPart, dPart, dSl, dCut, dNeg, dLen, dTupOf, dListOf, dSorted, dSum, dAll, dAny, dInt, dAbs, dMax, dMin, dIsi, isT, dNext, dSeq, dBrk, dCont, dNever, dExpr, dRet, dRetN, dIfS, dAsg, dPutI, dI0, dI, dIsN, dNotN, dSeqI, dRng1, dRng2, dRngDn, dEnumI, dZipI, dYes, dCall, dLM, dAppend, dExtend, dReverse, dInsert, dAugI, dRg1, dRg2, dTupRg, dLstRg, dNewK, dNewT, ↓S0_, ↓S1_, ↓S2_, ↓S3_, ↓S4_, ↓S5_, ↓S6_, List.map_cons, List.map_nil, List.length_cons, List.length_nil, List.replicate, List.cons_append, List.nil_append, Nat.reduceAdd, Nat.reduceSub, Nat.zero_add, List.getElem?_cons_zero, List.getElem?_cons_succ, Option.some.injEq, exists_eq_left, exists_eq_left', List.set_cons_zero, List.set_cons_succ, wipeD, D.int.injEq, D.bl.injEq, D.str.injEq, D.ref.injEq, D.tup.injEq, D.ty.injEq, true_and, and_true, forall_const, forall_eq', forall_eq, mt_int, mt_bool, mt_str, mt_tuple, mt_list, mt_dict, st_int_int, st_int_bool, st_int_str, st_int_tuple, st_int_list, st_int_dict, st_bool_int, st_bool_bool, st_bool_str, st_bool_tuple, st_bool_list, st_bool_dict, st_str_int, st_str_bool, st_str_str, st_str_tuple, st_str_list, st_str_dict, st_tuple_int, st_tuple_bool, st_tuple_str, st_tuple_tuple, st_tuple_list, st_tuple_dict, st_list_int, st_list_bool, st_list_str, st_list_tuple, st_list_list, st_list_dict, st_dict_int, st_dict_bool, st_dict_str, st_dict_tuple, st_dict_list, st_dict_dict, eq_self, Bool.true_eq_false, Bool.false_eq_true, false_implies, true_implies, implies_true, decide_eq_true_eq, decide_eq_false_iff_not, Bool.not_true, Bool.not_false, Bool.not_eq_true, Bool.not_eq_false, Bool.not_eq_true', Bool.not_eq_false', not_true_eq_false, not_false_eq_true, false_and, and_false, or_false, false_or, reduceCtorEq, ↓exLSu, ↓exDKu, ↓exDKd, ↓exLSd, ↓exLu, ↓dIxRu, ↓dPutu, ↓dGetAu, ↓dEq_int, ↓dNe_int, ↓dEq_bl, ↓dNe_bl, ↓dEq_str, ↓dNe_str, ↓dAdd_int, ↓exAt10, ↓exIx10, ↓exAt20, ↓exIx20, ↓exAt21, ↓exIx21, ↓exAt30, ↓exIx30, ↓exAt31, ↓exIx31, ↓exAt32, ↓exIx32, ↓exAt40, ↓exIx40, ↓exAt41, ↓exIx41, ↓exAt42, ↓exIx42, ↓exAt43, ↓exIx43, ↓exAt50, ↓exIx50, ↓exAt51, ↓exIx51, ↓exAt52, ↓exIx52, ↓exAt53, ↓exIx53, ↓exAt54, ↓exIx54, ↓exAt60, ↓exIx60, ↓exAt61, ↓exIx61, ↓exAt62, ↓exIx62, ↓exAt63, ↓exIx63, ↓exAt64, ↓exIx64, ↓exAt65, ↓exIx65, up_up, false_or, or_false, ↓exAtM, ↓dFlag_bl, ↓exBl, ↓exInt, ↓exRef, ↓dVar0, ↓dAug0, ↓dSet0, ↓dTgN0, ↓dTgW0, ↓dVar1, ↓dAug1, ↓dSet1, ↓dTgN1, ↓dTgW1, ↓dVar2, ↓dAug2, ↓dSet2, ↓dTgN2, ↓dTgW2, ↓dVar3, ↓dAug3, ↓dSet3, ↓dTgN3, ↓dTgW3, ↓dVar4, ↓dAug4, ↓dSet4, ↓dTgN4, ↓dTgW4, ↓dVar5, ↓dAug5, ↓dSet5, ↓dTgN5, ↓dTgW5, ↓dVar6, ↓dAug6, ↓dSet6, ↓dTgN6, ↓dTgW6, ↓dVar7, ↓dAug7, ↓dSet7, ↓dTgN7, ↓dTgW7, ↓dVar8, ↓dAug8, ↓dSet8, ↓dTgN8, ↓dTgW8, ↓dVar9, ↓dAug9, ↓dSet9, ↓dTgN9, ↓dTgW9, ↓dVar10, ↓dAug10, ↓dSet10, ↓dTgN10, ↓dTgW10, ↓dVar11, ↓dAug11, ↓dSet11, ↓dTgN11, ↓dTgW11, ↓dVar12, ↓dAug12, ↓dSet12, ↓dTgN12, ↓dTgW12, ↓dVar13, ↓dAug13, ↓dSet13, ↓dTgN13, ↓dTgW13, ↓dVar14, ↓dAug14, ↓dSet14, ↓dTgN14, ↓dTgW14, ↓dVar15, ↓dAug15, ↓dSet15, ↓dTgN15, ↓dTgW15, ↓dVar16, ↓dAug16, ↓dSet16, ↓dTgN16, ↓dTgW16, ↓dVar17, ↓dAug17, ↓dSet17, ↓dTgN17, ↓dTgW17, ↓dVar18, ↓dAug18, ↓dSet18, ↓dTgN18, ↓dTgW18, ↓dVar19, ↓dAug19, ↓dSet19, ↓dTgN19, ↓dTgW19, ↓dTg_t2, ↓dTg_t3, ↓exGetM, ↓exSumU, nD, plD, rwD, ↓dAdd_tup, ↓dAdd_ref, dSIndex, dInS, dKeysI, dValsI, dItemsI, dMulS, dEqK, dNeK, dClrK, dCntS]
        rw [lf_of hg he]
        refine forL D.str e.2 (fun u δ M' => M' = up W r (.dK (gpK g fun o => gl l (gp g k i) o + u.count o * gp g k i e.1)) ∧ ∃ b11 b12 : Option D, δ = [some x, some y, some (.ref q), some (.str k), some (.ref f), some (.ref c), some (nD (nd_ g (i + 1) k)), some (nD L), some (nD i), some (.ref r), some (.str e.1), b11, b12]) rfl ⟨?_, _, _, rfl⟩ ?_ ?_
        · congr 3
          funext o
          simp
        · rintro u o u2 δ' _ pre3 P3 e3 ⟨rfl, b11, b12, rfl⟩ hP3
          have ho := eo o (by rw [e3]; simp)
          subst t5
          simp (config := {failIfUnchanged := false}) only [dC, dOp, dTest, dChain, dAnd, dOr, dNot, dAndV, dOrV, dNotV, dIf, dNil, dCons, dTup, dLst, dCB, d1, dIx, dNoPart, dPart, dSl, dCut, dNeg, dLen, dTupOf, dListOf, dSorted, dSum, dAll, dAny, dInt, dAbs, dMax, dMin, dIsi, isT, dNext, dSeq, dBrk, dCont, dNever, dExpr, dRet, dRetN, dIfS, dAsg, dPutI, dI0, dI, dIsN, dNotN, dSeqI, dRng1, dRng2, dRngDn, dEnumI, dZipI, dYes, dCall, dLM, dAppend, dExtend, dReverse, dInsert, dAugI, dRg1, dRg2, dTupRg, dLstRg, dNewK, dNewT, ↓S0_, ↓S1_, ↓S2_, ↓S3_, ↓S4_, ↓S5_, ↓S6_, List.map_cons, List.map_nil, List.length_cons, List.length_nil, List.replicate, List.cons_append, List.nil_append, Nat.reduceAdd, Nat.reduceSub, Nat.zero_add, List.getElem?_cons_zero, List.getElem?_cons_succ, Option.some.injEq, exists_eq_left, exists_eq_left', List.set_cons_zero, List.set_cons_succ, wipeD, D.int.injEq, D.bl.injEq, D.str.injEq, D.ref.injEq, D.tup.injEq, D.ty.injEq, true_and, and_true, forall_const, forall_eq', forall_eq, mt_int, mt_bool, mt_str, mt_tuple, mt_list, mt_dict, st_int_int, st_int_bool, st_int_str, st_int_tuple, st_int_list, st_int_dict, st_bool_int, st_bool_bool, st_bool_str, st_bool_tuple, st_bool_list, st_bool_dict, st_str_int, st_str_bool, st_str_str, st_str_tuple, st_str_list, st_str_dict, st_tuple_int, st_tuple_bool, st_tuple_str, st_tuple_tuple, st_tuple_list, st_tuple_dict, st_list_int, st_list_bool, st_list_str, st_list_tuple, st_list_list, st_list_dict, st_dict_int, st_dict_bool, st_dict_str, st_dict_tuple, st_dict_list, st_dict_dict, eq_self, Bool.true_eq_false, Bool.false_eq_true, false_implies, true_implies, implies_true, decide_eq_true_eq, decide_eq_false_iff_not, Bool.not_true, Bool.not_false, Bool.not_eq_true, Bool.not_eq_false, Bool.not_eq_true', Bool.not_eq_false', not_true_eq_false, not_false_eq_true, false_and, and_false, or_false, false_or, reduceCtorEq, ↓exLSu, ↓exDKu, ↓exDKd, ↓exLSd, ↓exLu, ↓dIxRu, ↓dPutu, ↓dGetAu, ↓dEq_int, ↓dNe_int, ↓dEq_bl, ↓dNe_bl, ↓dEq_str, ↓dNe_str, ↓dAdd_int, ↓exAt10, ↓exIx10, ↓exAt20, ↓exIx20, ↓exAt21, ↓exIx21, ↓exAt30, ↓exIx30, ↓exAt31, ↓exIx31, ↓exAt32, ↓exIx32, ↓exAt40, ↓exIx40, ↓exAt41, ↓exIx41, ↓exAt42, ↓exIx42, ↓exAt43, ↓exIx43, ↓exAt50, ↓exIx50, ↓exAt51, ↓exIx51, ↓exAt52, ↓exIx52, ↓exAt53, ↓exIx53, ↓exAt54, ↓exIx54, ↓exAt60, ↓exIx60, ↓exAt61, ↓exIx61, ↓exAt62, ↓exIx62, ↓exAt63, ↓exIx63, ↓exAt64, ↓exIx64, ↓exAt65, ↓exIx65, up_up, false_or, or_false, ↓exAtM, ↓dFlag_bl, ↓exBl, ↓exInt, ↓exRef, ↓dVar0, ↓dAug0, ↓dSet0, ↓dTgN0, ↓dTgW0, ↓dVar1, ↓dAug1, ↓dSet1, ↓dTgN1, ↓dTgW1, ↓dVar2, ↓dAug2, ↓dSet2, ↓dTgN2, ↓dTgW2, ↓dVar3, ↓dAug3, ↓dSet3, ↓dTgN3, ↓dTgW3, ↓dVar4, ↓dAug4, ↓dSet4, ↓dTgN4, ↓dTgW4, ↓dVar5, ↓dAug5, ↓dSet5, ↓dTgN5, ↓dTgW5, ↓dVar6, ↓dAug6, ↓dSet6, ↓dTgN6, ↓dTgW6, ↓dVar7, ↓dAug7, ↓dSet7, ↓dTgN7, ↓dTgW7, ↓dVar8, ↓dAug8, ↓dSet8, ↓dTgN8, ↓dTgW8, ↓dVar9, ↓dAug9, ↓dSet9, ↓dTgN9, ↓dTgW9, ↓dVar10, ↓dAug10, ↓dSet10, ↓dTgN10, ↓dTgW10, ↓dVar11, ↓dAug11, ↓dSet11, ↓dTgN11, ↓dTgW11, ↓dVar12, ↓dAug12, ↓dSet12, ↓dTgN12, ↓dTgW12, ↓dVar13, ↓dAug13, ↓dSet13, ↓dTgN13, ↓dTgW13, ↓dVar14, ↓dAug14, ↓dSet14, ↓dTgN14, ↓dTgW14, ↓dVar15, ↓dAug15, ↓dSet15, ↓dTgN15, ↓dTgW15, ↓dVar16, ↓dAug16, ↓dSet16, ↓dTgN16, ↓dTgW16, ↓dVar17, ↓dAug17, ↓dSet17, ↓dTgN17, ↓dTgW17, ↓dVar18, ↓dAug18, ↓dSet18, ↓dTgN18, ↓dTgW18, ↓dVar19, ↓dAug19, ↓dSet19, ↓dTgN19, ↓dTgW19, ↓dTg_t2, ↓dTg_t3, ↓exGetM, ↓exSumU, nD, plD, rwD, ↓dAdd_tup, ↓dAdd_ref, dSIndex, dInS, dKeysI, dValsI, dItemsI, dMulS, dEqK, dNeK, dClrK, dCntS]
          refine .inr (.inl ⟨_, .inr o, _, rfl, .inl up_same, val_gp hg _ ho, .inr (.inl ⟨_, .inr e.1, _, rfl, .inl (wq2 _), val_gp hg _ hm1, ?_⟩)⟩)
          simp (config := {failIfUnchanged := false}) only [dC, dOp, dTest, dChain, dAnd, dOr, dNot, dAndV, dOrV, dNotV, dIf, dNil, dCons, dTup, dLst, dCB, d1, dIx, dNoPart, dPart, dSl, dCut, dNeg, dLen, dTupOf, dListOf, dSorted, dSum, dAll, dAny, dInt, dAbs, dMax, dMin, dIsi, isT, dNext, dSeq, dBrk, dCont, dNever, dExpr, dRet, dRetN, dIfS, dAsg, dPutI, dI0, dI, dIsN, dNotN, dSeqI, dRng1, dRng2, dRngDn, dEnumI, dZipI, dYes, dCall, dLM, dAppend, dExtend, dReverse, dInsert, dAugI, dRg1, dRg2, dTupRg, dLstRg, dNewK, dNewT, ↓S0_, ↓S1_, ↓S2_, ↓S3_, ↓S4_, ↓S5_, ↓S6_, List.map_cons, List.map_nil, List.length_cons, List.length_nil, List.replicate, List.cons_append, List.nil_append, Nat.reduceAdd, Nat.reduceSub, Nat.zero_add, List.getElem?_cons_zero, List.getElem?_cons_succ, Option.some.injEq, exists_eq_left, exists_eq_left', List.set_cons_zero, List.set_cons_succ, wipeD, D.int.injEq, D.bl.injEq, D.str.injEq, D.ref.injEq, D.tup.injEq, D.ty.injEq, true_and, and_true, forall_const, forall_eq', forall_eq, mt_int, mt_bool, mt_str, mt_tuple, mt_list, mt_dict, st_int_int, st_int_bool, st_int_str, st_int_tuple, st_int_list, st_int_dict, st_bool_int, st_bool_bool, st_bool_str, st_bool_tuple, st_bool_list, st_bool_dict, st_str_int, st_str_bool, st_str_str, st_str_tuple, st_str_list, st_str_dict, st_tuple_int, st_tuple_bool, st_tuple_str, st_tuple_tuple, st_tuple_list, st_tuple_dict, st_list_int, st_list_bool, st_list_str, st_list_tuple, st_list_list, st_list_dict, st_dict_int, st_dict_bool, st_dict_str, st_dict_tuple, st_dict_list, st_dict_dict, eq_self, Bool.true_eq_false, Bool.false_eq_true, false_implies, true_implies, implies_true, decide_eq_true_eq, decide_eq_false_iff_not, Bool.not_true, Bool.not_false, Bool.not_eq_true, Bool.not_eq_false, Bool.not_eq_true', Bool.not_eq_false', not_true_eq_false, not_false_eq_true, false_and, and_false, or_false, false_or, reduceCtorEq, ↓exLSu, ↓exDKu, ↓exDKd, ↓exLSd, ↓exLu, ↓dIxRu, ↓dPutu, ↓dGetAu, ↓dEq_int, ↓dNe_int, ↓dEq_bl, ↓dNe_bl, ↓dEq_str, ↓dNe_str, ↓dAdd_int, ↓exAt10, ↓exIx10, ↓exAt20, ↓exIx20, ↓exAt21, ↓exIx21, ↓exAt30, ↓exIx30, ↓exAt31, ↓exIx31, ↓exAt32, ↓exIx32, ↓exAt40, ↓exIx40, ↓exAt41, ↓exIx41, ↓exAt42, ↓exIx42, ↓exAt43, ↓exIx43, ↓exAt50, ↓exIx50, ↓exAt51, ↓exIx51, ↓exAt52, ↓exIx52, ↓exAt53, ↓exIx53, ↓exAt54, ↓exIx54, ↓exAt60, ↓exIx60, ↓exAt61, ↓exIx61, ↓exAt62, ↓exIx62, ↓exAt63, ↓exIx63, ↓exAt64, ↓exIx64, ↓exAt65, ↓exIx65, up_up, false_or, or_false, ↓exAtM, ↓dFlag_bl, ↓exBl, ↓exInt, ↓exRef, ↓dVar0, ↓dAug0, ↓dSet0, ↓dTgN0, ↓dTgW0, ↓dVar1, ↓dAug1, ↓dSet1, ↓dTgN1, ↓dTgW1, ↓dVar2, ↓dAug2, ↓dSet2, ↓dTgN2, ↓dTgW2, ↓dVar3, ↓dAug3, ↓dSet3, ↓dTgN3, ↓dTgW3, ↓dVar4, ↓dAug4, ↓dSet4, ↓dTgN4, ↓dTgW4, ↓dVar5, ↓dAug5, ↓dSet5, ↓dTgN5, ↓dTgW5, ↓dVar6, ↓dAug6, ↓dSet6, ↓dTgN6, ↓dTgW6, ↓dVar7, ↓dAug7, ↓dSet7, ↓dTgN7, ↓dTgW7, ↓dVar8, ↓dAug8, ↓dSet8, ↓dTgN8, ↓dTgW8, ↓dVar9, ↓dAug9, ↓dSet9, ↓dTgN9, ↓dTgW9, ↓dVar10, ↓dAug10, ↓dSet10, ↓dTgN10, ↓dTgW10, ↓dVar11, ↓dAug11, ↓dSet11, ↓dTgN11, ↓dTgW11, ↓dVar12, ↓dAug12, ↓dSet12, ↓dTgN12, ↓dTgW12, ↓dVar13, ↓dAug13, ↓dSet13, ↓dTgN13, ↓dTgW13, ↓dVar14, ↓dAug14, ↓dSet14, ↓dTgN14, ↓dTgW14, ↓dVar15, ↓dAug15, ↓dSet15, ↓dTgN15, ↓dTgW15, ↓dVar16, ↓dAug16, ↓dSet16, ↓dTgN16, ↓dTgW16, ↓dVar17, ↓dAug17, ↓dSet17, ↓dTgN17, ↓dTgW17, ↓dVar18, ↓dAug18, ↓dSet18, ↓dTgN18, ↓dTgW18, ↓dVar19, ↓dAug19, ↓dSet19, ↓dTgN19, ↓dTgW19, ↓dTg_t2, ↓dTg_t3, ↓exGetM, ↓exSumU, nD, plD, rwD, ↓dAdd_tup, ↓dAdd_ref, dSIndex, dInS, dKeysI, dValsI, dItemsI, dMulS, dEqK, dNeK, dClrK, dCntS]
          refine ⟨r, rfl, .inr (.inl ⟨_, .inr o, rfl, up_same, by rw [gp_len]; exact Nat.lt_of_le_of_lt hg.few (by decide), ?_⟩)⟩
          rw [up_up, ← Int.natCast_add]
          have := put_gp hg (fun o => gl l (gp g k i) o + List.count o u * gp g k i e.1) ho (gl l (gp g k i) o + List.count o u * gp g k i e.1 + gp g k i e.1)
          refine sb0 (hP3 _ _ ⟨?_, _, _, rfl⟩)
          refine (congrArg (fun y => up W r (.dK y)) this).trans ?_
          congr 3
          funext o2
          by_cases z : o2 = o
          · subst z
            rw [if_pos rfl, List.count_append, List.count_singleton_self, Nat.add_mul, Nat.one_mul, Nat.add_assoc]
          · rw [if_neg z, List.count_append, show List.count o2 [o] = 0 from List.count_eq_zero.mpr (by simpa using z), Nat.add_zero]
        · rintro δ' _ ⟨rfl, b11, b12, rfl⟩
          rw [h5]
          refine sb0 (hP2 _ _ ⟨?_, _, _, _, rfl⟩)
          congr 3
          funext o
          rw [gl_snoc]
      · rintro δ' _ ⟨rfl, b10, b11, b12, rfl⟩
        refine ⟨wz2 _, ?_⟩
        rw [h4]
        clear h4 t4
        simp (config := {failIfUnchanged := false}) only [dC, dOp, dTest, dChain, dAnd, dOr, dNot, dAndV, dOrV, dNotV, dIf, dNil, dCons, dTup, dLst, dCB, d1, dIx, dNoPart, dPart, dSl, dCut, dNeg, dLen, dTupOf, dListOf, dSorted, dSum, dAll, dAny, dInt, dAbs, dMax, dMin, dIsi, isT, dNext, dSeq, dBrk, dCont, dNever, dExpr, dRet, dRetN, dIfS, dAsg, dPutI, dI0, dI, dIsN, dNotN, dSeqI, dRng1, dRng2, dRngDn, dEnumI, dZipI, dYes, dCall, dLM, dAppend, dExtend, dReverse, dInsert, dAugI, dRg1, dRg2, dTupRg, dLstRg, dNewK, dNewT, ↓S0_, ↓S1_, ↓S2_, ↓S3_, ↓S4_, ↓S5_, ↓S6_, List.map_cons, List.map_nil, List.length_cons, List.length_nil, List.replicate, List.cons_append, List.nil_append, Nat.reduceAdd, Nat.reduceSub, Nat.zero_add, List.getElem?_cons_zero, List.getElem?_cons_succ, Option.some.injEq, exists_eq_left, exists_eq_left', List.set_cons_zero, List.set_cons_succ, wipeD, D.int.injEq, D.bl.injEq, D.str.injEq, D.ref.injEq, D.tup.injEq, D.ty.injEq, true_and, and_true, forall_const, forall_eq', forall_eq, mt_int, mt_bool, mt_str, mt_tuple, mt_list, mt_dict, st_int_int, st_int_bool, st_int_str, st_int_tuple, st_int_list, st_int_dict, st_bool_int, st_bool_bool, st_bool_str, st_bool_tuple, st_bool_list, st_bool_dict, st_str_int, st_str_bool, st_str_str, st_str_tuple, st_str_list, st_str_dict, st_tuple_int, st_tuple_bool, st_tuple_str, st_tuple_tuple, st_tuple_list, st_tuple_dict, st_list_int, st_list_bool, st_list_str, st_list_tuple, st_list_list, st_list_dict, st_dict_int, st_dict_bool, st_dict_str, st_dict_tuple, st_dict_list, st_dict_dict, eq_self, Bool.true_eq_false, Bool.false_eq_true, false_implies, true_implies, implies_true, decide_eq_true_eq, decide_eq_false_iff_not, Bool.not_true, Bool.not_false, Bool.not_eq_true, Bool.not_eq_false, Bool.not_eq_true', Bool.not_eq_false', not_true_eq_false, not_false_eq_true, false_and, and_false, or_false, false_or, reduceCtorEq, ↓exLSu, ↓exDKu, ↓exDKd, ↓exLSd, ↓exLu, ↓dIxRu, ↓dPutu, ↓dGetAu, ↓dEq_int, ↓dNe_int, ↓dEq_bl, ↓dNe_bl, ↓dEq_str, ↓dNe_str, ↓dAdd_int, ↓exAt10, ↓exIx10, ↓exAt20, ↓exIx20, ↓exAt21, ↓exIx21, ↓exAt30, ↓exIx30, ↓exAt31, ↓exIx31, ↓exAt32, ↓exIx32, ↓exAt40, ↓exIx40, ↓exAt41, ↓exIx41, ↓exAt42, ↓exIx42, ↓exAt43, ↓exIx43, ↓exAt50, ↓exIx50, ↓exAt51, ↓exIx51, ↓exAt52, ↓exIx52, ↓exAt53, ↓exIx53, ↓exAt54, ↓exIx54, ↓exAt60, ↓exIx60, ↓exAt61, ↓exIx61, ↓exAt62, ↓exIx62, ↓exAt63, ↓exIx63, ↓exAt64, ↓exIx64, ↓exAt65, ↓exIx65, up_up, false_or, or_false, ↓exAtM, ↓dFlag_bl, ↓exBl, ↓exInt, ↓exRef, ↓dVar0, ↓dAug0, ↓dSet0, ↓dTgN0, ↓dTgW0, ↓dVar1, ↓dAug1, ↓dSet1, ↓dTgN1, ↓dTgW1, ↓dVar2, ↓dAug2, ↓dSet2, ↓dTgN2, ↓dTgW2, ↓dVar3, ↓dAug3, ↓dSet3, ↓dTgN3, ↓dTgW3, ↓dVar4, ↓dAug4, ↓dSet4, ↓dTgN4, ↓dTgW4, ↓dVar5, ↓dAug5, ↓dSet5, ↓dTgN5, ↓dTgW5, ↓dVar6, ↓dAug6, ↓dSet6, ↓dTgN6, ↓dTgW6, ↓dVar7, ↓dAug7, ↓dSet7, ↓dTgN7, ↓dTgW7, ↓dVar8, ↓dAug8, ↓dSet8, ↓dTgN8, ↓dTgW8, ↓dVar9, ↓dAug9, ↓dSet9, ↓dTgN9, ↓dTgW9, ↓dVar10, ↓dAug10, ↓dSet10, ↓dTgN10, ↓dTgW10, ↓dVar11, ↓dAug11, ↓dSet11, ↓dTgN11, ↓dTgW11, ↓dVar12, ↓dAug12, ↓dSet12, ↓dTgN12, ↓dTgW12, ↓dVar13, ↓dAug13, ↓dSet13, ↓dTgN13, ↓dTgW13, ↓dVar14, ↓dAug14, ↓dSet14, ↓dTgN14, ↓dTgW14, ↓dVar15, ↓dAug15, ↓dSet15, ↓dTgN15, ↓dTgW15, ↓dVar16, ↓dAug16, ↓dSet16, ↓dTgN16, ↓dTgW16, ↓dVar17, ↓dAug17, ↓dSet17, ↓dTgN17, ↓dTgW17, ↓dVar18, ↓dAug18, ↓dSet18, ↓dTgN18, ↓dTgW18, ↓dVar19, ↓dAug19, ↓dSet19, ↓dTgN19, ↓dTgW19, ↓dTg_t2, ↓dTg_t3, ↓exGetM, ↓exSumU, nD, plD, rwD, ↓dAdd_tup, ↓dAdd_ref, dSIndex, dInS, dKeysI, dValsI, dItemsI, dMulS, dEqK, dNeK, dClrK, dCntS]
        refine ⟨wz2 _, ?_⟩
        rw [wb, ← gp_succ]
        have y5 := y4.put (o := .dK (gpK g (gp g k (i + 1)))) hr9 nofun nofun hrM
        have hqA : up M9 r (.dK (gpK g (gp g k (i + 1)))) q = some (.dK (gD g)) := by rw [up_ne nrq.symm]; exact hq9
        have hfA : up M9 r (.dK (gpK g (gp g k (i + 1)))) f = some (.lst ((fit g s [k]).map D.str)) := by rw [up_ne nrf.symm]; exact hf9
        have hrA : up M9 r (.dK (gpK g (gp g k (i + 1)))) r = some (.dK (gpK g (gp g k (i + 1)))) := up_same
        generalize up M9 r (.dK (gpK g (gp g k (i + 1)))) = MA at *
        simp (config := {failIfUnchanged := false}) only [dC, dOp, dTest, dChain, dAnd, dOr, dNot, dAndV, dOrV, dNotV, dIf, dNil, dCons, dTup, dLst, dCB, d1, dIx, dNoPart, dPart, dSl, dCut, dNeg, dLen, dTupOf, dListOf, dSorted, dSum, dAll, dAny, dInt, dAbs, dMax, dMin, dIsi, isT, dNext, dSeq, dBrk, dCont, dNever, dExpr, dRet, dRetN, dIfS, dAsg, dPutI, dI0, dI, dIsN, dNotN, dSeqI, dRng1, dRng2, dRngDn, dEnumI, dZipI, dYes, dCall, dLM, dAppend, dExtend, dReverse, dInsert, dAugI, dRg1, dRg2, dTupRg, dLstRg, dNewK, dNewT, ↓S0_, ↓S1_, ↓S2_, ↓S3_, ↓S4_, ↓S5_, ↓S6_, List.map_cons, List.map_nil, List.length_cons, List.length_nil, List.replicate, List.cons_append, List.nil_append, Nat.reduceAdd, Nat.reduceSub, Nat.zero_add, List.getElem?_cons_zero, List.getElem?_cons_succ, Option.some.injEq, exists_eq_left, exists_eq_left', List.set_cons_zero, List.set_cons_succ, wipeD, D.int.injEq, D.bl.injEq, D.str.injEq, D.ref.injEq, D.tup.injEq, D.ty.injEq, true_and, and_true, forall_const, forall_eq', forall_eq, mt_int, mt_bool, mt_str, mt_tuple, mt_list, mt_dict, st_int_int, st_int_bool, st_int_str, st_int_tuple, st_int_list, st_int_dict, st_bool_int, st_bool_bool, st_bool_str, st_bool_tuple, st_bool_list, st_bool_dict, st_str_int, st_str_bool, st_str_str, st_str_tuple, st_str_list, st_str_dict, st_tuple_int, st_tuple_bool, st_tuple_str, st_tuple_tuple, st_tuple_list, st_tuple_dict, st_list_int, st_list_bool, st_list_str, st_list_tuple, st_list_list, st_list_dict, st_dict_int, st_dict_bool, st_dict_str, st_dict_tuple, st_dict_list, st_dict_dict, eq_self, Bool.true_eq_false, Bool.false_eq_true, false_implies, true_implies, implies_true, decide_eq_true_eq, decide_eq_false_iff_not, Bool.not_true, Bool.not_false, Bool.not_eq_true, Bool.not_eq_false, Bool.not_eq_true', Bool.not_eq_false', not_true_eq_false, not_false_eq_true, false_and, and_false, or_false, false_or, reduceCtorEq, ↓exLSu, ↓exDKu, ↓exDKd, ↓exLSd, ↓exLu, ↓dIxRu, ↓dPutu, ↓dGetAu, ↓dEq_int, ↓dNe_int, ↓dEq_bl, ↓dNe_bl, ↓dEq_str, ↓dNe_str, ↓dAdd_int, ↓exAt10, ↓exIx10, ↓exAt20, ↓exIx20, ↓exAt21, ↓exIx21, ↓exAt30, ↓exIx30, ↓exAt31, ↓exIx31, ↓exAt32, ↓exIx32, ↓exAt40, ↓exIx40, ↓exAt41, ↓exIx41, ↓exAt42, ↓exIx42, ↓exAt43, ↓exIx43, ↓exAt50, ↓exIx50, ↓exAt51, ↓exIx51, ↓exAt52, ↓exIx52, ↓exAt53, ↓exIx53, ↓exAt54, ↓exIx54, ↓exAt60, ↓exIx60, ↓exAt61, ↓exIx61, ↓exAt62, ↓exIx62, ↓exAt63, ↓exIx63, ↓exAt64, ↓exIx64, ↓exAt65, ↓exIx65, up_up, false_or, or_false, ↓exAtM, ↓dFlag_bl, ↓exBl, ↓exInt, ↓exRef, ↓dVar0, ↓dAug0, ↓dSet0, ↓dTgN0, ↓dTgW0, ↓dVar1, ↓dAug1, ↓dSet1, ↓dTgN1, ↓dTgW1, ↓dVar2, ↓dAug2, ↓dSet2, ↓dTgN2, ↓dTgW2, ↓dVar3, ↓dAug3, ↓dSet3, ↓dTgN3, ↓dTgW3, ↓dVar4, ↓dAug4, ↓dSet4, ↓dTgN4, ↓dTgW4, ↓dVar5, ↓dAug5, ↓dSet5, ↓dTgN5, ↓dTgW5, ↓dVar6, ↓dAug6, ↓dSet6, ↓dTgN6, ↓dTgW6, ↓dVar7, ↓dAug7, ↓dSet7, ↓dTgN7, ↓dTgW7, ↓dVar8, ↓dAug8, ↓dSet8, ↓dTgN8, ↓dTgW8, ↓dVar9, ↓dAug9, ↓dSet9, ↓dTgN9, ↓dTgW9, ↓dVar10, ↓dAug10, ↓dSet10, ↓dTgN10, ↓dTgW10, ↓dVar11, ↓dAug11, ↓dSet11, ↓dTgN11, ↓dTgW11, ↓dVar12, ↓dAug12, ↓dSet12, ↓dTgN12, ↓dTgW12, ↓dVar13, ↓dAug13, ↓dSet13, ↓dTgN13, ↓dTgW13, ↓dVar14, ↓dAug14, ↓dSet14, ↓dTgN14, ↓dTgW14, ↓dVar15, ↓dAug15, ↓dSet15, ↓dTgN15, ↓dTgW15, ↓dVar16, ↓dAug16, ↓dSet16, ↓dTgN16, ↓dTgW16, ↓dVar17, ↓dAug17, ↓dSet17, ↓dTgN17, ↓dTgW17, ↓dVar18, ↓dAug18, ↓dSet18, ↓dTgN18, ↓dTgW18, ↓dVar19, ↓dAug19, ↓dSet19, ↓dTgN19, ↓dTgW19, ↓dTg_t2, ↓dTg_t3, ↓exGetM, ↓exSumU, nD, plD, rwD, ↓dAdd_tup, ↓dAdd_ref, dSIndex, dInS, dKeysI, dValsI, dItemsI, dMulS, dEqK, dNeK, dClrK, dCntS]
        refine .inl ⟨_, .inl hfA, fun hlt => ⟨q, g, f, _, rfl, rfl, hqA, hfA, hg, fit_keys hg hk s, by rw [List.length_map] at hlt; omega, fun f2 hf2 => ?_⟩, fun hge => sb0 (hP _ _ ⟨y5, hqA, f, s, hfA, fun z => absurd (by rw [List.length_map]; omega) hge, r, hrA, nrq, _, _, _, _, _, rfl⟩)⟩
        have es := hs6 (by rw [List.length_map] at hlt; omega)
        have y6 := (Up.new (o := .lst (((fit g s [k]).flatMap (lf g)).map D.str)) y5.pool hf2 (by intro _ z; cases z))
        exact sb0 (hP _ _ ⟨y6.trans y5, y6.keep _ _ hqA nofun, f2, s + 1, by rw [up_same, fit_succ], fun _ => by omega, r, y6.keep _ _ hrA nofun, nrq, _, _, _, _, _, rfl⟩)
  · rintro δ' M6 ⟨y0, hq6, f, s, hf6, hs6, c, hc6, ncq, b8, b9, b10, b11, b12, rfl⟩
    rw [h1]
    simp (config := {failIfUnchanged := false}) only [dC, dOp, dTest, dChain, dAnd, dOr, dNot, dAndV, dOrV, dNotV, dIf, dNil, dCons, dTup, dLst, dCB, d1, dIx, dNoPart, dPart, dSl, dCut, dNeg, dLen, dTupOf, dListOf, dSorted, dSum, dAll, dAny, dInt, dAbs, dMax, dMin, dIsi, isT, dNext, dSeq, dBrk, dCont, dNever, dExpr, dRet, dRetN, dIfS, dAsg, dPutI, dI0, dI, dIsN, dNotN, dSeqI, dRng1, dRng2, dRngDn, dEnumI, dZipI, dYes, dCall, dLM, dAppend, dExtend, dReverse, dInsert, dAugI, dRg1, dRg2, dTupRg, dLstRg, dNewK, dNewT, ↓S0_, ↓S1_, ↓S2_, ↓S3_, ↓S4_, ↓S5_, ↓S6_, List.map_cons, List.map_nil, List.length_cons, List.length_nil, List.replicate, List.cons_append, List.nil_append, Nat.reduceAdd, Nat.reduceSub, Nat.zero_add, List.getElem?_cons_zero, List.getElem?_cons_succ, Option.some.injEq, exists_eq_left, exists_eq_left', List.set_cons_zero, List.set_cons_succ, wipeD, D.int.injEq, D.bl.injEq, D.str.injEq, D.ref.injEq, D.tup.injEq, D.ty.injEq, true_and, and_true, forall_const, forall_eq', forall_eq, mt_int, mt_bool, mt_str, mt_tuple, mt_list, mt_dict, st_int_int, st_int_bool, st_int_str, st_int_tuple, st_int_list, st_int_dict, st_bool_int, st_bool_bool, st_bool_str, st_bool_tuple, st_bool_list, st_bool_dict, st_str_int, st_str_bool, st_str_str, st_str_tuple, st_str_list, st_str_dict, st_tuple_int, st_tuple_bool, st_tuple_str, st_tuple_tuple, st_tuple_list, st_tuple_dict, st_list_int, st_list_bool, st_list_str, st_list_tuple, st_list_list, st_list_dict, st_dict_int, st_dict_bool, st_dict_str, st_dict_tuple, st_dict_list, st_dict_dict, eq_self, Bool.true_eq_false, Bool.false_eq_true, false_implies, true_implies, implies_true, decide_eq_true_eq, decide_eq_false_iff_not, Bool.not_true, Bool.not_false, Bool.not_eq_true, Bool.not_eq_false, Bool.not_eq_true', Bool.not_eq_false', not_true_eq_false, not_false_eq_true, false_and, and_false, or_false, false_or, reduceCtorEq, ↓exLSu, ↓exDKu, ↓exDKd, ↓exLSd, ↓exLu, ↓dIxRu, ↓dPutu, ↓dGetAu, ↓dEq_int, ↓dNe_int, ↓dEq_bl, ↓dNe_bl, ↓dEq_str, ↓dNe_str, ↓dAdd_int, ↓exAt10, ↓exIx10, ↓exAt20, ↓exIx20, ↓exAt21, ↓exIx21, ↓exAt30, ↓exIx30, ↓exAt31, ↓exIx31, ↓exAt32, ↓exIx32, ↓exAt40, ↓exIx40, ↓exAt41, ↓exIx41, ↓exAt42, ↓exIx42, ↓exAt43, ↓exIx43, ↓exAt50, ↓exIx50, ↓exAt51, ↓exIx51, ↓exAt52, ↓exIx52, ↓exAt53, ↓exIx53, ↓exAt54, ↓exIx54, ↓exAt60, ↓exIx60, ↓exAt61, ↓exIx61, ↓exAt62, ↓exIx62, ↓exAt63, ↓exIx63, ↓exAt64, ↓exIx64, ↓exAt65, ↓exIx65, up_up, false_or, or_false, ↓exAtM, ↓dFlag_bl, ↓exBl, ↓exInt, ↓exRef, ↓dVar0, ↓dAug0, ↓dSet0, ↓dTgN0, ↓dTgW0, ↓dVar1, ↓dAug1, ↓dSet1, ↓dTgN1, ↓dTgW1, ↓dVar2, ↓dAug2, ↓dSet2, ↓dTgN2, ↓dTgW2, ↓dVar3, ↓dAug3, ↓dSet3, ↓dTgN3, ↓dTgW3, ↓dVar4, ↓dAug4, ↓dSet4, ↓dTgN4, ↓dTgW4, ↓dVar5, ↓dAug5, ↓dSet5, ↓dTgN5, ↓dTgW5, ↓dVar6, ↓dAug6, ↓dSet6, ↓dTgN6, ↓dTgW6, ↓dVar7, ↓dAug7, ↓dSet7, ↓dTgN7, ↓dTgW7, ↓dVar8, ↓dAug8, ↓dSet8, ↓dTgN8, ↓dTgW8, ↓dVar9, ↓dAug9, ↓dSet9, ↓dTgN9, ↓dTgW9, ↓dVar10, ↓dAug10, ↓dSet10, ↓dTgN10, ↓dTgW10, ↓dVar11, ↓dAug11, ↓dSet11, ↓dTgN11, ↓dTgW11, ↓dVar12, ↓dAug12, ↓dSet12, ↓dTgN12, ↓dTgW12, ↓dVar13, ↓dAug13, ↓dSet13, ↓dTgN13, ↓dTgW13, ↓dVar14, ↓dAug14, ↓dSet14, ↓dTgN14, ↓dTgW14, ↓dVar15, ↓dAug15, ↓dSet15, ↓dTgN15, ↓dTgW15, ↓dVar16, ↓dAug16, ↓dSet16, ↓dTgN16, ↓dTgW16, ↓dVar17, ↓dAug17, ↓dSet17, ↓dTgN17, ↓dTgW17, ↓dVar18, ↓dAug18, ↓dSet18, ↓dTgN18, ↓dTgW18, ↓dVar19, ↓dAug19, ↓dSet19, ↓dTgN19, ↓dTgW19, ↓dTg_t2, ↓dTg_t3, ↓exGetM, ↓exSumU, nD, plD, rwD, ↓dAdd_tup, ↓dAdd_ref, dSIndex, dInS, dKeysI, dValsI, dItemsI, dMulS, dEqK, dNeK, dClrK, dCntS]
    exact T3.dn0 (h _)
end
theorem gv_mk {K : PySem.W.Frag} {h : Heap} {mg : Str → Option Value} {f0 : Addr} {oc0 kV0 dc0 pm0 cd0 ct0 : Value} {od0 an0 : Option Addr} {sl0 : Array (Option Value)}
    {f1 : Addr} {oc1 kV1 dc1 pm1 cd1 ct1 : Value} {od1 an1 : Option Addr} {sl1 : Array (Option Value)}
    {f2 : Addr} {oc2 kV2 dc2 pm2 cd2 ct2 : Value} {od2 an2 : Option Addr} {sl2 : Array (Option Value)}
    {f3 : Addr} {oc3 kV3 dc3 pm3 cd3 ct3 : Value} {od3 an3 : Option Addr} {sl3 : Array (Option Value)}
    {f4 : Addr} {oc4 kV4 dc4 pm4 cd4 ct4 : Value} {od4 an4 : Option Addr} {sl4 : Array (Option Value)}
    {f5 : Addr} {oc5 kV5 dc5 pm5 cd5 ct5 : Value} {od5 an5 : Option Addr} {sl5 : Array (Option Value)}
    {f6 : Addr} {oc6 kV6 dc6 pm6 cd6 ct6 : Value} {od6 an6 : Option Addr} {sl6 : Array (Option Value)}
    {f7 : Addr} {oc7 kV7 dc7 pm7 cd7 ct7 : Value} {od7 an7 : Option Addr} {sl7 : Array (Option Value)}
    {f8 : Addr} {oc8 kV8 dc8 pm8 cd8 ct8 : Value} {od8 an8 : Option Addr} {sl8 : Array (Option Value)}
    {f9 : Addr} {oc9 kV9 dc9 pm9 cd9 ct9 : Value} {od9 an9 : Option Addr} {sl9 : Array (Option Value)}
    {f10 : Addr} {oc10 kV10 dc10 pm10 cd10 ct10 : Value} {od10 an10 : Option Addr} {sl10 : Array (Option Value)}
    {f11 : Addr} {oc11 kV11 dc11 pm11 cd11 ct11 : Value} {od11 an11 : Option Addr} {sl11 : Array (Option Value)}
    {f12 : Addr} {oc12 kV12 dc12 pm12 cd12 ct12 : Value} {od12 an12 : Option Addr} {sl12 : Array (Option Value)}
    {f13 : Addr} {oc13 kV13 dc13 pm13 cd13 ct13 : Value} {od13 an13 : Option Addr} {sl13 : Array (Option Value)}
    {f14 : Addr} {oc14 kV14 dc14 pm14 cd14 ct14 : Value} {od14 an14 : Option Addr} {sl14 : Array (Option Value)}
    {t0 : Tok}
    {t1 : Tok}
    {t2 : Tok}
    {t3 : Tok}
    {v0 : Tok} (X : K.In h) (G : h.Ns mainGlobals mg)
    (a0 : PySem.W.nsIn K mainGlobals "is_integer" = some (some (.ref f0))) (l0 : K.lookup f0 = some ⟨oc0, od0, .func (PySem.W.fnOf "is_integer" "is_integer" (defArgs st_is_integer) (defBody st_is_integer) (defScope st_is_integer) .none kV0 dc0 pm0 an0 cd0 ct0), sl0⟩) (e0 : PySem.W.codeIn K cd0 "is_integer" = true) (k0 : PySem.W.keepIn K (.ref f0) = true)
    (a1 : PySem.W.nsIn K mainGlobals "is_within" = some (some (.ref f1))) (l1 : K.lookup f1 = some ⟨oc1, od1, .func (PySem.W.fnOf "is_within" "is_within" (defArgs st_is_within) (defBody st_is_within) (defScope st_is_within) .none kV1 dc1 pm1 an1 cd1 ct1), sl1⟩) (e1 : PySem.W.codeIn K cd1 "is_within" = true) (k1 : PySem.W.keepIn K (.ref f1) = true)
    (a2 : PySem.W.nsIn K mainGlobals "check_number" = some (some (.ref f2))) (l2 : K.lookup f2 = some ⟨oc2, od2, .func (PySem.W.fnOf "check_number" "check_number" (defArgs st_check_number) (defBody st_check_number) (defScope st_check_number) .none kV2 dc2 pm2 an2 cd2 ct2), sl2⟩) (e2 : PySem.W.codeIn K cd2 "check_number" = true) (k2 : PySem.W.keepIn K (.ref f2) = true)
    (a3 : PySem.W.nsIn K mainGlobals "is_small" = some (some (.ref f3))) (l3 : K.lookup f3 = some ⟨oc3, od3, .func (PySem.W.fnOf "is_small" "is_small" (defArgs st_is_small) (defBody st_is_small) (defScope st_is_small) .none kV3 dc3 pm3 an3 cd3 ct3), sl3⟩) (e3 : PySem.W.codeIn K cd3 "is_small" = true) (k3 : PySem.W.keepIn K (.ref f3) = true)
    (a4 : PySem.W.nsIn K mainGlobals "is_growth" = some (some (.ref f4))) (l4 : K.lookup f4 = some ⟨oc4, od4, .func (PySem.W.fnOf "is_growth" "is_growth" (defArgs st_is_growth) (defBody st_is_growth) (defScope st_is_growth) .none kV4 dc4 pm4 an4 cd4 ct4), sl4⟩) (e4 : PySem.W.codeIn K cd4 "is_growth" = true) (k4 : PySem.W.keepIn K (.ref f4) = true)
    (a5 : PySem.W.nsIn K mainGlobals "check_growth" = some (some (.ref f5))) (l5 : K.lookup f5 = some ⟨oc5, od5, .func (PySem.W.fnOf "check_growth" "check_growth" (defArgs st_check_growth) (defBody st_check_growth) (defScope st_check_growth) .none kV5 dc5 pm5 an5 cd5 ct5), sl5⟩) (e5 : PySem.W.codeIn K cd5 "check_growth" = true) (k5 : PySem.W.keepIn K (.ref f5) = true)
    (a6 : PySem.W.nsIn K mainGlobals "needed" = some (some (.ref f6))) (l6 : K.lookup f6 = some ⟨oc6, od6, .func (PySem.W.fnOf "needed" "needed" (defArgs st_needed) (defBody st_needed) (defScope st_needed) .none kV6 dc6 pm6 an6 cd6 ct6), sl6⟩) (e6 : PySem.W.codeIn K cd6 "needed" = true) (k6 : PySem.W.keepIn K (.ref f6) = true)
    (a7 : PySem.W.nsIn K mainGlobals "gaps" = some (some (.ref f7))) (l7 : K.lookup f7 = some ⟨oc7, od7, .func (PySem.W.fnOf "gaps" "gaps" (defArgs st_gaps) (defBody st_gaps) (defScope st_gaps) .none kV7 dc7 pm7 an7 cd7 ct7), sl7⟩) (e7 : PySem.W.codeIn K cd7 "gaps" = true) (k7 : PySem.W.keepIn K (.ref f7) = true)
    (a8 : PySem.W.nsIn K mainGlobals "_law_pool" = some (some (.ref f8))) (l8 : K.lookup f8 = some ⟨oc8, od8, .func (PySem.W.fnOf "_law_pool" "_law_pool" (defArgs st__law_pool) (defBody st__law_pool) (defScope st__law_pool) .none kV8 dc8 pm8 an8 cd8 ct8), sl8⟩) (e8 : PySem.W.codeIn K cd8 "_law_pool" = true) (k8 : PySem.W.keepIn K (.ref f8) = true)
    (a9 : PySem.W.nsIn K mainGlobals "_law_draw" = some (some (.ref f9))) (l9 : K.lookup f9 = some ⟨oc9, od9, .func (PySem.W.fnOf "_law_draw" "_law_draw" (defArgs st__law_draw) (defBody st__law_draw) (defScope st__law_draw) .none kV9 dc9 pm9 an9 cd9 ct9), sl9⟩) (e9 : PySem.W.codeIn K cd9 "_law_draw" = true) (k9 : PySem.W.keepIn K (.ref f9) = true)
    (a10 : PySem.W.nsIn K mainGlobals "_law_pick" = some (some (.ref f10))) (l10 : K.lookup f10 = some ⟨oc10, od10, .func (PySem.W.fnOf "_law_pick" "_law_pick" (defArgs st__law_pick) (defBody st__law_pick) (defScope st__law_pick) .none kV10 dc10 pm10 an10 cd10 ct10), sl10⟩) (e10 : PySem.W.codeIn K cd10 "_law_pick" = true) (k10 : PySem.W.keepIn K (.ref f10) = true)
    (a11 : PySem.W.nsIn K mainGlobals "_law_is_int" = some (some (.ref f11))) (l11 : K.lookup f11 = some ⟨oc11, od11, .func (PySem.W.fnOf "_law_is_int" "_law_is_int" (defArgs st__law_is_int) (defBody st__law_is_int) (defScope st__law_is_int) .none kV11 dc11 pm11 an11 cd11 ct11), sl11⟩) (e11 : PySem.W.codeIn K cd11 "_law_is_int" = true) (k11 : PySem.W.keepIn K (.ref f11) = true)
    (a12 : PySem.W.nsIn K mainGlobals "_law_growth" = some (some (.ref f12))) (l12 : K.lookup f12 = some ⟨oc12, od12, .func (PySem.W.fnOf "_law_growth" "_law_growth" (defArgs st__law_growth) (defBody st__law_growth) (defScope st__law_growth) .none kV12 dc12 pm12 an12 cd12 ct12), sl12⟩) (e12 : PySem.W.codeIn K cd12 "_law_growth" = true) (k12 : PySem.W.keepIn K (.ref f12) = true)
    (a13 : PySem.W.nsIn K mainGlobals "_law_grown" = some (some (.ref f13))) (l13 : K.lookup f13 = some ⟨oc13, od13, .func (PySem.W.fnOf "_law_grown" "_law_grown" (defArgs st__law_grown) (defBody st__law_grown) (defScope st__law_grown) .none kV13 dc13 pm13 an13 cd13 ct13), sl13⟩) (e13 : PySem.W.codeIn K cd13 "_law_grown" = true) (k13 : PySem.W.keepIn K (.ref f13) = true)
    (a14 : PySem.W.nsIn K mainGlobals "law" = some (some (.ref f14))) (l14 : K.lookup f14 = some ⟨oc14, od14, .func (PySem.W.fnOf "law" "law" (defArgs st_law) (defBody st_law) (defScope st_law) .none kV14 dc14 pm14 an14 cd14 ct14), sl14⟩) (e14 : PySem.W.codeIn K cd14 "law" = true) (k14 : PySem.W.keepIn K (.ref f14) = true)
    (z0 : PySem.W.nsIn K mainGlobals "abs" = some none)
    (z1 : PySem.W.nsIn K mainGlobals "all" = some none)
    (z2 : PySem.W.nsIn K mainGlobals "bool" = some none)
    (z3 : PySem.W.nsIn K mainGlobals "dict" = some none)
    (z4 : PySem.W.nsIn K mainGlobals "int" = some none)
    (z5 : PySem.W.nsIn K mainGlobals "isinstance" = some none)
    (z6 : PySem.W.nsIn K mainGlobals "len" = some none)
    (z7 : PySem.W.nsIn K mainGlobals "list" = some none)
    (z8 : PySem.W.nsIn K mainGlobals "range" = some none)
    (z9 : PySem.W.nsIn K mainGlobals "str" = some none)
    (z10 : PySem.W.nsIn K mainGlobals "sum" = some none)
    (z11 : PySem.W.nsIn K mainGlobals "tuple" = some none)
    (y0 : PySem.W.nsIn K mainGlobals "MOST_KINDS" = some (some (.int 12 t0)))
    (y1 : PySem.W.nsIn K mainGlobals "MOST_LEFT" = some (some (.int 4 t1)))
    (y2 : PySem.W.nsIn K mainGlobals "MOST_ROUNDS" = some (some (.int 200 t2)))
    (y3 : PySem.W.nsIn K mainGlobals "MOST_SIGNS" = some (some (.int 8 t3)))
    (w0 : PySem.W.nsIn K mainGlobals "SIGNS" = some (some (.str "abcdefghijklmnopqrstuvwxyz" v0))) : Gv K mg :=
  ⟨df_mk X G a0 l0 e0 k0, df_mk X G a1 l1 e1 k1, df_mk X G a2 l2 e2 k2, df_mk X G a3 l3 e3 k3, df_mk X G a4 l4 e4 k4, df_mk X G a5 l5 e5 k5, df_mk X G a6 l6 e6 k6, df_mk X G a7 l7 e7 k7, df_mk X G a8 l8 e8 k8, df_mk X G a9 l9 e9 k9, df_mk X G a10 l10 e10 k10, df_mk X G a11 l11 e11 k11, df_mk X G a12 l12 e12 k12, df_mk X G a13 l13 e13 k13, df_mk X G a14 l14 e14 k14, gn_mk X G z0, gn_mk X G z1, gn_mk X G z2, gn_mk X G z3, gn_mk X G z4, gn_mk X G z5, gn_mk X G z6, gn_mk X G z7, gn_mk X G z8, gn_mk X G z9, gn_mk X G z10, gn_mk X G z11, gi_mk X G y0 ⟨_, rfl⟩, gi_mk X G y1 ⟨_, rfl⟩, gi_mk X G y2 ⟨_, rfl⟩, gi_mk X G y3 ⟨_, rfl⟩, gs_mk X G w0 ⟨_, rfl⟩⟩
end Lw

open PySem PySem.W PyProof.Rows in
set_option maxRecDepth 100000 in
set_option maxHeartbeats 0 in
theorem PySem.Challenge.cw_putbetween_k74_whole_gaps_round_by_round_holds : PySem.Challenge.rw_putbetween_k74_whole_gaps_round_by_round.Holds := by
  w_on; o_law; k_head; (case hw => w_witness2)
  k_fill
  refine T3.walk3 (l := PySem.Challenge.rw_putbetween_k74_whole_gaps_round_by_round) (k := 5) (x := "_law_script") rfl rfl ⟨rfl, by decide, by decide⟩ (fun w h Y => PySem.W.kIn_of Y) ?F
  case F =>
    intro w mg h KX G base
    refine Lw.pr_law ?_
    refine' Lw.gv_mk KX G ?a0 ?l0 ?e0 ?k0 ?a1 ?l1 ?e1 ?k1 ?a2 ?l2 ?e2 ?k2 ?a3 ?l3 ?e3 ?k3 ?a4 ?l4 ?e4 ?k4 ?a5 ?l5 ?e5 ?k5 ?a6 ?l6 ?e6 ?k6 ?a7 ?l7 ?e7 ?k7 ?a8 ?l8 ?e8 ?k8 ?a9 ?l9 ?e9 ?k9 ?a10 ?l10 ?e10 ?k10 ?a11 ?l11 ?e11 ?k11 ?a12 ?l12 ?e12 ?k12 ?a13 ?l13 ?e13 ?k13 ?a14 ?l14 ?e14 ?k14 ?z0 ?z1 ?z2 ?z3 ?z4 ?z5 ?z6 ?z7 ?z8 ?z9 ?z10 ?z11 ?y0 ?y1 ?y2 ?y3 ?w0
    (case a0 => k_is)
    (case l0 => k_is)
    (case e0 => k_is)
    (case k0 => k_is)
    (case a1 => k_is)
    (case l1 => k_is)
    (case e1 => k_is)
    (case k1 => k_is)
    (case a2 => k_is)
    (case l2 => k_is)
    (case e2 => k_is)
    (case k2 => k_is)
    (case a3 => k_is)
    (case l3 => k_is)
    (case e3 => k_is)
    (case k3 => k_is)
    (case a4 => k_is)
    (case l4 => k_is)
    (case e4 => k_is)
    (case k4 => k_is)
    (case a5 => k_is)
    (case l5 => k_is)
    (case e5 => k_is)
    (case k5 => k_is)
    (case a6 => k_is)
    (case l6 => k_is)
    (case e6 => k_is)
    (case k6 => k_is)
    (case a7 => k_is)
    (case l7 => k_is)
    (case e7 => k_is)
    (case k7 => k_is)
    (case a8 => k_is)
    (case l8 => k_is)
    (case e8 => k_is)
    (case k8 => k_is)
    (case a9 => k_is)
    (case l9 => k_is)
    (case e9 => k_is)
    (case k9 => k_is)
    (case a10 => k_is)
    (case l10 => k_is)
    (case e10 => k_is)
    (case k10 => k_is)
    (case a11 => k_is)
    (case l11 => k_is)
    (case e11 => k_is)
    (case k11 => k_is)
    (case a12 => k_is)
    (case l12 => k_is)
    (case e12 => k_is)
    (case k12 => k_is)
    (case a13 => k_is)
    (case l13 => k_is)
    (case e13 => k_is)
    (case k13 => k_is)
    (case a14 => k_is)
    (case l14 => k_is)
    (case e14 => k_is)
    (case k14 => k_is)
    (case z0 => k_is)
    (case z1 => k_is)
    (case z2 => k_is)
    (case z3 => k_is)
    (case z4 => k_is)
    (case z5 => k_is)
    (case z6 => k_is)
    (case z7 => k_is)
    (case z8 => k_is)
    (case z9 => k_is)
    (case z10 => k_is)
    (case z11 => k_is)
    (case y0 => k_is)
    (case y1 => k_is)
    (case y2 => k_is)
    (case y3 => k_is)
    (case w0 => k_is)

