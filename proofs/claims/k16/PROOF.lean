import PyProof.Rows.All
import Wide.All
import OpenK.AllK
import Wide.FinOn
import HandS.ForMost
import HandS.ForExc
import HandS.Lambda
import HandS.TupAny
import HandS.TupMul
import HandS.TupLe
import HandS.Deep
import HandS.Style
import KE.SortData
import HandS.IsInst
import HandS.TupLen
import KE.SortCalls
import HandS.RaiseMore
import PyProof.ReprRoads
import PyProof.RowDictHeap
import HandS.Exc
import HandS.TryOnly
import HandS.Walk
import HandS.ExcOwn
import HandS.ExcCtx
import KE.GoesEnum
import HandS.Zip
import HandS.WordsExc
import HandS.HotCalls
import HandS.ExcInit
import HandS.ExcIs
import HandS.ExcField
import KE.KExcSuper
import KE.KExcIs
import HandS.Words
import HandS.Hot
import HandS.Small
import HandS.Ends
import KE.KDictKeyed
import HandS.EndTab
import KE.KNestM
import HandS.DictComp
import HandS.Conv
import HandS.Text
import HandS.More
import PyProof.Rows.StrJoinMade
import PyProof.Rows.StrDigits
import PySem.Challenge.RW_onlyscores_k16_texts_of_rounds
set_option Elab.async false
set_option linter.all false
set_option maxRecDepth 100000
set_option maxHeartbeats 4000000
namespace Eng
open PySem L2

/-- data: what a Python value is, without addresses; ref: a mutable object's number, fn: a def's number -/
inductive D where
  | non | bl (b : Bool) | int (i : Int) | str (s : Str)
  | tup (l : List D) | lst (l : List D)
  | dK (ks : List Key) (vs : List D) | dT (ks : List (List Key)) (vs : List D)
  | ins (c : Nat) (fs : List Str) (vs : List D)
  | ref (k : Nat) | fn (j : Nat) | scr (l : List D)
  | exc (c : Nat) (l : List D)

/-- what stands at a mutable object's number -/
inductive Ob where
  | lst (l : List D) | dK (ks : List Key) (vs : List D) | dT (ks : List (List Key)) (vs : List D)
  | ins (c : Nat) (fs : List Str) (vs : List D) | dead | tbl (q : Str)

abbrev Mem := List Ob
structure Exn where
  cls : Nat
  arg : Option D
inductive R (α : Type) where
  | ok (a : α) (m : Mem) | exn (x : Exn) (m : Mem) | bad
def M (α : Type) := Mem → R α
namespace M
def pure {α : Type} (a : α) : M α := fun m => .ok a m
def bind {α β : Type} (x : M α) (f : α → M β) : M β := fun m => match x m with
  | .ok a m' => f a m'
  | .exn e m' => .exn e m'
  | .bad => .bad
def fail {α : Type} : M α := fun _ => .bad
def get : M Mem := fun m => .ok m m
def put (m : Mem) : M Unit := fun _ => .ok () m
def raise {α : Type} (x : Exn) : M α := fun m => .exn x m
/-- an option, or stuck -/
def of {α : Type} (o : Option α) : M α := fun m => match o with
  | some a => .ok a m
  | none => .bad
end M
instance : Monad M where
  pure := M.pure
  bind := M.bind

/-- what the written part says: classes' addresses, defs' addresses -/
structure Lk where
  K : PySem.W.Frag
  cA : Nat → Addr
  fA : Nat → Addr
  xf : Nat → Str
  /-- the exception that a suite holds, its dict -/
  xa : Option (Addr × Nat × Option Addr)
  /-- what stands for long: the tables of code objects ahead of all, and what a maker of a lambda has -/
  lf : List Addr × Hp

mutual
inductive Rep (L : Lk) (G : Hp) (ι : List Addr) : V → D → Prop
  | non : Rep L G ι .non .non
  | bl (b : Bool) : Rep L G ι (.bl b) (.bl b)
  | int (i : Int) : Rep L G ι (.int i) (.int i)
  | str (s : Str) : Rep L G ι (.str s) (.str s)
  | tup {a : Addr} {vs : List V} {l : List D} : G a = some (.tup vs) → RepL L G ι vs l → Rep L G ι (.ref a) (.tup l)
  | lst {a : Addr} {vs : List V} {l : List D} : G a = some (.lst vs) → RepL L G ι vs l → Rep L G ι (.ref a) (.lst l)
  | scr {a : Addr} {vs : List V} {l : List D} : SqL L.K G a vs → RepL L G ι vs l → Rep L G ι (.ref a) (.scr l)
  | dK {a : Addr} {ks : List Key} {vs : List V} {l : List D} : Rd G a (.dK (ks.zip vs)) → ks.length = l.length → RepL L G ι vs l → Rep L G ι (.ref a) (.dK ks l)
  | dT {a : Addr} {ks : List (List Key)} {vs : List V} {l : List D} : Rd G a (.dT (ks.zip vs)) → ks.length = l.length → RepL L G ι vs l → Rep L G ι (.ref a) (.dT ks l)
  | ins {a dx : Addr} {c : Nat} {fs : List Str} {vs : List V} {l : List D} : G a = some (.ins (L.cA c) dx (fs.zip vs)) → fs.length = l.length → RepL L G ι vs l → Rep L G ι (.ref a) (.ins c fs l)
  | ref {a : Addr} {k : Nat} : ι[k]? = some a → Rep L G ι (.ref a) (.ref k)
  | fn (j : Nat) : Rep L G ι (.ref (L.fA j)) (.fn j)
  | exc {a : Addr} {dd : Option Addr} {c : Nat} {vs : List V} {l : List D} : L.xa = some (a, c, dd) → ((∀ p, dd = some p → G p = some (.xd ([L.xf c].zip vs))) ∧ (dd = none → l = [])) → RepL L G ι vs l → Rep L G ι (.ref a) (.exc c l)
inductive RepL (L : Lk) (G : Hp) (ι : List Addr) : List V → List D → Prop
  | nil : RepL L G ι [] []
  | cons {v : V} {vs : List V} {d : D} {ds : List D} : Rep L G ι v d → RepL L G ι vs ds → RepL L G ι (v :: vs) (d :: ds)
end

/-- a dict may be locked for a while -/
def NoD : HO → Prop
  | .dK _ | .dT _ => False
  | _ => True
/-- the frozen part is larger -/
def GLe (G G' : Hp) : Prop := (∀ a u, Rd G a u → Rd G' a u) ∧ ∀ a u, G a = some u → NoD u → G' a = some u
theorem GLe.refl (G : Hp) : GLe G G := ⟨fun _ _ h => h, fun _ _ h _ => h⟩
theorem GLe.trans {G G1 G2 : Hp} (a : GLe G G1) (b : GLe G1 G2) : GLe G G2 := ⟨fun x u h => b.1 x u (a.1 x u h), fun x u h n => b.2 x u (a.2 x u h n) n⟩
theorem GLe.sqT {K : PySem.W.Frag} {G G' : Hp} (g : GLe G G') {a : Addr} {xs : List V} (h : SqT K G a xs) : SqT K G' a xs := h.elim (fun h => .inl (g.1 _ _ h)) .inr
theorem GLe.sqL {K : PySem.W.Frag} {G G' : Hp} (g : GLe G G') {a : Addr} {xs : List V} (h : SqL K G a xs) : SqL K G' a xs := h.elim (fun h => .inl (g.1 _ _ h)) .inr
theorem GLe.of_same {G G' : Hp} (h : ∀ a u, G a = some u → G' a = some u) : GLe G G' := ⟨fun a u r => r.elim (fun e => .inl (h _ _ e)) fun ⟨o, e⟩ => .inr ⟨o, h _ _ e⟩, fun _ _ e _ => h _ _ e⟩

theorem pre_get {ι ι' : List Addr} (h : ι <+: ι') {k : Nat} {a : Addr} (e : ι[k]? = some a) : ι'[k]? = some a := by
  obtain ⟨t, rfl⟩ := h
  have := (List.getElem?_eq_some_iff.mp e).1
  rw [List.getElem?_append_left this]; exact e

mutual
theorem Rep.mono {L : Lk} {G G' : Hp} {ι ι' : List Addr} (g : GLe G G') (p : ι <+: ι') : ∀ {d : D} {v : V}, Rep L G ι v d → Rep L G' ι' v d
  | .non, _, h => by cases h; exact .non
  | .bl _, _, h => by cases h; exact .bl _
  | .int _, _, h => by cases h; exact .int _
  | .str _, _, h => by cases h; exact .str _
  | .tup _, _, h => by cases h with | tup a b => exact .tup (g.2 _ _ a trivial) (RepL.mono g p b)
  | .lst _, _, h => by cases h with | lst a b => exact .lst (g.2 _ _ a trivial) (RepL.mono g p b)
  | .scr _, _, h => by cases h with | scr a b => exact .scr (g.sqL a) (RepL.mono g p b)
  | .dK _ _, _, h => by cases h with | dK a e b => exact .dK (g.1 _ _ a) e (RepL.mono g p b)
  | .dT _ _, _, h => by cases h with | dT a e b => exact .dT (g.1 _ _ a) e (RepL.mono g p b)
  | .ins _ _ _, _, h => by cases h with | ins a e b => exact .ins (g.2 _ _ a trivial) e (RepL.mono g p b)
  | .ref _, _, h => by cases h with | ref e => exact .ref (pre_get p e)
  | .fn _, _, h => by cases h; exact .fn _
  | .exc _ _, _, h => by cases h with | exc e q b => exact .exc e ⟨fun x hx => g.2 _ _ (q.1 x hx) trivial, q.2⟩ (RepL.mono g p b)
theorem RepL.mono {L : Lk} {G G' : Hp} {ι ι' : List Addr} (g : GLe G G') (p : ι <+: ι') : ∀ {ds : List D} {vs : List V}, RepL L G ι vs ds → RepL L G' ι' vs ds
  | [], _, h => by cases h; exact .nil
  | _ :: _, _, h => by cases h with | cons a b => exact .cons (Rep.mono g p a) (RepL.mono g p b)
end
end Eng

set_option maxRecDepth 100000
set_option maxHeartbeats 4000000
namespace Eng
open PySem L2
variable {L : Lk}

theorem RepL.length {G : Hp} {ι : List Addr} : ∀ {vs : List V} {ds : List D}, RepL L G ι vs ds → vs.length = ds.length
  | _, _, .nil => rfl
  | _, _, .cons _ t => by simp [RepL.length t]
theorem RepL.get {G : Hp} {ι : List Addr} : ∀ {vs : List V} {ds : List D} {i : Nat} {d : D}, RepL L G ι vs ds → ds[i]? = some d → ∃ v, vs[i]? = some v ∧ Rep L G ι v d
  | _, _, _, _, .nil, e => by simp at e
  | _, _, 0, _, .cons r _, e => by simp at e; subst e; exact ⟨_, rfl, r⟩
  | _, _, i + 1, d, .cons _ t, e => by
    obtain ⟨v, h1, h2⟩ := RepL.get (i := i) (d := d) t (by simpa using e)
    exact ⟨v, by simpa using h1, h2⟩
theorem RepL.getV {G : Hp} {ι : List Addr} : ∀ {vs : List V} {ds : List D} {i : Nat} {v : V}, RepL L G ι vs ds → vs[i]? = some v → ∃ d, ds[i]? = some d ∧ Rep L G ι v d
  | _, _, _, _, .nil, e => by simp at e
  | _, _, 0, _, .cons r _, e => by simp at e; subst e; exact ⟨_, rfl, r⟩
  | _, _, i + 1, d, .cons _ t, e => by
    obtain ⟨v, h1, h2⟩ := RepL.getV (i := i) (v := d) t (by simpa using e)
    exact ⟨v, by simpa using h1, h2⟩
theorem RepL.append {G : Hp} {ι : List Addr} : ∀ {vs ws : List V} {ds es : List D}, RepL L G ι vs ds → RepL L G ι ws es → RepL L G ι (vs ++ ws) (ds ++ es)
  | _, _, _, _, .nil, s => s
  | _, _, _, _, .cons r t, s => .cons r (RepL.append t s)
theorem RepL.set {G : Hp} {ι : List Addr} {v : V} {d : D} (r : Rep L G ι v d) : ∀ {vs : List V} {ds : List D} (i : Nat), RepL L G ι vs ds → RepL L G ι (vs.set i v) (ds.set i d)
  | _, _, _, .nil => .nil
  | _, _, 0, .cons _ t => .cons r t
  | _, _, i + 1, .cons q t => .cons q (RepL.set r i t)
theorem RepL.drop {G : Hp} {ι : List Addr} : ∀ {vs : List V} {ds : List D} (i : Nat), RepL L G ι vs ds → RepL L G ι (vs.drop i) (ds.drop i)
  | _, _, 0, t => t
  | _, _, _ + 1, .nil => .nil
  | _, _, i + 1, .cons _ t => RepL.drop i t
theorem RepL.take {G : Hp} {ι : List Addr} : ∀ {vs : List V} {ds : List D} (i : Nat), RepL L G ι vs ds → RepL L G ι (vs.take i) (ds.take i)
  | _, _, 0, _ => .nil
  | _, _, _ + 1, .nil => .nil
  | _, _, i + 1, .cons r t => .cons r (RepL.take i t)
theorem RepL.eraseIdx {G : Hp} {ι : List Addr} : ∀ {vs : List V} {ds : List D} (i : Nat), RepL L G ι vs ds → RepL L G ι (vs.eraseIdx i) (ds.eraseIdx i)
  | _, _, _, .nil => .nil
  | _, _, 0, .cons _ t => t
  | _, _, i + 1, .cons r t => .cons r (RepL.eraseIdx i t)
theorem RepL.reverse {G : Hp} {ι : List Addr} {vs : List V} {ds : List D} (h : RepL L G ι vs ds) : RepL L G ι vs.reverse ds.reverse := by
  induction h using RepL.rec (motive_1 := fun _ _ _ => True) (L := L) with
  | nil => exact .nil
  | cons r t _ ih => rw [List.reverse_cons, List.reverse_cons]; exact ih.append (.cons r .nil)
  | _ => trivial

/-- the object at hand is what the memory says -/
def ObRel (L : Lk) (G : Hp) (ι : List Addr) : HO → Ob → Prop
  | .lst vs, .lst l => RepL L G ι vs l
  | .dK kvs, .dK ks l => ∃ vs, kvs = ks.zip vs ∧ ks.length = l.length ∧ RepL L G ι vs l
  | .dT kvs, .dT ks l => ∃ vs, kvs = ks.zip vs ∧ ks.length = l.length ∧ RepL L G ι vs l
  | .ins C dx kvs, .ins c fs l => C = L.cA c ∧ ∃ vs, kvs = fs.zip vs ∧ fs.length = l.length ∧ RepL L G ι vs l
  | .tbl ps, .tbl q => TriplesOk ps.toList ∧ ∀ (pos : Pos) (cv : Value), codeAmong pos ps.toList = some cv → ∃ c, cv = .ref c ∧ G c = some (LamX.CodeO c q)
  | _, .dead => True
  | _, _ => False
theorem ObRel.mono {G G' : Hp} {ι ι' : List Addr} (g : GLe G G') (p : ι <+: ι') {u : HO} {o : Ob} (h : ObRel L G ι u o) : ObRel L G' ι' u o := by
  cases o with
  | lst l => cases u <;> first | exact RepL.mono g p h | exact h.elim
  | dK ks l => cases u <;> first | (obtain ⟨vs, a, b, c⟩ := h; exact ⟨vs, a, b, RepL.mono g p c⟩) | exact h.elim
  | dT ks l => cases u <;> first | (obtain ⟨vs, a, b, c⟩ := h; exact ⟨vs, a, b, RepL.mono g p c⟩) | exact h.elim
  | ins c fs l => cases u <;> first | (obtain ⟨e, vs, a, b, c⟩ := h; exact ⟨e, vs, a, b, RepL.mono g p c⟩) | exact h.elim
  | tbl q => cases u <;> first | exact ⟨h.1, fun pos cv z => let ⟨c, h1, h2⟩ := h.2 pos cv z; ⟨c, h1, g.2 _ _ h2 trivial⟩⟩ | exact h.elim
  | dead => cases u <;> trivial
def Live : Ob → Prop
  | .dead => False
  | _ => True

/-- the memory m stands in H by ι, beside the frozen part G -/
structure W (L : Lk) (ι : List Addr) (m : Mem) (G H : Hp) : Prop where
  sub : ∀ a u, G a = some u → H a = some u
  nd : ι.Nodup
  len : ι.length = m.length
  tr : ∀ a ∈ ι, H a ≠ none
  out : ∀ (k : Nat) a o, ι[k]? = some a → m[k]? = some o → Live o → G a = none
  cell : ∀ (k : Nat) a o, ι[k]? = some a → m[k]? = some o → Live o → ∃ u, H a = some u ∧ ObRel L G ι u o
  lm : L.lf.1 <+: ι ∧ GLe L.lf.2 G

/-- from one state to a later one -/
structure Le (ι : List Addr) (G H : Hp) (ι' : List Addr) (G' H' : Hp) : Prop where
  pre : ι <+: ι'
  g : GLe G G'
  fr : ∀ a u, H a = some u → a ∉ ι → H' a = some u
  gn : ∀ a, H a ≠ none → a ∉ ι → G' a = G a
  nw : ∀ a, a ∈ ι' → a ∉ ι → H a = none

variable {ι ι' ι1 ι2 : List Addr} {m m' : Mem} {G G' G1 G2 H H' H1 H2 : Hp}
theorem Le.refl : Le ι G H ι G H := ⟨List.prefix_refl _, .refl G, fun _ _ h _ => h, fun _ _ _ => rfl, fun _ a b => absurd a b⟩
theorem Le.trans (a : Le ι G H ι1 G1 H1) (b : Le ι1 G1 H1 ι2 G2 H2) : Le ι G H ι2 G2 H2 := by
  have no : ∀ x, H x ≠ none → x ∉ ι → x ∉ ι1 := fun x h n q => h (a.nw x q n)
  have h1 : ∀ x, H x ≠ none → x ∉ ι → H1 x ≠ none := fun x h n q => by
    cases e : H x with
    | none => exact h e
    | some u => rw [a.fr x u e n] at q; cases q
  refine ⟨a.pre.trans b.pre, a.g.trans b.g, fun x u e n => b.fr x u (a.fr x u e n) (no x (by rw [e]; simp) n), fun x h n => (b.gn x (h1 x h n) (no x h n)).trans (a.gn x h n), fun x h n => ?_⟩
  by_cases q : x ∈ ι1
  · exact a.nw x q n
  · have z := b.nw x h q
    cases e : H x with
    | none => rfl
    | some u => rw [a.fr x u e n] at z; cases z
/-- what is free now was free before -/
theorem Le.free (a : Le ι G H ι1 G1 H1) {x : Addr} (hx : H1 x = none) (hn : x ∉ ι) : H x = none := by
  cases e : H x with
  | none => rfl
  | some u => rw [a.fr x u e hn] at hx; cases hx

theorem W.fresh (w : W L ι m G H) {p : Addr} (h : H p = none) : p ∉ ι ∧ G p = none := by
  refine ⟨fun q => w.tr p q h, ?_⟩
  cases e : G p with
  | none => rfl
  | some u => rw [w.sub p u e] at h; cases h
/-- a thing beside the memory is laid or changed -/
theorem W.beside (w : W L ι m G H) {p : Addr} {u : HO} (h1 : p ∉ ι) (h2 : G p = none) : W L ι m G (upd H p u) := by
  have ne : ∀ a, a ∈ ι → a ≠ p := fun a h e => h1 (e ▸ h)
  refine ⟨fun a v e => ?_, w.nd, w.len, fun a h => ?_, w.out, fun k a o e1 e2 l => ?_, w.lm⟩
  · rw [upd_ne (fun z => by subst z; rw [h2] at e; cases e)]; exact w.sub a v e
  · rw [upd_ne (ne a h)]; exact w.tr a h
  · obtain ⟨v, e, r⟩ := w.cell k a o e1 e2 l
    exact ⟨v, by rw [upd_ne (ne a (List.mem_of_getElem? e1))]; exact e, r⟩
theorem Le.beside (h : H' = H ∨ True) {p : Addr} {u : HO} (hp : H p = none) : Le ι G H ι G (upd H p u) :=
  ⟨List.prefix_refl _, .refl G, fun a v e _ => by rw [upd_ne (ne_of_none e hp)]; exact e, fun _ _ _ => rfl, fun _ a b => absurd a b⟩
theorem Le.new {p : Addr} {u : HO} (hp : H p = none) : Le ι G H ι G (upd H p u) := Le.beside (H' := H) (.inl rfl) hp
/-- a new thing of later is changed -/
theorem Le.over (a : Le ι G H ι1 G1 H1) {p : Addr} {u : HO} (hp : H p = none) : Le ι G H ι1 G1 (upd H1 p u) :=
  ⟨a.pre, a.g, fun x v e n => by rw [upd_ne (ne_of_none e hp)]; exact a.fr x v e n, a.gn, a.nw⟩
theorem upd_gle {p : Addr} {u : HO} (h : G p = none) : GLe G (upd G p u) := GLe.of_same fun a v e => by rw [upd_ne (ne_of_none e h)]; exact e
/-- a thing beside the memory goes into the frozen part -/
theorem W.frz (w : W L ι m G H) {p : Addr} {u : HO} (h1 : p ∉ ι) (h2 : G p = none) (h3 : H p = some u) : W L ι m (upd G p u) H := by
  have ne : ∀ a, a ∈ ι → a ≠ p := fun a h e => h1 (e ▸ h)
  refine ⟨fun a v e => ?_, w.nd, w.len, w.tr, fun k a o e1 e2 l => ?_, fun k a o e1 e2 l => ?_, w.lm.1, w.lm.2.trans (upd_gle h2)⟩
  · by_cases q : a = p
    · subst q; rw [upd_same] at e; cases e; exact h3
    · rw [upd_ne q] at e; exact w.sub a v e
  · rw [upd_ne (ne a (List.mem_of_getElem? e1))]; exact w.out k a o e1 e2 l
  · obtain ⟨v, e, r⟩ := w.cell k a o e1 e2 l
    exact ⟨v, e, r.mono (upd_gle h2) (List.prefix_refl _)⟩
theorem Le.frz (a : Le ι G H ι1 G1 H1) {p : Addr} {u : HO} (hp : H p = none) (h2 : G1 p = none) : Le ι G H ι1 (upd G1 p u) H1 :=
  ⟨a.pre, a.g.trans (upd_gle h2), a.fr, fun x h n => by rw [upd_ne (fun (z : x = p) => h (by rw [z]; exact hp))]; exact a.gn x h n, a.nw⟩
/-- a thing beside the memory becomes a new mutable object -/
theorem W.alloc (w : W L ι m G H) {p : Addr} {u : HO} {o : Ob} (h1 : p ∉ ι) (h2 : G p = none) (h3 : H p = some u) (r : ObRel L G ι u o) : W L (ι ++ [p]) (m ++ [o]) G H := by
  have pre : ι <+: ι ++ [p] := ⟨[p], rfl⟩
  have at_ : ∀ (k : Nat) a o', (ι ++ [p])[k]? = some a → (m ++ [o])[k]? = some o' → (ι[k]? = some a ∧ m[k]? = some o') ∨ (a = p ∧ o' = o) := fun k a o' e1 e2 => by
    by_cases hk : k < ι.length
    · rw [List.getElem?_append_left hk] at e1
      rw [List.getElem?_append_left (by rw [← w.len]; exact hk)] at e2
      exact .inl ⟨e1, e2⟩
    · rw [List.getElem?_append_right (by omega)] at e1
      rw [List.getElem?_append_right (by rw [← w.len]; omega), ← w.len] at e2
      have z : k - ι.length = 0 := by
        have := (List.getElem?_eq_some_iff.mp e1).1
        simp at this; omega
      rw [z] at e1 e2
      exact .inr ⟨(Option.some.inj e1).symm, (Option.some.inj e2).symm⟩
  refine ⟨w.sub, ?_, by simp [w.len], fun a h => ?_, fun k a o' e1 e2 l => ?_, fun k a o' e1 e2 l => ?_, w.lm.1.trans pre, w.lm.2⟩
  · exact List.nodup_append.mpr ⟨w.nd, by simp, fun a ha b hb e => by simp at hb; subst hb; subst e; exact h1 ha⟩
  · rcases List.mem_append.mp h with h | h
    · exact w.tr a h
    · simp at h; subst h; rw [h3]; simp
  · rcases at_ k a o' e1 e2 with ⟨a1, a2⟩ | ⟨a1, a2⟩
    · exact w.out k a o' a1 a2 l
    · rw [a1]; exact h2
  · rcases at_ k a o' e1 e2 with ⟨a1, a2⟩ | ⟨a1, a2⟩
    · obtain ⟨v, e, r'⟩ := w.cell k a o' a1 a2 l
      exact ⟨v, e, r'.mono (.refl G) pre⟩
    · subst a1; subst a2; exact ⟨u, h3, r.mono (.refl G) pre⟩
theorem Le.alloc (a : Le ι G H ι1 G1 H1) {p : Addr} (hp : H p = none) : Le ι G H (ι1 ++ [p]) G1 H1 :=
  ⟨a.pre.trans ⟨[p], rfl⟩, a.g, a.fr, a.gn, fun x h n => by
    rcases List.mem_append.mp h with h | h
    · exact a.nw x h n
    · simp at h; rw [h]; exact hp⟩
/-- a mutable object is changed -/
theorem W.set (w : W L ι m G H) {k : Nat} {p : Addr} {u : HO} {o o' : Ob} (hk : ι[k]? = some p) (hm : m[k]? = some o) (hl : Live o) (r : Live o' → ObRel L G ι u o') : W L ι (m.set k o') G (upd H p u) := by
  have hp := w.out k p o hk hm hl
  have inj : ∀ (j : Nat) a, ι[j]? = some a → a = p → j = k := fun j a e z => by
    subst z
    have h1 := (List.getElem?_eq_some_iff.mp e)
    have h2 := (List.getElem?_eq_some_iff.mp hk)
    exact (List.getElem_inj (h₀ := h1.1) (h₁ := h2.1) w.nd).mp (h1.2.trans h2.2.symm)
  have at_ : ∀ (j : Nat) a ob, ι[j]? = some a → (m.set k o')[j]? = some ob → (j = k ∧ a = p ∧ ob = o') ∨ (j ≠ k ∧ a ≠ p ∧ m[j]? = some ob) := fun j a ob e1 e2 => by
    by_cases hj : j = k
    · subst hj
      rw [hk] at e1; cases e1
      rw [List.getElem?_set_self (List.getElem?_eq_some_iff.mp hm).1] at e2; cases e2
      exact .inl ⟨rfl, rfl, rfl⟩
    · rw [List.getElem?_set_ne (Ne.symm hj)] at e2
      exact .inr ⟨hj, fun z => hj (inj j a e1 z), e2⟩
  refine ⟨fun a v e => ?_, w.nd, by simp [w.len], fun a h => ?_, fun j a ob e1 e2 l => ?_, fun j a ob e1 e2 l => ?_, w.lm⟩
  · rw [upd_ne (fun z => by subst z; rw [hp] at e; cases e)]; exact w.sub a v e
  · by_cases q : a = p
    · subst q; rw [upd_same]; simp
    · rw [upd_ne q]; exact w.tr a h
  · rcases at_ j a ob e1 e2 with ⟨_, rfl, rfl⟩ | ⟨_, hne, e3⟩
    · exact hp
    · exact w.out j a ob e1 e3 l
  · rcases at_ j a ob e1 e2 with ⟨_, rfl, rfl⟩ | ⟨_, hne, e3⟩
    · exact ⟨u, upd_same, r l⟩
    · obtain ⟨v, e, r'⟩ := w.cell j a ob e1 e3 l
      exact ⟨v, by rw [upd_ne hne]; exact e, r'⟩
theorem Le.set {p : Addr} {u : HO} (h : p ∈ ι) : Le ι G H ι G (upd H p u) :=
  ⟨List.prefix_refl _, .refl G, fun a v e n => by rw [upd_ne (fun (z : a = p) => n (by rw [z]; exact h))]; exact e, fun _ _ _ => rfl, fun _ a b => absurd a b⟩
/-- a mutable object goes into the frozen part -/
theorem W.kill (w : W L ι m G H) {k : Nat} {p : Addr} {u : HO} {o : Ob} (hk : ι[k]? = some p) (hm : m[k]? = some o) (hl : Live o) (h3 : H p = some u) : W L ι (m.set k .dead) (upd G p u) H := by
  have hp := w.out k p o hk hm hl
  have inj : ∀ (j : Nat) a, ι[j]? = some a → a = p → j = k := fun j a e z => by
    subst z
    have h1 := (List.getElem?_eq_some_iff.mp e)
    have h2 := (List.getElem?_eq_some_iff.mp hk)
    exact (List.getElem_inj (h₀ := h1.1) (h₁ := h2.1) w.nd).mp (h1.2.trans h2.2.symm)
  have at_ : ∀ (j : Nat) a ob, ι[j]? = some a → (m.set k .dead)[j]? = some ob → Live ob → a ≠ p ∧ m[j]? = some ob := fun j a ob e1 e2 l => by
    by_cases hj : j = k
    · subst hj
      rw [List.getElem?_set_self (List.getElem?_eq_some_iff.mp hm).1] at e2; cases e2
      exact l.elim
    · rw [List.getElem?_set_ne (Ne.symm hj)] at e2
      exact ⟨fun z => hj (inj j a e1 z), e2⟩
  refine ⟨fun a v e => ?_, w.nd, by simp [w.len], w.tr, fun j a ob e1 e2 l => ?_, fun j a ob e1 e2 l => ?_, w.lm.1, w.lm.2.trans (upd_gle hp)⟩
  · by_cases q : a = p
    · subst q; rw [upd_same] at e; cases e; exact h3
    · rw [upd_ne q] at e; exact w.sub a v e
  · obtain ⟨n, e3⟩ := at_ j a ob e1 e2 l
    rw [upd_ne n]; exact w.out j a ob e1 e3 l
  · obtain ⟨n, e3⟩ := at_ j a ob e1 e2 l
    obtain ⟨v, e, r⟩ := w.cell j a ob e1 e3 l
    exact ⟨v, e, r.mono (upd_gle hp) (List.prefix_refl _)⟩
theorem Le.kill {p : Addr} {u : HO} (h : p ∈ ι) (hp : G p = none) : Le ι G H ι (upd G p u) H :=
  ⟨List.prefix_refl _, upd_gle hp, fun _ _ e _ => e, fun a _ n => by rw [upd_ne (fun (z : a = p) => n (by rw [z]; exact h))], fun _ a b => absurd a b⟩

/-- the frame's slots: what is told of them -/
abbrev Env := List (Option D)
structure RepE (L : Lk) (G : Hp) (ι : List Addr) (σ : L2.St) (env : Env) : Prop where
  len : σ.length = env.length
  get : ∀ (i : Nat) d, env[i]? = some (some d) → ∃ v, σ[i]? = some (some v) ∧ Rep L G ι v d
theorem RepE.mono {σ : L2.St} {env : Env} (g : GLe G G') (p : ι <+: ι') (h : RepE L G ι σ env) : RepE L G' ι' σ env :=
  ⟨h.len, fun i d e => let ⟨v, h1, h2⟩ := h.get i d e; ⟨v, h1, h2.mono g p⟩⟩
theorem RepE.le {σ : L2.St} {env : Env} (l : Le ι G H ι' G' H') (h : RepE L G ι σ env) : RepE L G' ι' σ env := h.mono l.g l.pre
theorem Rep.le {v : V} {d : D} (l : Le ι G H ι' G' H') (h : Rep L G ι v d) : Rep L G' ι' v d := h.mono l.g l.pre
theorem RepL.le {v : List V} {d : List D} (l : Le ι G H ι' G' H') (h : RepL L G ι v d) : RepL L G' ι' v d := h.mono l.g l.pre
theorem RepE.set {σ : L2.St} {env : Env} (h : RepE L G ι σ env) (i : Nat) {v : V} {d : D} (r : Rep L G ι v d) : RepE L G ι (σ.set i (some v)) (env.set i (some d)) := by
  refine ⟨by simp [h.len], fun j d' e => ?_⟩
  by_cases hj : j = i
  · subst hj
    by_cases hl : j < env.length
    · rw [List.getElem?_set_self hl] at e; cases e
      exact ⟨v, List.getElem?_set_self (by rw [h.len]; exact hl), r⟩
    · rw [List.getElem?_eq_none (by simpa using hl)] at e; cases e
  · rw [List.getElem?_set_ne (Ne.symm hj)] at e
    obtain ⟨w, h1, h2⟩ := h.get j d' e
    exact ⟨w, by rw [List.getElem?_set_ne (Ne.symm hj)]; exact h1, h2⟩
theorem RepE.none {σ : L2.St} {env : Env} (h : RepE L G ι σ env) (i : Nat) (o : Option V) : RepE L G ι (σ.set i o) (env.set i none) := by
  refine ⟨by simp [h.len], fun j d' e => ?_⟩
  by_cases hj : j = i
  · subst hj
    by_cases hl : j < env.length
    · rw [List.getElem?_set_self hl] at e; cases e
    · rw [List.getElem?_eq_none (by simpa using hl)] at e; cases e
  · rw [List.getElem?_set_ne (Ne.symm hj)] at e
    obtain ⟨w, h1, h2⟩ := h.get j d' e
    exact ⟨w, by rw [List.getElem?_set_ne (Ne.symm hj)]; exact h1, h2⟩
/-- told less -/
theorem RepE.weak {σ : L2.St} {env env' : Env} (h : RepE L G ι σ env) (hl : env'.length = env.length) (hw : ∀ (i : Nat) d, env'[i]? = some (some d) → env[i]? = some (some d)) : RepE L G ι σ env' :=
  ⟨h.len.trans hl.symm, fun i d e => h.get i d (hw i d e)⟩
end Eng

set_option maxRecDepth 100000
set_option maxHeartbeats 4000000
namespace Eng
open PySem L2
variable {L : Lk} {X : Cx} {E : XK} {Wx : WX}

/-- how an exception stands: its class, its own dict -/
def XRep (L : Lk) (G : Hp) (ι : List Addr) (H : Hp) (x : Exn) (cls : Value) (d : Option Addr) : Prop :=
  cls = .ref (L.cA x.cls) ∧ match x.arg with
    | none => d = none
    | some a => ∃ dd v, d = some dd ∧ H dd = some (.xd [(L.xf x.cls, v)]) ∧ dd ∉ ι ∧ G dd = none ∧ Rep L G ι v a

def Post {α : Type} (L : Lk) (E : XK) (ι : List Addr) (G H : Hp) (r : R α) (k : α → Mem → List Addr → Hp → Hp → Prop) : Prop := match r with
  | .ok a m' => ∀ ι' G' H', Le ι G H ι' G' H' → W L ι' m' G' H' → k a m' ι' G' H'
  | .exn x m' => ∀ ι' G' H' cls d, Le ι G H ι' G' H' → W L ι' m' G' H' → XRep L G' ι' H' x cls d → E cls d H'
  | .bad => False

section
variable {α β : Type} {ι ι' ι1 : List Addr} {G G' G1 H H' H1 : Hp} {m m' : Mem} {r : R α} {k k' : α → Mem → List Addr → Hp → Hp → Prop}
theorem Post.later (h : Post L E ι G H r k) (l : Le ι G H ι1 G1 H1) : Post L E ι1 G1 H1 r k := by
  cases r with
  | ok a m' => exact fun ι' G' H' l' w => h ι' G' H' (l.trans l') w
  | exn x m' => exact fun ι' G' H' cls d l' w => h ι' G' H' cls d (l.trans l') w
  | bad => exact h
theorem Post.imp (h : Post L E ι G H r k) (hk : ∀ a m' ι' G' H', Le ι G H ι' G' H' → W L ι' m' G' H' → k a m' ι' G' H' → k' a m' ι' G' H') : Post L E ι G H r k' := by
  cases r with
  | ok a m' => exact fun ι' G' H' l w => hk a m' ι' G' H' l w (h ι' G' H' l w)
  | exn x m' => exact h
  | bad => exact h
theorem Post.bind {x : M α} {f : α → M β} {k : β → Mem → List Addr → Hp → Hp → Prop} (h : Post L E ι G H ((x >>= f) m) k) :
    Post L E ι G H (x m) fun a m1 ι1 G1 H1 => Post L E ι1 G1 H1 (f a m1) k := by
  have e : (x >>= f) m = M.bind x f m := rfl
  rw [e] at h
  unfold M.bind at h
  cases q : x m with
  | ok a m1 => rw [q] at h; exact fun ι1 G1 H1 l w => Post.later h l
  | exn y m1 => rw [q] at h; exact h
  | bad => rw [q] at h; exact h
theorem Post.at {a : α} (h : Post L E ι G H (.ok a m) k) (w : W L ι m G H) : k a m ι G H := h ι G H Le.refl w
end


/-- what an expression's result is wanted for -/
abbrev PV (L : Lk) (E : XK) (ι : List Addr) (G H : Hp) (r : R D) (Q : VK) : Prop := Post L E ι G H r fun d _ ι' G' H' => ∀ v, Rep L G' ι' v d → Q v H'
abbrev PB (L : Lk) (E : XK) (ι : List Addr) (G H : Hp) (r : R Bool) (Q : Bool → Hp → Prop) : Prop := Post L E ι G H r fun d _ _ _ H' => Q d H'
abbrev PL (L : Lk) (E : XK) (ι : List Addr) (G H : Hp) (r : R (List D)) (Q : List V → Hp → Prop) : Prop := Post L E ι G H r fun d _ ι' G' H' => ∀ v, RepL L G' ι' v d → Q v H'
def RE (L : Lk) (Wx : WX) (t : TE) (f : Env → M D) : Prop := ∀ (σ : L2.St) (H : Hp) (Q : VK) (env : Env) (ι : List Addr) (m : Mem) (G : Hp), W L ι m G H → RepE L G ι σ env → PV L (fun c d H => Wx c d σ H) ι G H (f env m) Q → t σ H Q
def RT (L : Lk) (Wx : WX) (t : TT) (f : Env → M Bool) : Prop := ∀ (σ : L2.St) (H : Hp) (Q : Bool → Hp → Prop) (env : Env) (ι : List Addr) (m : Mem) (G : Hp), W L ι m G H → RepE L G ι σ env → PB L (fun c d H => Wx c d σ H) ι G H (f env m) Q → t σ H Q
def RA (L : Lk) (Wx : WX) (t : TA) (f : Env → M (List D)) : Prop := ∀ (σ : L2.St) (H : Hp) (Q : List V → Hp → Prop) (env : Env) (ι : List Addr) (m : Mem) (G : Hp), W L ι m G H → RepE L G ι σ env → PL L (fun c d H => Wx c d σ H) ι G H (f env m) Q → t σ H Q
/-- an expression, a test, arguments -/
structure SE (X : Cx) (L : Lk) (Wx : WX) (e : Expr) (f : Env → M D) : Prop where
  ex : ∃ t, PE X e t ∧ RE L Wx t f
structure ST (X : Cx) (L : Lk) (Wx : WX) (e : Expr) (f : Env → M Bool) : Prop where
  ex : ∃ t, PT X e t ∧ RT L Wx t f
structure SA (X : Cx) (L : Lk) (Wx : WX) (es : List Expr) (f : Env → M (List D)) : Prop where
  ex : ∃ t, PA X es t ∧ RA L Wx t f
  len : ∀ env m l m', f env m = .ok l m' → l.length = es.length
  star : ∀ e r, es = e :: r → starEach (e :: r) X.env = (false, eval e X.env) :: starEach r X.env
  plain : ∀ pos, (backTo pos (starEach es X.env)).any (·.1) = false

/-! ### names, constants -/
def getE (env : Env) (i : Nat) : M D := M.of (env[i]?.getD none)
theorem post_of {α : Type} {o : Option α} {ι : List Addr} {G H : Hp} {m : Mem} {k : α → Mem → List Addr → Hp → Hp → Prop} (h : Post L E ι G H (M.of o m) k) (w : W L ι m G H) : ∃ d, o = some d ∧ k d m ι G H := by
  unfold M.of at h
  cases o with
  | none => exact h.elim
  | some d => exact ⟨d, rfl, Post.at h w⟩
theorem post_getE {env : Env} {i : Nat} {ι : List Addr} {G H : Hp} {m : Mem} {k : D → Mem → List Addr → Hp → Hp → Prop} (h : Post L E ι G H (getE env i m) k) (w : W L ι m G H) : ∃ d, env[i]? = some (some d) ∧ k d m ι G H := by
  obtain ⟨d, e, q⟩ := post_of h w
  cases e2 : env[i]? with
  | none => rw [e2] at e; cases e
  | some o => rw [e2] at e; exact ⟨d, congrArg some e, q⟩
theorem se_var {i : Nat} {x : Str} {pos : Pos} (hN : X.N[i]? = some x) (hv : Vis X.env.scope x) (hd : (x == ("__debug__" : Str)) = false) (hcd : (x == ("__classdict__" : Str)) = false) : SE X L Wx (.Name x pos) (fun env => getE env i) := by
  refine ⟨_, pe_var hN hv hd hcd, fun σ H Q env ι m G w r q => ?_⟩
  obtain ⟨d, e, q⟩ := post_getE q w
  obtain ⟨v, h1, h2⟩ := r.get i d e
  exact ⟨v, h1, q v h2⟩
theorem se_c {e : Expr} {v : V} {d : D} (h : PE X e (tC v)) (r : ∀ G ι, Rep L G ι v d) : SE X L Wx e (fun _ => pure d) :=
  ⟨_, h, fun σ H Q env ι m G w rr q => (Post.at q w) v (r _ _)⟩
theorem se_int {i j pos} : SE X L Wx (.Constant (.int i) j pos) (fun _ => pure (.int i)) := se_c pe_int fun _ _ => .int i
theorem se_bl {b j pos} : SE X L Wx (.Constant (.bool b) j pos) (fun _ => pure (.bl b)) := se_c pe_bl fun _ _ => .bl b
theorem se_non {j pos} : SE X L Wx (.Constant .none j pos) (fun _ => pure .non) := se_c pe_non fun _ _ => .non
theorem se_str {x j pos} : SE X L Wx (.Constant (.str x) j pos) (fun _ => pure (.str x)) := se_c pe_str fun _ _ => .str x

/-! ### operations on values -/
def SO (L : Lk) (r : R2) (f : D → D → M D) : Prop := ∀ (E : XK) (ι : List Addr) (m : Mem) (G H : Hp) (x y : V) (a b : D) (Q : VK), W L ι m G H → Rep L G ι x a → Rep L G ι y b → PV L E ι G H (f a b m) Q → r x y H Q
def SU (L : Lk) (r : V → Hp → VK → Prop) (f : D → M D) : Prop := ∀ (E : XK) (ι : List Addr) (m : Mem) (G H : Hp) (x : V) (a : D) (Q : VK), W L ι m G H → Rep L G ι x a → PV L E ι G H (f a m) Q → r x H Q
def SC (L : Lk) (r : List V → Hp → VK → Prop) (f : List D → M D) : Prop := ∀ (E : XK) (ι : List Addr) (m : Mem) (G H : Hp) (x : List V) (a : List D) (Q : VK), W L ι m G H → RepL L G ι x a → PV L E ι G H (f a m) Q → r x H Q
def SM (L : Lk) (r : V → List V → Hp → VK → Prop) (f : D → List D → M D) : Prop := ∀ (E : XK) (ι : List Addr) (m : Mem) (G H : Hp) (o : V) (x : List V) (d : D) (a : List D) (Q : VK), W L ι m G H → Rep L G ι o d → RepL L G ι x a → PV L E ι G H (f d a m) Q → r o x H Q
section
variable {ta tb tc : TE} {fa fb fc : Env → M D} {r : R2} {f : D → D → M D}
theorem re_two (ho : SO L r f) (ha : RE L Wx ta fa) (hb : RE L Wx tb fb) : RE L Wx (tOp r ta tb) (fun env => do let x ← fa env; let y ← fb env; f x y) := by
  intro σ H Q env ι m G w rr q
  refine ha σ H _ env ι m G w rr (Post.imp (Post.bind q) fun da m1 ι1 G1 H1 l1 w1 q1 x rx => ?_)
  refine hb σ H1 _ env ι1 m1 G1 w1 (rr.le l1) (Post.imp (Post.bind q1) fun db m2 ι2 G2 H2 l2 w2 q2 y ry => ?_)
  exact ho _ ι2 m2 G2 H2 x y da db Q w2 (rx.le l2) ry q2
theorem re_un {r : V → Hp → VK → Prop} {f : D → M D} (ho : SU L r f) (ha : RE L Wx ta fa) : RE L Wx (tUn r ta) (fun env => do let x ← fa env; f x) := by
  intro σ H Q env ι m G w rr q
  refine ha σ H _ env ι m G w rr (Post.imp (Post.bind q) fun da m1 ι1 G1 H1 l1 w1 q1 x rx => ?_)
  exact ho _ ι1 m1 G1 H1 x da Q w1 rx q1
theorem re_call {r : List V → Hp → VK → Prop} {f : List D → M D} {t : TA} {g : Env → M (List D)} (ho : SC L r f) (ha : RA L Wx t g) : RE L Wx (tCB r t) (fun env => do let x ← g env; f x) := by
  intro σ H Q env ι m G w rr q
  refine ha σ H _ env ι m G w rr (Post.imp (Post.bind q) fun da m1 ι1 G1 H1 l1 w1 q1 x rx => ?_)
  exact ho _ ι1 m1 G1 H1 x da Q w1 rx q1
theorem ra_nil : RA L Wx tNil (fun _ => pure []) := fun σ H Q env ι m G w rr q => (Post.at q w) [] .nil
theorem ra_cons {t : TA} {g : Env → M (List D)} (ha : RE L Wx ta fa) (hr : RA L Wx t g) : RA L Wx (tCons ta t) (fun env => do let x ← fa env; let y ← g env; pure (x :: y)) := by
  intro σ H Q env ι m G w rr q
  refine ha σ H _ env ι m G w rr (Post.imp (Post.bind q) fun da m1 ι1 G1 H1 l1 w1 q1 x rx => ?_)
  refine hr σ H1 _ env ι1 m1 G1 w1 (rr.le l1) (Post.imp (Post.bind q1) fun db m2 ι2 G2 H2 l2 w2 q2 y ry => ?_)
  exact (Post.at q2 w2) (x :: y) (.cons (rx.le l2) ry)
end
theorem se_op {op : Operator} {a b : Expr} {fa fb : Env → M D} {r : R2} {f : D → D → M D} {pos : Pos} (hr : OpR X (binaryOp op) r) (ho : SO L r f) (ha : SE X L Wx a fa) (hb : SE X L Wx b fb) :
    SE X L Wx (.BinOp a op b pos) (fun env => do let x ← fa env; let y ← fb env; f x y) := by
  obtain ⟨ta, pa, ha⟩ := ha
  obtain ⟨tb, pb, hb⟩ := hb
  exact ⟨_, pe_op hr pa pb, re_two ho ha hb⟩
theorem se_cmp {op : CmpOp} {a b : Expr} {fa fb : Env → M D} {r : R2} {f : D → D → M D} {pos : Pos} (hr : OpR X (compareOp op) r) (ho : SO L r f) (ha : SE X L Wx a fa) (hb : SE X L Wx b fb) (hm : behindInMarks op b = false) :
    SE X L Wx (.Compare a [op] [b] pos) (fun env => do let x ← fa env; let y ← fb env; f x y) := by
  obtain ⟨ta, pa, ha⟩ := ha
  obtain ⟨tb, pb, hb⟩ := hb
  exact ⟨_, pe_cmpR hr pa pb hm, re_two ho ha hb⟩
/-- a bool, or stuck -/
def asB : D → M Bool
  | .bl b => pure b
  | _ => M.fail
theorem post_asB {d : D} {ι : List Addr} {G H : Hp} {m : Mem} {k : Bool → Mem → List Addr → Hp → Hp → Prop} (h : Post L E ι G H (asB d m) k) (w : W L ι m G H) : ∃ b, d = .bl b ∧ k b m ι G H := by
  cases d with
  | bl b => exact ⟨b, rfl, Post.at h w⟩
  | _ => exact h.elim
theorem rt_test {ta : TE} {fa : Env → M D} (ha : RE L Wx ta fa) : RT L Wx (tTest ta) (fun env => do let x ← fa env; asB x) := by
  intro σ H Q env ι m G w rr q
  refine ha σ H _ env ι m G w rr (Post.imp (Post.bind q) fun da m1 ι1 G1 H1 l1 w1 q1 x rx => ?_)
  obtain ⟨b, rfl, q2⟩ := post_asB q1 w1
  cases rx
  exact ⟨b, rfl, q2⟩
theorem st_cmp {op : CmpOp} {a b : Expr} {fa fb : Env → M D} {r : R2} {f : D → D → M D} {pos : Pos} (hr : OpR X (compareOp op) r) (ho : SO L r f) (ha : SE X L Wx a fa) (hb : SE X L Wx b fb) (hm : behindInMarks op b = false) :
    ST X L Wx (.Compare a [op] [b] pos) (fun env => do let z ← (do let x ← fa env; let y ← fb env; f x y); asB z) := by
  obtain ⟨ta, pa, ha⟩ := ha
  obtain ⟨tb, pb, hb⟩ := hb
  exact ⟨_, pt_cmpR hr pa pb hm, rt_test (re_two ho ha hb)⟩
theorem OpR.or {f : Value → Value → Sem Value} {r r' : R2} (h : OpR X f r) (h' : OpR X f r') : OpR X f (fun x y H Q => r x y H Q ∨ r' x y H Q) := by
  intro pins s σ H x y v u Q I rx ry q
  rcases q with q | q
  · exact h pins s σ H x y v u Q I rx ry q
  · exact h' pins s σ H x y v u Q I rx ry q

/-! ### a new object: frozen, or a number of the memory -/
def obD : Ob → D
  | .lst l => .lst l
  | .dK ks vs => .dK ks vs
  | .dT ks vs => .dT ks vs
  | _ => .non
def Plain : Ob → Prop
  | .lst _ | .dK _ _ | .dT _ _ => True
  | _ => False
def mkNew (c : Bool) (o : Ob) : M D := fun m => if c then .ok (.ref m.length) (m ++ [o]) else .ok (obD o) m
theorem obRel_rep {G : Hp} {ι : List Addr} {p : Addr} {u : HO} {o : Ob} (ho : Plain o) (hG : G p = some u) (r : ObRel L G ι u o) : Rep L G ι (.ref p) (obD o) := by
  cases o with
  | lst l => cases u <;> first | exact .lst hG r | exact r.elim
  | dK ks l => cases u <;> first | (obtain ⟨vs, rfl, b, c⟩ := r; exact .dK (Rd.of hG) b c) | exact r.elim
  | dT ks l => cases u <;> first | (obtain ⟨vs, rfl, b, c⟩ := r; exact .dT (Rd.of hG) b c) | exact r.elim
  | _ => exact ho.elim
theorem place {ι0 ι : List Addr} {G0 H0 G H : Hp} {m : Mem} {c : Bool} {o : Ob} {Q : VK} {p : Addr} {u : HO} (q : PV L E ι0 G0 H0 (mkNew c o m) Q) (l : Le ι0 G0 H0 ι G H) (w : W L ι m G H) (ho : Plain o) (h0 : H0 p = none) (hp : H p = some u) (h1 : p ∉ ι) (h2 : G p = none) (r : ObRel L G ι u o) : Q (.ref p) H := by
  unfold mkNew at q
  cases c with
  | true => exact q _ _ _ (l.alloc h0) (w.alloc h1 h2 hp r) (.ref p) (.ref (by rw [List.getElem?_append_right (by rw [w.len]; exact Nat.le_refl _), w.len, Nat.sub_self]; rfl))
  | false => exact q _ _ _ (l.frz h0 h2) (w.frz h1 h2 hp) (.ref p) (obRel_rep ho upd_same (r.mono (upd_gle h2) (List.prefix_refl _)))
theorem new_ok {ι : List Addr} {G H : Hp} {m : Mem} {c : Bool} {o : Ob} {Q : VK} {p : Addr} {u : HO} (q : PV L E ι G H (mkNew c o m) Q) (w : W L ι m G H) (ho : Plain o) (hp : H p = none) (r : ObRel L G ι u o) : Q (.ref p) (upd H p u) :=
  place q (Le.new hp) (w.beside (w.fresh hp).1 (w.fresh hp).2) ho hp upd_same (w.fresh hp).1 (w.fresh hp).2 r
/-- a new tuple -/
theorem new_tup {ι : List Addr} {G H : Hp} {m : Mem} {Q : VK} {p : Addr} {vs : List V} {l : List D} (q : PV L E ι G H ((pure (.tup l) : M D) m) Q) (w : W L ι m G H) (hp : H p = none) (r : RepL L G ι vs l) : Q (.ref p) (upd H p (.tup vs)) := by
  have f := w.fresh hp
  exact q _ _ _ ((Le.new hp).frz hp f.2) ((w.beside f.1 f.2).frz f.1 f.2 upd_same) (.ref p) (.tup upd_same (r.mono (upd_gle f.2) (List.prefix_refl _)))

/-! ### what is read -/
def viewL (m : Mem) : D → Option (List D)
  | .lst l => some l
  | .ref k => match m[k]? with
    | some (.lst l) => some l
    | _ => none
  | _ => none
theorem W.sqL {ι : List Addr} {G H : Hp} {m : Mem} (w : W L ι m G H) {K : PySem.W.Frag} {a : Addr} {xs : List V} (h : SqL K G a xs) : SqL K H a xs := GLe.sqL (.of_same w.sub) h
theorem W.sqT {ι : List Addr} {G H : Hp} {m : Mem} (w : W L ι m G H) {K : PySem.W.Frag} {a : Addr} {xs : List V} (h : SqT K G a xs) : SqT K H a xs := GLe.sqT (.of_same w.sub) h
theorem view_list {ι : List Addr} {G H : Hp} {m : Mem} {v : V} {d : D} {l : List D} (w : W L ι m G H) (r : Rep L G ι v d) (e : viewL m d = some l) : ∃ a vs, v = .ref a ∧ H a = some (.lst vs) ∧ RepL L G ι vs l := by
  cases r with
  | lst a b => cases e; exact ⟨_, _, rfl, w.sub _ _ a, b⟩
  | ref hk =>
    rename_i a k
    unfold viewL at e
    dsimp only at e
    split at e
    · rename_i l' hm
      cases e
      obtain ⟨u, h1, h2⟩ := w.cell k a _ hk hm trivial
      cases u <;> first | exact ⟨_, _, rfl, h1, h2⟩ | exact h2.elim
    · cases e
  | _ => cases e
def viewT : D → Option (List D)
  | .tup l => some l
  | _ => none
theorem view_tup {ι : List Addr} {G H : Hp} {m : Mem} {v : V} {d : D} {l : List D} (w : W L ι m G H) (r : Rep L G ι v d) (e : viewT d = some l) : ∃ a vs, v = .ref a ∧ H a = some (.tup vs) ∧ RepL L G ι vs l := by
  cases r with
  | tup a b => cases e; exact ⟨_, _, rfl, w.sub _ _ a, b⟩
  | _ => cases e
/-- a mutable list -/
def cellL (m : Mem) : D → Option (Nat × List D)
  | .ref k => match m[k]? with
    | some (.lst l) => some (k, l)
    | _ => none
  | _ => none
theorem cell_list {ι : List Addr} {G H : Hp} {m : Mem} {v : V} {d : D} {k : Nat} {l : List D} (w : W L ι m G H) (r : Rep L G ι v d) (e : cellL m d = some (k, l)) :
    ∃ a vs, v = .ref a ∧ d = .ref k ∧ ι[k]? = some a ∧ m[k]? = some (.lst l) ∧ H a = some (.lst vs) ∧ RepL L G ι vs l := by
  cases r with
  | ref hk =>
    rename_i a k'
    unfold cellL at e
    dsimp only at e
    split at e
    · rename_i l' hm
      cases e
      obtain ⟨u, h1, h2⟩ := w.cell k a _ hk hm trivial
      cases u <;> first | exact ⟨_, _, rfl, rfl, hk, hm, h1, h2⟩ | exact h2.elim
    · cases e
  | _ => cases e
/-- a mutable object is changed in place; what comes is d -/
theorem set_ok {ι : List Addr} {G H : Hp} {m : Mem} {k : Nat} {a : Addr} {u : HO} {o o' : Ob} {d : D} {v : V} {Q : VK} (q : PV L E ι G H (.ok d (m.set k o')) Q) (w : W L ι m G H) (hk : ι[k]? = some a) (hm : m[k]? = some o) (hl : Live o) (r : ObRel L G ι u o') (rv : Rep L G ι v d) : Q v (upd H a u) :=
  q _ _ _ (Le.set (List.mem_of_getElem? hk)) (w.set hk hm hl fun _ => r) v rv
end Eng

set_option maxRecDepth 100000
set_option maxHeartbeats 4000000
namespace Eng
open PySem L2
variable {L : Lk} {X : Cx} {E : XK} {Wx : WX}

theorem post_ite {α : Type} {c : Prop} [Decidable c] {x : M α} {ι : List Addr} {G H : Hp} {m : Mem} {k : α → Mem → List Addr → Hp → Hp → Prop} (h : Post L E ι G H ((if c then x else M.fail) m) k) : c ∧ Post L E ι G H (x m) k := by
  by_cases hc : c
  · rw [if_pos hc] at h; exact ⟨hc, h⟩
  · rw [if_neg hc] at h; exact False.elim h

/-! ### arithmetic -/
def dNeg : D → M D
  | .int i => pure (.int (-i))
  | _ => M.fail
def dSub : D → D → M D
  | .int i, .int j => pure (.int (i - j))
  | _, _ => M.fail
def dDiv : D → D → M D
  | .int i, .int j => if 0 < j ∧ j < 1073741824 then pure (.int (i / j)) else M.fail
  | _, _ => M.fail
def dMod : D → D → M D
  | .int i, .int j => if 0 < j then pure (.int (i % j)) else M.fail
  | _, _ => M.fail
def dPow : D → D → M D
  | .int i, .int j => if 0 ≤ j ∧ j ≤ 1000000 ∧ i.natAbs < 2 ^ 64 then pure (.int (i ^ j.toNat)) else M.fail
  | _, _ => M.fail
theorem su_neg : SU L (rU fun i => .int (-i)) dNeg := fun E ι m G H x a Q w ra q => by
  cases ra with
  | int i => exact ⟨i, rfl, (Post.at q w) _ (.int _)⟩
  | _ => exact False.elim q
theorem so_sub : SO L (rI0 fun i j => .int (i - j)) dSub := fun E ι m G H x y a b Q w ra rb q => by
  cases ra with
  | int i => cases rb with
    | int j => exact ⟨i, j, rfl, rfl, (Post.at q w) _ (.int _)⟩
    | _ => exact False.elim q
  | _ => exact False.elim q
theorem so_div : SO L (rI CDiv fun i j => .int (i / j)) dDiv := fun E ι m G H x y a b Q w ra rb q => by
  cases ra with
  | int i => cases rb with
    | int j => obtain ⟨hc, q⟩ := post_ite q; exact ⟨i, j, rfl, rfl, hc, (Post.at q w) _ (.int _)⟩
    | _ => exact False.elim q
  | _ => exact False.elim q
theorem so_mod : SO L (rI (fun _ j => 0 < j) fun i j => .int (i % j)) dMod := fun E ι m G H x y a b Q w ra rb q => by
  cases ra with
  | int i => cases rb with
    | int j => obtain ⟨hc, q⟩ := post_ite q; exact ⟨i, j, rfl, rfl, hc, (Post.at q w) _ (.int _)⟩
    | _ => exact False.elim q
  | _ => exact False.elim q
theorem so_pow : SO L (rI CPow fun i j => .int (i ^ j.toNat)) dPow := fun E ι m G H x y a b Q w ra rb q => by
  cases ra with
  | int i => cases rb with
    | int j => obtain ⟨hc, q⟩ := post_ite q; exact ⟨i, j, rfl, rfl, hc, (Post.at q w) _ (.int _)⟩
    | _ => exact False.elim q
  | _ => exact False.elim q

/-- +: ints, texts, tuples, lists (a new list, mutable if c) -/
def dAdd (c : Bool) : D → D → M D
  | .int i, .int j => pure (.int (i + j))
  | .str i, .str j => if i.length + j.length ≤ sizeLine then pure (.str (i ++ j)) else M.fail
  | .tup a, .tup b => if a.length + b.length ≤ sizeLine then pure (.tup (a ++ b)) else M.fail
  | x, y => fun m => match viewL m x, viewL m y with
    | some a, some b => if a.length + b.length ≤ sizeLine then mkNew c (.lst (a ++ b)) m else .bad
    | _, _ => .bad
def rAddA (K : PySem.W.Frag) : R2 := fun x y H Q => rI0 (fun i j => .int (i + j)) x y H Q ∨ (∃ i j, x = .str i ∧ y = .str j ∧ i.length + j.length ≤ sizeLine ∧ Q (.str (i ++ j)) H) ∨ rCatA K x y H Q ∨ rCat x y H Q
theorem op_addA : OpR X (binaryOp .Add) (rAddA X.K) := OpR.or op_add (OpR.or op_add_str (OpR.or op_catA op_cat))
theorem cat_ok {c : Bool} {ι : List Addr} {m : Mem} {G H : Hp} {x y : V} {a b : D} {Q : VK} (w : W L ι m G H) (ra : Rep L G ι x a) (rb : Rep L G ι y b)
    (q : PV L E ι G H ((fun m => match viewL m a, viewL m b with
      | some a, some b => if a.length + b.length ≤ sizeLine then mkNew c (.lst (a ++ b)) m else .bad
      | _, _ => .bad : M D) m) Q) : rCat x y H Q := by
  dsimp only at q
  split at q
  · rename_i l1 l2 e1 e2
    split at q
    · rename_i hz
      obtain ⟨p1, vs, rfl, h1, r1⟩ := view_list w ra e1
      obtain ⟨p2, ws, rfl, h2, r2⟩ := view_list w rb e2
      refine ⟨p1, p2, vs, ws, rfl, rfl, h1, h2, by rw [r1.length, r2.length]; exact hz, fun p hp => new_ok q w trivial hp ?_⟩
      exact r1.append r2
    · exact False.elim q
  · exact False.elim q
theorem so_add {c : Bool} : SO L (rAddA L.K) (dAdd c) := fun E ι m G H x y a b Q w ra rb q => by
  have ra0 := ra
  have rb0 := rb
  cases ra with
  | int i => cases rb with
    | int j => exact .inl ⟨i, j, rfl, rfl, (Post.at q w) _ (.int _)⟩
    | _ => exact .inr (.inr (.inr (cat_ok (c := c) w ra0 rb0 q)))
  | str i => cases rb with
    | str j => obtain ⟨hc, q⟩ := post_ite q; exact .inr (.inl ⟨i, j, rfl, rfl, hc, (Post.at q w) _ (.str _)⟩)
    | _ => exact .inr (.inr (.inr (cat_ok (c := c) w ra0 rb0 q)))
  | tup h1 r1 => cases rb with
    | tup h2 r2 =>
      obtain ⟨hc, q⟩ := post_ite q
      rename_i l1 _ _ l2
      refine .inr (.inr (.inl ⟨_, _, _, _, rfl, rfl, SqT.of (w.sub _ _ h1), SqT.of (w.sub _ _ h2), by rw [r1.length, r2.length]; exact hc, fun e => ?_, fun _ e => ?_, fun _ _ p hp => new_tup q w hp (r1.append r2)⟩))
      · subst e; cases r1; exact (Post.at q w) _ (.tup h2 r2)
      · subst e; cases r2; exact (Post.at q w) _ (.tup h1 (by rw [List.append_nil]; exact r1))
    | _ => exact .inr (.inr (.inr (cat_ok (c := c) w ra0 rb0 q)))
  | _ => exact .inr (.inr (.inr (cat_ok (c := c) w ra0 rb0 q)))
/-- *: ints; a tuple (2 to 1000 times), a list -/
def dMul (c : Bool) : D → D → M D
  | .int i, .int j => if (-(2 ^ 64) < i ∧ i < 2 ^ 64) ∨ (-(2 ^ 64) < j ∧ j < 2 ^ 64) then pure (.int (i * j)) else M.fail
  | .tup a, .int k => if a ≠ [] ∧ 2 ≤ k ∧ k ≤ 1000 ∧ a.length ≤ 1000 then pure (.tup (List.replicate k.toNat a).flatten) else M.fail
  | x, .int k => fun m => match viewL m x with
    | some a => if -(2 ^ 63) ≤ k ∧ k < 2 ^ 63 ∧ a.length * k.toNat ≤ sizeLine then mkNew c (.lst (List.replicate k.toNat a).flatten) m else .bad
    | _ => .bad
  | _, _ => M.fail
theorem RepL.rep {G : Hp} {ι : List Addr} {vs : List V} {ds : List D} (r : RepL L G ι vs ds) : ∀ n : Nat, RepL L G ι (List.replicate n vs).flatten (List.replicate n ds).flatten
  | 0 => .nil
  | n + 1 => by rw [List.replicate_succ, List.replicate_succ, List.flatten_cons, List.flatten_cons]; exact r.append (RepL.rep r n)
def rMulA (K : PySem.W.Frag) : R2 := fun x y H Q => rI CMul (fun i j => .int (i * j)) x y H Q ∨ rRepT K x y H Q ∨ rRep x y H Q
theorem op_mulA : OpR X (binaryOp .Mult) (rMulA X.K) := OpR.or op_mul (OpR.or op_repT op_rep)
theorem rep_ok {c : Bool} {ι : List Addr} {m : Mem} {G H : Hp} {x : V} {a : D} {k : Int} {Q : VK} (w : W L ι m G H) (ra : Rep L G ι x a)
    (q : PV L E ι G H ((fun m => match viewL m a with
      | some a => if -(2 ^ 63) ≤ k ∧ k < 2 ^ 63 ∧ a.length * k.toNat ≤ sizeLine then mkNew c (.lst (List.replicate k.toNat a).flatten) m else .bad
      | _ => .bad : M D) m) Q) : rRep x (.int k) H Q := by
  dsimp only at q
  split at q
  · rename_i l1 e1
    split at q
    · rename_i hz
      obtain ⟨p1, vs, rfl, h1, r1⟩ := view_list w ra e1
      exact ⟨p1, k, vs, rfl, rfl, h1, hz.1, hz.2.1, by rw [r1.length]; exact hz.2.2, fun p hp => new_ok q w trivial hp (r1.rep _)⟩
    · exact False.elim q
  · exact False.elim q
theorem so_mul {c : Bool} : SO L (rMulA L.K) (dMul c) := fun E ι m G H x y a b Q w ra rb q => by
  have ra0 := ra
  cases rb with
  | int k =>
    cases ra with
    | int i => obtain ⟨hc, q⟩ := post_ite q; exact .inl ⟨i, k, rfl, rfl, hc, (Post.at q w) _ (.int _)⟩
    | tup h1 r1 =>
      obtain ⟨hc, q⟩ := post_ite q
      refine .inr (.inl ⟨_, k, _, rfl, rfl, SqT.of (w.sub _ _ h1), fun e => hc.1 ?_, hc.2.1, hc.2.2.1, by rw [r1.length]; exact hc.2.2.2, fun p hp => new_tup q w hp (r1.rep _)⟩)
      subst e; cases r1; rfl
    | _ => exact .inr (.inr (rep_ok (c := c) w ra0 q))
  | _ => cases ra <;> exact False.elim q
end Eng

set_option maxRecDepth 100000
set_option maxHeartbeats 4000000
namespace Eng
open PySem PySem.Spec PyProof.Rows L2
variable {L : Lk} {X : Cx} {E : XK} {Wx : WX}

/-! ### data as the library's -/
mutual
def py0 : D → Option PyData
  | .non => some .none
  | .bl b => some (.bool b)
  | .int i => some (.int i)
  | .str s => some (.str s)
  | .tup l => (py0L l).map .tuple
  | .lst l => (py0L l).map .list
  | _ => none
def py0L : List D → Option (List PyData)
  | [] => some []
  | d :: ds => match py0 d, py0L ds with
    | some x, some xs => some (x :: xs)
    | _, _ => none
end
/-- a mutable list at hand as data -/
def pyM (m : Mem) (d : D) : Option PyData := match viewL m d with
  | some l => (py0L l).map .list
  | none => py0 d
mutual
theorem dp_of {ι : List Addr} {G H : Hp} {m : Mem} (w : W L ι m G H) : ∀ {d : D} {v : V} {p : PyData}, Rep L G ι v d → py0 d = some p → Dp L.K H v p
  | .non, _, _, r, e => by cases r; cases e; exact .non
  | .bl _, _, _, r, e => by cases r; cases e; exact .bl _
  | .int _, _, _, r, e => by cases r; cases e; exact .int _
  | .str _, _, _, r, e => by cases r; cases e; exact .str _
  | .tup l, _, _, r, e => by
    unfold py0 at e
    cases q : py0L l with
    | none => rw [q] at e; cases e
    | some ps =>
      rw [q] at e; cases e
      cases r with | tup h1 h2 => exact .tup (SqT.of (w.sub _ _ h1)) (dpAll_of w h2 q)
  | .lst l, _, _, r, e => by
    unfold py0 at e
    cases q : py0L l with
    | none => rw [q] at e; cases e
    | some ps =>
      rw [q] at e; cases e
      cases r with | lst h1 h2 => exact .lst (SqL.of (w.sub _ _ h1)) (dpAll_of w h2 q)
  | .dK _ _, _, _, _, e => by unfold py0 at e; cases e
  | .dT _ _, _, _, _, e => by unfold py0 at e; cases e
  | .ins _ _ _, _, _, _, e => by unfold py0 at e; cases e
  | .ref _, _, _, _, e => by unfold py0 at e; cases e
  | .fn _, _, _, _, e => by unfold py0 at e; cases e
  | .scr _, _, _, _, e => by unfold py0 at e; cases e
theorem dpAll_of {ι : List Addr} {G H : Hp} {m : Mem} (w : W L ι m G H) : ∀ {ds : List D} {vs : List V} {ps : List PyData}, RepL L G ι vs ds → py0L ds = some ps → DpAll L.K H vs ps
  | [], _, _, r, e => by cases r; cases e; exact .nil
  | d :: ds, _, _, r, e => by
    unfold py0L at e
    cases r with
    | cons r1 r2 =>
      split at e
      · rename_i x xs e1 e2
        cases e
        exact .cons (dp_of w r1 e1) (dpAll_of w r2 e2)
      · cases e
end
theorem dpM_of {ι : List Addr} {G H : Hp} {m : Mem} (w : W L ι m G H) {d : D} {v : V} {p : PyData} (r : Rep L G ι v d) (e : pyM m d = some p) : Dp L.K H v p := by
  unfold pyM at e
  split at e
  · rename_i l hl
    obtain ⟨a, vs, rfl, h1, h2⟩ := view_list w r hl
    cases q : py0L l with
    | none => rw [q] at e; cases e
    | some ps => rw [q] at e; cases e; exact .lst (SqL.of h1) (dpAll_of w h2 q)
  · exact dp_of w r e

/-! ### == and != of data -/
def eqD (m : Mem) (a b : D) : Option Bool := match pyM m a, pyM m b with
  | some x, some y => if SeqAt.shaped x = true ∧ SeqAt.shaped y = true then some (PyData.eqv x y) else none
  | _, _ => none
/-- two texts -/
def strsD : D → D → Option Bool
  | .str x, .str y => some (x == y)
  | _, _ => none
theorem strsD_some {a b : D} {r : Bool} (h : strsD a b = some r) : ∃ x y, a = .str x ∧ b = .str y ∧ r = (x == y) := by
  unfold strsD at h
  split at h
  · cases h; exact ⟨_, _, rfl, rfl, rfl⟩
  · cases h
def dEq (neg : Bool) (a b : D) : M D := fun m => match strsD a b with
  | some r => .ok (.bl (if neg then !r else r)) m
  | none => match eqD m a b with
    | some r => .ok (.bl (if neg then !r else r)) m
    | none => .bad
theorem eqD_some {m : Mem} {a b : D} {r : Bool} (h : eqD m a b = some r) : ∃ x y, pyM m a = some x ∧ pyM m b = some y ∧ SeqAt.shaped x = true ∧ SeqAt.shaped y = true ∧ r = PyData.eqv x y := by
  unfold eqD at h
  split at h
  · rename_i x y e1 e2
    split at h
    · rename_i hs
      cases h
      exact ⟨x, y, e1, e2, hs.1, hs.2, rfl⟩
    · cases h
  · cases h
theorem so_eq : SO L (fun x y H Q => rEq x y H Q ∨ rEqD L.K x y H Q) (dEq false) := fun E ι m G H x y a b Q w ra rb q => by
  unfold dEq at q
  split at q
  · rename_i r e
    obtain ⟨z, u, rfl, rfl, rfl⟩ := strsD_some e
    cases ra
    cases rb
    exact .inl ⟨rfl, by rw [dec_str]; exact (Post.at q w) _ (.bl _)⟩
  · split at q
    · rename_i r e
      obtain ⟨p1, p2, e1, e2, s1, s2, rfl⟩ := eqD_some e
      exact .inr ⟨p1, p2, dpM_of w ra e1, dpM_of w rb e2, s1, s2, (Post.at q w) _ (.bl _)⟩
    · exact False.elim q
theorem so_ne : SO L (fun x y H Q => rNe x y H Q ∨ rNeD L.K x y H Q) (dEq true) := fun E ι m G H x y a b Q w ra rb q => by
  unfold dEq at q
  split at q
  · rename_i r e
    obtain ⟨z, u, rfl, rfl, rfl⟩ := strsD_some e
    cases ra
    cases rb
    exact .inl ⟨rfl, by rw [dec_str]; exact (Post.at q w) _ (.bl _)⟩
  · split at q
    · rename_i r e
      obtain ⟨p1, p2, e1, e2, s1, s2, rfl⟩ := eqD_some e
      exact .inr ⟨p1, p2, dpM_of w ra e1, dpM_of w rb e2, s1, s2, (Post.at q w) _ (.bl _)⟩
    · exact False.elim q

/-! ### <, <=, >, >=: ints; tuples of ints; texts (<) -/
def intsD : List D → Option (List Int)
  | [] => some []
  | .int i :: r => (intsD r).map (i :: ·)
  | _ :: _ => none
theorem ints_rep {G : Hp} {ι : List Addr} : ∀ {ds : List D} {vs : List V} {ns : List Int}, RepL L G ι vs ds → intsD ds = some ns → vs = ns.map V.int
  | [], _, _, r, e => by cases r; cases e; rfl
  | d :: ds, _, _, r, e => by
    cases r with
    | cons r1 r2 =>
      cases r1 with
      | int i =>
        unfold intsD at e
        cases q : intsD ds with
        | none => rw [q] at e; cases e
        | some ns => rw [q] at e; cases e; rw [ints_rep r2 q]; rfl
      | _ => cases e
def lexLe (ns ms : List Int) : Bool := Ob.lexAt (fun j => decide (ns.getD j 0 = ms.getD j 0)) (fun j => decide (ns.getD j 0 ≤ ms.getD j 0)) (decide (ns.length ≤ ms.length)) 0 (min ns.length ms.length)
def lexGe (ns ms : List Int) : Bool := Ob.lexAt (fun j => decide (ns.getD j 0 = ms.getD j 0)) (fun j => decide (ms.getD j 0 ≤ ns.getD j 0)) (decide (ns.length ≥ ms.length)) 0 (min ns.length ms.length)
def cmpT : Option (List Int → List Int → Bool) → Option (List Int) → Option (List Int) → M D
  | some f, some ns, some ms => pure (.bl (f ns ms))
  | _, _, _ => M.fail
theorem post_cmpT {ft : Option (List Int → List Int → Bool)} {a b : Option (List Int)} {ι : List Addr} {G H : Hp} {m : Mem} {k : D → Mem → List Addr → Hp → Hp → Prop} (h : Post L E ι G H (cmpT ft a b m) k) (w : W L ι m G H) :
    ∃ f ns ms, ft = some f ∧ a = some ns ∧ b = some ms ∧ k (.bl (f ns ms)) m ι G H := by
  cases ft with
  | none => exact False.elim h
  | some f => cases a with
    | none => exact False.elim h
    | some ns => cases b with
      | none => exact False.elim h
      | some ms => exact ⟨f, ns, ms, rfl, rfl, rfl, Post.at h w⟩
def cmp2 (fi : Int → Int → Bool) (ft : Option (List Int → List Int → Bool)) : D → D → M D
  | .int i, .int j => pure (.bl (fi i j))
  | .tup a, .tup b => cmpT ft (intsD a) (intsD b)
  | _, _ => M.fail
def dLt : D → D → M D := cmp2 (fun i j => decide (i < j)) (some HT.lexLt)
def dLe : D → D → M D := cmp2 (fun i j => decide (i ≤ j)) (some lexLe)
def dGt : D → D → M D := cmp2 (fun i j => decide (j < i)) none
def dGe : D → D → M D := cmp2 (fun i j => decide (j ≤ i)) (some lexGe)
def rTI (K : PySem.W.Frag) (f : List Int → List Int → Bool) : R2 := fun x y H Q => ∃ (a b : Addr) (ns ms : List Int), x = .ref a ∧ y = .ref b ∧ SqT K H a (ns.map V.int) ∧ SqT K H b (ms.map V.int) ∧ Q (.bl (f ns ms)) H
theorem so_cmp {fi : Int → Int → Bool} {f : List Int → List Int → Bool} : SO L (fun x y H Q => rI0 (fun i j => .bl (fi i j)) x y H Q ∨ rTI L.K f x y H Q) (cmp2 fi (some f)) := fun E ι m G H x y a b Q w ra rb q => by
  cases ra with
  | int i => cases rb with
    | int j => exact .inl ⟨i, j, rfl, rfl, (Post.at q w) _ (.bl _)⟩
    | _ => exact False.elim q
  | tup h1 r1 => cases rb with
    | tup h2 r2 =>
      have q : PV L E ι G H (cmpT (some f) (intsD _) (intsD _) m) Q := q
      obtain ⟨f', ns, ms, e0, e1, e2, q⟩ := post_cmpT q w
      cases e0
      rw [ints_rep r1 e1] at h1
      rw [ints_rep r2 e2] at h2
      exact .inr ⟨_, _, ns, ms, rfl, rfl, SqT.of (w.sub _ _ h1), SqT.of (w.sub _ _ h2), q _ (.bl _)⟩
    | _ => exact False.elim q
  | _ => exact False.elim q
theorem so_cmp0 {fi : Int → Int → Bool} : SO L (rI0 (fun i j => .bl (fi i j))) (cmp2 fi none) := fun E ι m G H x y a b Q w ra rb q => by
  cases ra with
  | int i => cases rb with
    | int j => exact ⟨i, j, rfl, rfl, (Post.at q w) _ (.bl _)⟩
    | _ => exact False.elim q
  | tup h1 r1 => cases rb with
    | tup h2 r2 => exact False.elim q
    | _ => exact False.elim q
  | _ => exact False.elim q
theorem op_ltI : OpR X (compareOp .Lt) (rI0 fun i j => .bl (decide (i < j))) := opB0 fun _ _ _ _ _ _ _ h => PyProof.Rows.lt_int h
theorem op_leI : OpR X (compareOp .LtE) (rI0 fun i j => .bl (decide (i ≤ j))) := opB0 fun _ _ _ _ _ _ _ h => PyProof.Rows.le_int h
theorem op_gtI : OpR X (compareOp .Gt) (rI0 fun i j => .bl (decide (j < i))) := opB0 fun _ _ _ _ _ _ _ h => PyProof.Rows.gt_int h
theorem op_geI : OpR X (compareOp .GtE) (rI0 fun i j => .bl (decide (j ≤ i))) := opB0 fun _ _ _ _ _ _ _ h => PyProof.Rows.ge_int h
theorem op_ltA (hu : X.A.units < cLine) : OpR X (compareOp .Lt) (fun x y H Q => rI0 (fun i j => .bl (decide (i < j))) x y H Q ∨ rTI X.K HT.lexLt x y H Q) := op_ltI.or (op_ltT hu)
theorem op_leA (hu : X.A.units < cLine) : OpR X (compareOp .LtE) (fun x y H Q => rI0 (fun i j => .bl (decide (i ≤ j))) x y H Q ∨ rTI X.K lexLe x y H Q) := op_leI.or (op_leT hu)
theorem op_geT (hu : X.A.units < cLine) : OpR X (compareOp .GtE) (rTI X.K lexGe) := by
  intro pins s σ H x y v u Q I rx ry h
  obtain ⟨a, b, ns, ms, rfl, rfl, ha, hb, q⟩ := h
  cases rx
  cases ry
  obtain ⟨its, r1, p1, _⟩ := I.tuple ha
  obtain ⟨its2, r2, p2, _⟩ := I.tuple hb
  have i1 : IntsAre its ns := Vals.ints r1
  have i2 : IntsAre its2 ms := Vals.ints r2
  have e1 : its.toArray.size = ns.length := by rw [List.size_toArray]; exact i1.length
  have e2 : its2.toArray.size = ms.length := by rw [List.size_toArray]; exact i2.length
  have at1 : ∀ j (h1 : j < its.toArray.size), ∃ t, its.toArray[j] = .int (ns.getD j 0) t := fun j h1 => PyProof.Rows.IntsAre.int_at i1 _ _ (by simp at h1; simp [h1])
  have at2 : ∀ j (h1 : j < its2.toArray.size), ∃ t, its2.toArray[j] = .int (ms.getD j 0) t := fun j h1 => PyProof.Rows.IntsAre.int_at i2 _ _ (by simp at h1; simp [h1])
  have R := Ob.RcOp.tuples_ge (A := X.A) (s := s) (e := fun j => decide (ns.getD j 0 = ms.getD j 0)) (r := fun j => decide (ms.getD j 0 ≤ ns.getD j 0)) p1 p2 hu (fun j h1 h2 => by
    obtain ⟨t, et⟩ := at1 j h1
    obtain ⟨t', et'⟩ := at2 j h2
    rw [et, et']
    have z : (ns.getD j 0 == ms.getD j 0) = decide (ns.getD j 0 = ms.getD j 0) := by
      by_cases q : ns.getD j 0 = ms.getD j 0
      · rw [decide_eq_true q]; exact beq_iff_eq.mpr q
      · rw [decide_eq_false q]; exact beq_eq_false_iff_ne.mpr q
    rw [← z]
    exact SeqAt.EqAt.int_int _ _ _ _) (fun j h1 h2 _ => by
    obtain ⟨t, et⟩ := at1 j h1
    obtain ⟨t', et'⟩ := at2 j h2
    rw [et, et']
    exact Ob.RcOp.ge_int _ _ _ _)
  rw [e1, e2] at R
  have z : wpAny (model X.prog X.w) X.A (compareOp .GtE (.ref a) (.ref b)) (EP X pins σ Q) X.xe s := R X.prog X.w X.xe (EP X pins σ Q) ⟨.bl _, H, I, rfl, q⟩
  exact z
theorem op_geA (hu : X.A.units < cLine) : OpR X (compareOp .GtE) (fun x y H Q => rI0 (fun i j => .bl (decide (j ≤ i))) x y H Q ∨ rTI X.K lexGe x y H Q) := op_geI.or (op_geT hu)

/-! ### in, not in: lists, tuples -/
def viewS (m : Mem) (d : D) : Option (List D) := match viewL m d with
  | some l => some l
  | none => viewT d
theorem op_inS {neg : Bool} {op : CmpOp} (hop : op = if neg then .NotIn else .In) (hu : X.A.units + 65 < cLine) : OpR X (compareOp op) (fun x y H Q => ∃ d ds, Dp X.K H x d ∧ (Dp X.K H y (.list ds) ∨ Dp X.K H y (.tuple ds)) ∧ SeqAt.shaped d = true ∧ SeqAt.shaped (.list ds) = true ∧ Q (.bl (if neg then !(ds.any fun z => PyData.eqv z d) else ds.any fun z => PyData.eqv z d)) H) := by
  intro pins s σ H x y v u Q I rx ry h
  obtain ⟨d, ds, hd, he, sd, se, q⟩ := h
  subst hop
  obtain ⟨as, r1⟩ := Dp.reads I d x v hd rx
  have fin : ∀ b, b = (if neg then !(ds.any fun z => PyData.eqv z d) else ds.any fun z => PyData.eqv z d) → EP X pins σ Q (.bool b) s := fun b e => by subst e; exact ⟨.bl _, H, I, rfl, q⟩
  rcases he with he | he
  · obtain ⟨bs, r2⟩ := Dp.reads I (.list ds) y u he ry
    cases neg with
    | true => exact SeqAt.notIn_list_reads r2 r1 (SeqAt.canLay_of_shaped se) (SeqAt.canLay_of_shaped sd) (room_in_shaped sd hu) (fin _ rfl)
    | false => exact SeqAt.in_list_reads r2 r1 (SeqAt.canLay_of_shaped se) (SeqAt.canLay_of_shaped sd) (room_in_shaped sd hu) (fin _ rfl)
  · obtain ⟨bs, r2⟩ := Dp.reads I (.tuple ds) y u he ry
    cases neg with
    | true => exact SeqAt.notIn_tuple_reads r2 r1 (SeqAt.canLay_of_shaped se) (SeqAt.canLay_of_shaped sd) (room_in_shaped sd hu) (fin _ rfl)
    | false => exact SeqAt.in_tuple_reads r2 r1 (SeqAt.canLay_of_shaped se) (SeqAt.canLay_of_shaped sd) (room_in_shaped sd hu) (fin _ rfl)
/-- a dict's keys -/
def keyD : D → Option Key
  | .int i => some (.inl i)
  | .str s => some (.inr s)
  | _ => none
def keysD : List D → Option (List Key)
  | [] => some []
  | d :: ds => match keyD d, keysD ds with
    | some k, some ks => some (k :: ks)
    | _, _ => none
def find2 {κ : Type} [DecidableEq κ] : List κ → List D → κ → Option D
  | k :: ks, v :: vs, x => if k = x then some v else find2 ks vs x
  | _, _, _ => none
/-- what a dict holds at a key: none: no such dict or key -/
def look (m : Mem) (d y : D) : Option (Option D) :=
  let o : Option Ob := match d with
    | .dK ks vs => some (.dK ks vs)
    | .dT ks vs => some (.dT ks vs)
    | .ref k => m[k]?
    | _ => none
  match o, y with
  | some (.dK ks vs), y => (keyD y).map (find2 ks vs)
  | some (.dT ks vs), .tup l => (keysD l).map (find2 ks vs)
  | _, _ => none
theorem rep_key {G : Hp} {ι : List Addr} {v : V} {d : D} {k : Key} (r : Rep L G ι v d) (e : keyD d = some k) : v = kV k := by
  cases r <;> first | (cases e; rfl) | cases e
theorem rep_keys {G : Hp} {ι : List Addr} : ∀ {ds : List D} {vs : List V} {ks : List Key}, RepL L G ι vs ds → keysD ds = some ks → vs = ks.map kV
  | [], _, _, r, e => by cases r; cases e; rfl
  | d :: ds, _, _, r, e => by
    cases r with
    | cons r1 r2 =>
      unfold keysD at e
      split at e
      · rename_i k ks e1 e2
        cases e
        rw [rep_key r1 e1, rep_keys r2 e2]; rfl
      · cases e
/-- one is told of by the other -/
def ORep (L : Lk) (G : Hp) (ι : List Addr) : Option V → Option D → Prop
  | some v, some d => Rep L G ι v d
  | none, none => True
  | _, _ => False
theorem find2_ok {κ : Type} [DecidableEq κ] {G : Hp} {ι : List Addr} (x : κ) : ∀ {ks : List κ} {vs : List V} {ds : List D}, RepL L G ι vs ds → ks.length = ds.length → ORep L G ι (valV (ks.zip vs) x) (find2 ks ds x)
  | [], _, _, _, _ => by unfold find2; exact trivial
  | k :: ks, _, _, .nil, e => by cases e
  | k :: ks, v :: vs, d :: ds, .cons r t, e => by
    unfold find2 valV
    rw [List.zip_cons_cons, List.find?_cons]
    by_cases h : k = x
    · rw [if_pos h, decide_eq_true h]; exact r
    · rw [if_neg h, decide_eq_false h]; exact find2_ok x t (by simpa using e)
theorem look_ok {ι : List Addr} {G H : Hp} {m : Mem} {x y : V} {d b : D} {o : Option D} (w : W L ι m G H) (ra : Rep L G ι x d) (rb : Rep L G ι y b) (e : look m d b = some o) : ∃ a r, x = .ref a ∧ DGet H a y r ∧ ORep L G ι r o := by
  have rd : ∀ {a u}, Rd G a u → Rd H a u := fun {a u} h => (GLe.of_same w.sub).1 a u h
  cases ra with
  | dK h1 hl r1 =>
    unfold look at e
    dsimp only at e
    cases q : keyD b with
    | none => rw [q] at e; cases e
    | some k => rw [q] at e; cases e; exact ⟨_, _, rfl, .inl ⟨_, k, rd h1, rep_key rb q, rfl⟩, find2_ok k r1 hl⟩
  | dT h1 hl r1 =>
    cases rb with
    | tup h2 r2 =>
      unfold look at e
      dsimp only at e
      rename_i l
      cases q : keysD l with
      | none => rw [q] at e; cases e
      | some k =>
        rw [q] at e; cases e
        rw [rep_keys r2 q] at h2
        exact ⟨_, _, rfl, .inr ⟨_, k, _, rd h1, rfl, w.sub _ _ h2, rfl⟩, find2_ok k r1 hl⟩
    | _ => cases e
  | ref hk =>
    rename_i a k
    unfold look at e
    dsimp only at e
    cases hm : m[k]? with
    | none => rw [hm] at e; cases e
    | some ob =>
      rw [hm] at e
      cases ob with
      | dK ks vs =>
        obtain ⟨u, h1, h2⟩ := w.cell k a _ hk hm trivial
        cases u <;> try exact h2.elim
        obtain ⟨ws, rfl, hl, r1⟩ := h2
        dsimp only at e
        cases q : keyD b with
        | none => rw [q] at e; cases e
        | some k => rw [q] at e; cases e; exact ⟨_, _, rfl, .inl ⟨_, k, .inl h1, rep_key rb q, rfl⟩, find2_ok k r1 hl⟩
      | dT ks vs =>
        obtain ⟨u, h1, h2⟩ := w.cell k a _ hk hm trivial
        cases u <;> try exact h2.elim
        obtain ⟨ws, rfl, hl, r1⟩ := h2
        cases rb with
        | tup h2 r2 =>
          dsimp only at e
          rename_i l
          cases q : keysD l with
          | none => rw [q] at e; cases e
          | some k =>
            rw [q] at e; cases e
            rw [rep_keys r2 q] at h2
            exact ⟨_, _, rfl, .inr ⟨_, k, _, .inl h1, rfl, w.sub _ _ h2, rfl⟩, find2_ok k r1 hl⟩
        | _ => cases e
      | _ => cases e
  | _ => cases e
/-- x in y: lists, tuples; dicts; texts -/
def dIn (neg : Bool) (x y : D) : M D := fun m => match look m y x with
  | some o => .ok (.bl (if neg then !o.isSome else o.isSome)) m
  | none => match pyM m x, (viewS m y).bind py0L with
    | some d, some ds => if SeqAt.shaped d = true ∧ SeqAt.shaped (.list ds) = true then .ok (.bl (if neg then !(ds.any fun z => PyData.eqv z d) else ds.any fun z => PyData.eqv z d)) m else .bad
    | _, _ => match x, y with
      | .str a, .str b => .ok (.bl (if neg then !(!(Builtin.Str.occurrences b a 0 b.length 1).isEmpty) else !(Builtin.Str.occurrences b a 0 b.length 1).isEmpty)) m
      | _, _ => .bad
def rInA (K : PySem.W.Frag) (neg : Bool) : R2 := fun x y H Q => (∃ a o, y = .ref a ∧ DGet H a x o ∧ Q (.bl (if neg then !o.isSome else o.isSome)) H) ∨
  (∃ d ds, Dp K H x d ∧ (Dp K H y (.list ds) ∨ Dp K H y (.tuple ds)) ∧ SeqAt.shaped d = true ∧ SeqAt.shaped (.list ds) = true ∧ Q (.bl (if neg then !(ds.any fun z => PyData.eqv z d) else ds.any fun z => PyData.eqv z d)) H) ∨
  ∃ i j, x = .str i ∧ y = .str j ∧ Q (.bl (if neg then !(!(Builtin.Str.occurrences j i 0 j.length 1).isEmpty) else !(Builtin.Str.occurrences j i 0 j.length 1).isEmpty)) H
theorem op_in_dict (hu : X.A.units + 1 < cLine) : OpR X (compareOp .In) (fun x y H Q => ∃ a o, y = .ref a ∧ DGet H a x o ∧ Q (.bl o.isSome) H) := by
  intro pins s σ H x y v u Q I rx ry h
  obtain ⟨a, o, ey, g, q⟩ := h
  subst ey
  obtain rfl : u = Value.ref a := ry
  exact d_in hu I g rx fun s3 I3 => ⟨.bl o.isSome, H, I3, rfl, q⟩
theorem op_notIn_dict (hu : X.A.units + 1 < cLine) : OpR X (compareOp .NotIn) (fun x y H Q => ∃ a o, y = .ref a ∧ DGet H a x o ∧ Q (.bl (!o.isSome)) H) := by
  intro pins s σ H x y v u Q I rx ry h
  obtain ⟨a, o, ey, g, q⟩ := h
  subst ey
  obtain rfl : u = Value.ref a := ry
  exact d_notIn hu I g rx fun s3 I3 => ⟨.bl (!o.isSome), H, I3, rfl, q⟩
theorem op_inA (hu : X.A.units + 65 < cLine) : OpR X (compareOp .In) (rInA X.K false) := (op_in_dict (by omega)).or ((op_inS (neg := false) rfl hu).or op_in_str)
theorem op_notInA (hu : X.A.units + 65 < cLine) : OpR X (compareOp .NotIn) (rInA X.K true) := (op_notIn_dict (by omega)).or ((op_inS (neg := true) rfl hu).or op_notIn_str)
theorem so_in {neg : Bool} : SO L (rInA L.K neg) (dIn neg) := fun E ι m G H x y a b Q w ra rb q => by
  unfold dIn at q
  split at q
  · rename_i o e
    obtain ⟨p, r, rfl, g, ro⟩ := look_ok w rb ra e
    refine .inl ⟨p, r, rfl, g, ?_⟩
    have e2 : r.isSome = o.isSome := by
      cases r <;> cases o <;> first | rfl | exact ro.elim
    rw [e2]
    exact (Post.at q w) _ (.bl _)
  · split at q
    · rename_i d ds e1 e2
      split at q
      · rename_i hs
        refine .inr (.inl ⟨d, ds, dpM_of w ra e1, ?_, hs.1, hs.2, (Post.at q w) _ (.bl _)⟩)
        cases e3 : viewS m b with
        | none => rw [e3] at e2; cases e2
        | some l =>
          rw [e3] at e2
          have e2 : py0L l = some ds := e2
          unfold viewS at e3
          split at e3
          · rename_i l' e4
            cases e3
            obtain ⟨p, vs, rfl, h1, r1⟩ := view_list w rb e4
            exact .inl (.lst (SqL.of h1) (dpAll_of w r1 e2))
          · obtain ⟨p, vs, rfl, h1, r1⟩ := view_tup w rb e3
            exact .inr (.tup (SqT.of h1) (dpAll_of w r1 e2))
      · exact False.elim q
    · split at q
      · cases ra; cases rb
        exact .inr (.inr ⟨_, _, rfl, rfl, (Post.at q w) _ (.bl _)⟩)
      · exact False.elim q
end Eng

set_option maxRecDepth 100000
set_option maxHeartbeats 4000000
namespace Eng
open PySem PySem.Spec PyProof.Rows L2
variable {L : Lk} {X : Cx} {E : XK} {Wx : WX}

/-! ### subscripts -/
theorem ix_dict (hu : X.A.units + 1 < cLine) : IxR X (fun x y H Q => ∃ a v, x = .ref a ∧ DGet H a y (some v) ∧ Q v H) := by
  intro value slice pins s σ H x y v u Q I rx ry h hs
  obtain ⟨a, z, rfl, g, q⟩ := h
  cases rx
  have hT := dict_typeIs I g
  unfold subscriptTail
  refine wpAny_bind ?_
  rw [getitemInPython_of_ne hT.not_modules]
  refine wpAny_bind (wpAny_specialOf hT PySem.F.slot_dict_getitem.lookup ?_)
  have fin : wpAny (model X.prog X.w) X.A (subscripted slice false (.ref a) u) (fun r s₃ => wpAny (model X.prog X.w) X.A (letTemporaryGo value (.ref a) r >>= fun _ => pure r) (EP X pins σ Q) X.xe s₃) X.xe s := by
    rw [hs]
    exact wpAny_operating (d_getItem hu I g ry fun w' s3 I3 rw' => wpAny_bind (wpAny_letTemporaryGo (wpAny_pure ⟨z, H, I3, rw', q⟩)))
  first
    | exact wpAny_pure (wpAny_bind fin)
    | exact wpAny_bind (wpAny_pure (wpAny_bind fin))
    | exact wpAny_bind fin
def dIdx (x y : D) : M D := fun m => match viewS m x, y with
  | some l, .int i => match atI l i with
    | some d => .ok d m
    | none => .bad
  | _, _ => match x, y with
    | .str z, .int i => if z.length ≤ sizeLine then (match atI z.cps.toList i with
      | some c => .ok (.str ⟨#[c]⟩) m
      | none => .bad) else .bad
    | _, _ => match look m x y with
      | some (some d) => .ok d m
      | _ => .bad
def rIdxA (K : PySem.W.Frag) : R2 := fun x y H Q => rIx K x y H Q ∨ ∃ a v, x = .ref a ∧ DGet H a y (some v) ∧ Q v H
theorem ix_any (hu : X.A.units + 1 < cLine) : IxR X (rIdxA X.K) := ix_seq.or (ix_dict hu)
theorem atI_rep {G : Hp} {ι : List Addr} {vs : List V} {l : List D} {i : Int} {d : D} (r : RepL L G ι vs l) (e : atI l i = some d) : ∃ v, atI vs i = some v ∧ Rep L G ι v d := by
  unfold atI at e ⊢
  rw [r.length]
  cases q : ixN l.length i with
  | none => rw [q] at e; cases e
  | some j => rw [q] at e; exact r.get e
theorem so_idx : SO L (rIdxA L.K) dIdx := fun E ι m G H x y a b Q w ra rb q => by
  unfold dIdx at q
  split at q
  · rename_i l i e1
    split at q
    · rename_i d e2
      cases rb
      unfold viewS at e1
      split at e1
      · rename_i l' e4
        cases e1
        obtain ⟨p, vs, rfl, h1, r1⟩ := view_list w ra e4
        obtain ⟨v, e5, r5⟩ := atI_rep r1 e2
        exact .inl (.inl ⟨p, vs, i, v, rfl, rfl, SqL.of h1, e5, (Post.at q w) _ r5⟩)
      · obtain ⟨p, vs, rfl, h1, r1⟩ := view_tup w ra e1
        obtain ⟨v, e5, r5⟩ := atI_rep r1 e2
        exact .inl (.inr (.inl ⟨p, vs, i, v, rfl, rfl, SqT.of h1, e5, (Post.at q w) _ r5⟩))
    · exact False.elim q
  · split at q
    · rename_i z i _
      split at q
      · rename_i hz
        split at q
        · rename_i c e2
          cases ra; cases rb
          exact .inl (.inr (.inr ⟨_, _, c, rfl, rfl, hz, e2, (Post.at q w) _ (.str _)⟩))
        · exact False.elim q
      · exact False.elim q
    · split at q
      · rename_i d e
        obtain ⟨p, r, rfl, g, ro⟩ := look_ok w ra rb e
        cases r with
        | none => exact ro.elim
        | some v => exact .inr ⟨p, v, rfl, g, (Post.at q w) _ ro⟩
      · exact False.elim q
theorem se_idx {a b : Expr} {fa fb : Env → M D} {pos : Pos} (hu : X.A.units + 1 < cLine) (hK : X.K = L.K) (ha : SE X L Wx a fa) (hb : SE X L Wx b fb) (hs : PlainIx b) :
    SE X L Wx (.Subscript a b pos) (fun env => do let x ← fa env; let y ← fb env; dIdx x y) := by
  obtain ⟨ta, pa, ha⟩ := ha
  obtain ⟨tb, pb, hb⟩ := hb
  exact ⟨_, pe_ix (ix_any hu) pa pb hs, re_two (by rw [hK]; exact so_idx) ha hb⟩

/-! ### slices -/
def cutD (l : List D) (lo hi : Option Int) : List D := (l.drop (HT.sIx l.length 0 lo)).take (HT.sIx l.length l.length hi - HT.sIx l.length 0 lo)
theorem RepL.cut {G : Hp} {ι : List Addr} {vs : List V} {l : List D} (r : RepL L G ι vs l) (lo hi : Option Int) : RepL L G ι (cutV vs lo hi) (cutD l lo hi) := by
  unfold cutV cutD
  rw [r.length]
  exact (r.drop _).take _
/-- an optional part of a slice -/
def RO (L : Lk) (Wx : WX) (t : TO) (f : Env → M (Option Int)) : Prop := ∀ (σ : L2.St) (H : Hp) (Q : Option Int → Hp → Prop) (env : Env) (ι : List Addr) (m : Mem) (G : Hp), W L ι m G H → RepE L G ι σ env →
  Post L (fun c d H => Wx c d σ H) ι G H (f env m) (fun d _ _ _ H' => Q d H') → t σ H Q
structure SOp (X : Cx) (L : Lk) (Wx : WX) (e : Option Expr) (f : Env → M (Option Int)) : Prop where
  ex : ∃ t, PO X e t ∧ RO L Wx t f
def asI : D → M Int
  | .int i => pure i
  | _ => M.fail
theorem post_asI {d : D} {ι : List Addr} {G H : Hp} {m : Mem} {k : Int → Mem → List Addr → Hp → Hp → Prop} (h : Post L E ι G H (asI d m) k) (w : W L ι m G H) : ∃ b, d = .int b ∧ k b m ι G H := by
  cases d with
  | int b => exact ⟨b, rfl, Post.at h w⟩
  | _ => exact False.elim h
theorem so_none : SOp X L Wx none (fun _ => pure none) := ⟨_, po_none, fun σ H Q env ι m G w rr q => Post.at q w⟩
theorem so_some {e : Expr} {f : Env → M D} (h : SE X L Wx e f) : SOp X L Wx (some e) (fun env => do let x ← f env; let i ← asI x; pure (some i)) := by
  obtain ⟨t, p, h⟩ := h
  refine ⟨_, po_some p, fun σ H Q env ι m G w rr q => ?_⟩
  refine h σ H _ env ι m G w rr (Post.imp (Post.bind q) fun da m1 ι1 G1 H1 l1 w1 q1 x rx => ?_)
  obtain ⟨i, rfl, q2⟩ := post_asI (Post.bind q1) w1
  cases rx
  exact ⟨i, rfl, Post.at q2 w1⟩
def dCut (c : Bool) (x : D) (lo hi : Option Int) : M D := fun m => match viewL m x with
  | some l => mkNew c (.lst (cutD l lo hi)) m
  | none => match x with
    | .tup l => .ok (.tup (cutD l lo hi)) m
    | .str z => if z.length ≤ sizeLine then .ok (.str (cutS z lo hi)) m else .bad
    | .scr l => mkNew c (.lst (cutD l lo hi)) m
    | _ => .bad
def rCutA (K : PySem.W.Frag) : V → Option Int → Option Int → Hp → VK → Prop := fun x lo hi H Q => rSlL K x lo hi H Q ∨ rSlA K x lo hi H Q ∨ rSlS x lo hi H Q
theorem sl_any : SlR X (rCutA X.K) := sl_list.or (sl_tupA.or sl_str)
theorem cut_whole (l : List D) (lo hi : Option Int) (h : HT.sIx l.length 0 lo = 0 ∧ HT.sIx l.length l.length hi = l.length) : cutD l lo hi = l := by
  unfold cutD
  rw [h.1, h.2, Nat.sub_zero, List.drop_zero, List.take_length]
theorem cut_ok {c : Bool} {ι : List Addr} {m : Mem} {G H : Hp} {x : V} {a : D} {lo hi : Option Int} {Q : VK} (w : W L ι m G H) (ra : Rep L G ι x a) (q : PV L E ι G H (dCut c a lo hi m) Q) : rCutA L.K x lo hi H Q := by
  unfold dCut at q
  split at q
  · rename_i l e
    obtain ⟨p, vs, rfl, h1, r1⟩ := view_list w ra e
    exact .inl ⟨p, vs, rfl, SqL.of h1, fun p hp => new_ok q w trivial hp (r1.cut lo hi)⟩
  · split at q
    · rename_i l _
      cases ra with
      | tup h1 r1 =>
        refine .inr (.inl ⟨_, _, rfl, SqT.of (w.sub _ _ h1), fun hh => ?_, fun _ p hp => new_tup q w hp (r1.cut lo hi)⟩)
        rw [r1.length] at hh
        rw [cut_whole l lo hi hh] at q
        exact (Post.at q w) _ (.tup h1 r1)
    · rename_i z _
      split at q
      · rename_i hz
        cases ra
        exact .inr (.inr ⟨_, rfl, hz, (Post.at q w) _ (.str _)⟩)
      · exact False.elim q
    · cases ra with
      | scr h1 r1 => exact .inl ⟨_, _, rfl, w.sqL h1, fun p hp => new_ok q w trivial hp (r1.cut lo hi)⟩
    · exact False.elim q
theorem se_cut {c : Bool} {a : Expr} {lo hi : Option Expr} {fa : Env → M D} {fl fh : Env → M (Option Int)} {p2 pos : Pos} (hK : X.K = L.K) (ha : SE X L Wx a fa) (hl : SOp X L Wx lo fl) (hh : SOp X L Wx hi fh) :
    SE X L Wx (.Subscript a (.Slice lo hi none p2) pos) (fun env => do let x ← fa env; let l ← fl env; let h ← fh env; dCut c x l h) := by
  obtain ⟨ta, pa, ha⟩ := ha
  obtain ⟨tl, pl, hl⟩ := hl
  obtain ⟨th, ph, hh⟩ := hh
  refine ⟨_, pe_slice sl_any pa pl ph, fun σ H Q env ι m G w rr q => ?_⟩
  refine ha σ H _ env ι m G w rr (Post.imp (Post.bind q) fun da m1 ι1 G1 H1 l1 w1 q1 x rx => ?_)
  refine hl σ H1 _ env ι1 m1 G1 w1 (rr.le l1) (Post.imp (Post.bind q1) fun dl m2 ι2 G2 H2 l2 w2 q2 => ?_)
  refine hh σ H2 _ env ι2 m2 G2 w2 ((rr.le l1).le l2) (Post.imp (Post.bind q2) fun dh m3 ι3 G3 H3 l3 w3 q3 => ?_)
  rw [hK]
  exact cut_ok w3 ((rx.le l2).le l3) q3

/-! ### x[::-1]: lists, tuples -/
theorem fmap_some {α β : Type} (f : α → Option β) (g : α → β) : ∀ (l : List α), (∀ m ∈ l, f m = some (g m)) → l.filterMap f = l.map g
  | [], _ => rfl
  | a :: l, h => by rw [List.filterMap_cons, h a List.mem_cons_self, List.map_cons, fmap_some f g l fun m hm => h m (List.mem_cons_of_mem _ hm)]
theorem getItem_tuple_rev {prog : Program} {w : World} {A : Around} {E : Value → Shared → Prop} {s : Shared} {t sl : Addr} {items : Array Value} {vl vu vk : Value} {Q : Value → Shared → Prop} (ht : IsTup s.heap t items) (hs : s.heap.IsSliceOf sl vl vu vk) (pl : IsPart vl none) (pu : IsPart vu none) (pk : IsPart vk (some (-1)))
    (h : Q (.ref s.heap.objs.size) { s with heap := s.heap.push { cls := .type "tuple", data := .seq items.toList.reverse.toArray } })
    (hsz : items.size ≤ sizeLine) : wpAny (model prog w) A (getItem (.ref t) (.ref sl)) Q E s := by
  have htake : sizeOk (.seq items.toList.reverse.toArray) := by
    show items.toList.reverse.toArray.size ≤ sizeLine
    rw [List.size_toArray, List.length_reverse, Array.length_toList]
    omega
  obtain ⟨os, hos, hcs, hds⟩ := id hs
  have hTs : s.TypeIs (.ref sl) "slice" := ⟨os, hos, hcs⟩
  have hpl : Builtin.Slice.slicePlaces ((items.size : Int) - 1) (-1) (-1) = items.size := by
    unfold Builtin.Slice.slicePlaces
    simp only [show ¬ ((-1 : Int) > 0) by omega, if_false]
    by_cases z : items.size = 0
    · rw [z]; decide
    · have : ((items.size : Int) - 1) > -1 := by omega
      simp [this]
  have hpick : ((List.range items.size).filterMap fun (m : Nat) => items[(((items.size : Int) - 1) + (m : Int) * (-1)).toNat]?).toArray = items.toList.reverse.toArray := by
    congr 1
    apply List.ext_getElem?
    intro i
    by_cases hi : i < items.size
    · have e1 : (List.range items.size).filterMap (fun (m : Nat) => items[(((items.size : Int) - 1) + (m : Int) * (-1)).toNat]?) = (List.range items.size).map (fun m => items.toList.getD (items.size - 1 - m) .none) := by
        refine fmap_some _ _ _ fun m hm => ?_
        have hm := List.mem_range.mp hm
        have e : (((items.size : Int) - 1) + (m : Int) * (-1)).toNat = items.size - 1 - m := by omega
        rw [e]
        have : items.size - 1 - m < items.size := by omega
        simp [this]
      rw [e1]
      simp [hi]
      have h3 : items.size - 1 - i < items.size := by omega
      simp [h3]
    · rw [List.getElem?_eq_none, List.getElem?_eq_none]
      · simp; omega
      · refine Nat.le_trans (List.length_filterMap_le _ _) ?_
        simp; omega
  unfold getItem
  try with_reducible refine wpAny_holding ?_
  first | refine wpAny_bind (wpAny_pure ?_) | skip
  refine wpAny_bind (wpAny_sequenceKey ht.typeIs (by decide) ?_)
  refine wpAny_bind (wpAny_callSpecial?_slot (name := Str.ofString "__getitem__") ht.typeIs PyProof.Rows.slot_tuple_getitem
    (wpAny_call_entry PyProof.Rows.slot_tuple_getitem ht.typeIs entry_tuple_getitem ?_ (args_tuple_getitem _ _)))
  show wpAny _ _ (Builtin.Tuple.tupleItemsOf (.ref t) >>= _) _ _ s
  refine wpAny_bind (tupleItemsOf_ ht ?_)
  refine wpAny_bind (wpAny_typeOf hTs ?_)
  rw [if_pos (by decide)]
  refine wpAny_bind ?_
  unfold Builtin.Slice.sliceApplied Builtin.Slice.sliceFields
  refine wpAny_bind (wpAny_bind (wpAny_field hos hds (x := vl) rfl (wpAny_bind (wpAny_field hos hds (x := vu) rfl (wpAny_bind (wpAny_field hos hds (x := vk) rfl (wpAny_pure ?_)))))))
  refine wpAny_bind (HT.slicePart_ pk ?_)
  show wpAny _ _ (if ((-1 : Int) == 0) = true then _ else _) _ _ s
  rw [if_neg (by decide)]
  refine wpAny_bind (HT.slicePart_ pl (wpAny_bind (HT.slicePart_ pu (wpAny_bind (wpAny_pure ?_)))))
  have ha : Builtin.Slice.sliceAdjust none none (-1) (items.size : Int) = ((items.size : Int) - 1, -1) := by
    unfold Builtin.Slice.sliceAdjust
    simp
  show wpAny _ _ (match Builtin.Slice.sliceAdjust none none (-1) (items.size : Int) with | (lo, hi) => pure (lo, (-1 : Int), Builtin.Slice.slicePlaces lo hi (-1))) _ _ s
  rw [ha]
  show wpAny _ _ (pure ((items.size : Int) - 1, (-1 : Int), Builtin.Slice.slicePlaces ((items.size : Int) - 1) (-1) (-1))) _ _ s
  rw [hpl]
  refine wpAny_pure ?_
  show wpAny _ _ (if ((((items.size : Int) - 1) == 0 && (-1 : Int) == 1 && items.size == items.size)) = true then _ else _) _ _ s
  rw [if_neg (by simp), hpick]
  first
    | exact wpAny_bind (m := Builtin.Tuple.tupleExact _) (wpAny_newObj_type (wpAny_pure ⟨_, rfl, wpAny_pure h⟩) htake)
    | exact wpAny_bind (m := Builtin.Tuple.tupleExact _) (wpAny_newObj_type (wpAny_bind (wpAny_pure (wpAny_pure ⟨_, rfl, wpAny_pure h⟩))) htake)
    | exact wpAny_bind (wpAny_bind (m := Builtin.Tuple.tupleExact _) (wpAny_newObj_type (wpAny_pure (wpAny_pure ⟨_, rfl, wpAny_pure h⟩)) htake))
    | exact wpAny_bind (wpAny_bind (m := Builtin.Tuple.tupleExact _) (wpAny_newObj_type (wpAny_pure ⟨_, rfl, wpAny_pure h⟩) htake))
def dRev (c : Bool) (x : D) : M D := fun m => match viewL m x with
  | some l => mkNew c (.lst l.reverse) m
  | none => match x with
    | .tup l => .ok (.tup l.reverse) m
    | _ => .bad
def tRevA (K : PySem.W.Frag) (te : TE) : TE := fun σ H Q => te σ H fun x H1 => (∃ a xs, x = .ref a ∧ SqL K H1 a xs ∧ ∀ p, H1 p = none → Q (.ref p) (upd H1 p (.lst xs.reverse))) ∨
  ∃ a xs, x = .ref a ∧ SqT K H1 a xs ∧ ∀ p, H1 p = none → Q (.ref p) (upd H1 p (.tup xs.reverse))
theorem pe_revA {e : Expr} {te : TE} {k : Nat} {p1 p2 p3 pos : Pos} (he : PE X e te) : PE X (.Subscript e (.Slice none none (some (.UnaryOp .USub (.Constant (.int 1) k p1) p2)) p3) pos) (tRevA X.K te) := by
  refine ⟨fun pins s σ H Q I h => ?_⟩
  refine Subscript_ (thn (he.run pins s σ H _ I h) fun v s1 ⟨x, H1, I1, r1, q1⟩ => ?_)
  have hst : PO X (some (.UnaryOp .USub (.Constant (.int 1) k p1) p2)) (tPart (tUn (rU fun i => .int (-i)) (tC (.int 1)))) := po_some (pe_un un_neg pe_int)
  refine wpAny_Slice (thn (po_none.run pins s1 σ H1 (fun o H2 => o = none ∧ H2 = H1) I1 ⟨rfl, rfl⟩) fun vl s2 ⟨l, H2, I2, pl, el, e2⟩ => ?_)
  subst el e2
  refine thn (po_none.run pins s2 σ H2 (fun o H3 => o = none ∧ H3 = H2) I2 ⟨rfl, rfl⟩) fun vu s3 ⟨u, H3, I3, pu, eu, e3⟩ => ?_
  subst eu e3
  refine thn (hst.run pins s3 σ H3 (fun o H4 => o = some (-1) ∧ H4 = H3) I3 ⟨1, rfl, -1, rfl, rfl, rfl⟩) fun vs s4 ⟨o, H4, I4, ps, eo, e4⟩ => ?_
  subst eo e4
  have I5 : Inv X pins σ H4 { s4 with heap := s4.heap.push { cls := .type "slice", data := .fields #[vl, vu, vs] } } := I4.kept (t' := s4.toks) fun b ob q => Heap.get?_push_of_some _ q
  rcases q1 with ⟨a, xs, ex, hx, q⟩ | ⟨a, xs, ex, hx, q⟩
  · subst ex
    cases r1
    obtain ⟨its, r, ht, hz⟩ := I5.list hx
    have hlen := r.length
    show wpAny (model X.prog X.w) X.A (subscriptTail e (.Slice none none (some (.UnaryOp .USub (.Constant (.int 1) k p1) p2)) p3) (.ref a) (.ref s4.heap.objs.size)) (EP X pins σ Q) X.xe { s4 with heap := s4.heap.push { cls := .type "slice", data := .fields #[vl, vu, vs] } }
    refine tail_any (ops := [.ref a, .ref s4.heap.objs.size]) ht.isList.typeIs (PySem.slot_list_getitem.lookup) ?_ (by with_unfolding_all rfl)
    refine wpAny_getItem_list_slice ht.isList (Heap.IsSliceOf.new _ vl vu vs) pl pu ps (by decide) ?_ (by rw [List.size_toArray]; omega)
    rw [PySem.W.krv_pick]
    refine ⟨.ref _, _, I5.laid (t' := s4.toks) (o := .lst xs.reverse) (fun b ob q => Heap.get?_push_of_some _ q) (Nat.le_refl _) ?_, rfl, q _ (I5.hok.fresh (Nat.le_refl _))⟩
    exact ⟨by rw [List.length_reverse]; exact hz, _, 0, r.reverse, Heap.get?_push_size _ rfl⟩
  · subst ex
    cases r1
    obtain ⟨its, r, ht, hz⟩ := I5.tuple hx
    have hlen := r.length
    show wpAny (model X.prog X.w) X.A (subscriptTail e (.Slice none none (some (.UnaryOp .USub (.Constant (.int 1) k p1) p2)) p3) (.ref a) (.ref s4.heap.objs.size)) (EP X pins σ Q) X.xe { s4 with heap := s4.heap.push { cls := .type "slice", data := .fields #[vl, vu, vs] } }
    refine tail_any (ops := [.ref a, .ref s4.heap.objs.size]) ht.typeIs (PyProof.Rows.slot_tuple_getitem.lookup) ?_ (by with_unfolding_all rfl)
    refine getItem_tuple_rev ht (Heap.IsSliceOf.new _ vl vu vs) pl pu ps ?_ (by rw [List.size_toArray]; omega)
    refine ⟨.ref _, _, I5.laid (t' := s4.toks) (o := .tup xs.reverse) (fun b ob q => Heap.get?_push_of_some _ q) (Nat.le_refl _) ?_, rfl, q _ (I5.hok.fresh (Nat.le_refl _))⟩
    exact ⟨by rw [List.length_reverse]; exact hz, _, r.reverse, ⟨_, Heap.get?_push_size _ rfl, rfl, _, rfl⟩⟩
theorem se_rev {c : Bool} {a : Expr} {fa : Env → M D} {k : Nat} {p1 p2 p3 pos : Pos} (hK : X.K = L.K) (ha : SE X L Wx a fa) :
    SE X L Wx (.Subscript a (.Slice none none (some (.UnaryOp .USub (.Constant (.int 1) k p1) p2)) p3) pos) (fun env => do let x ← fa env; dRev c x) := by
  obtain ⟨ta, pa, ha⟩ := ha
  refine ⟨_, pe_revA pa, fun σ H Q env ι m G w rr q => ?_⟩
  refine ha σ H _ env ι m G w rr (Post.imp (Post.bind q) fun da m1 ι1 G1 H1 l1 w1 q1 x rx => ?_)
  rw [hK]
  unfold dRev at q1
  split at q1
  · rename_i l e
    obtain ⟨p, vs, rfl, h1, r1⟩ := view_list w1 rx e
    exact .inl ⟨p, vs, rfl, SqL.of h1, fun p hp => new_ok q1 w1 trivial hp r1.reverse⟩
  · split at q1
    · cases rx with
      | tup h1 r1 => exact .inr ⟨_, _, rfl, SqT.of (w1.sub _ _ h1), fun p hp => new_tup q1 w1 hp r1.reverse⟩
    · exact False.elim q1
end Eng

set_option maxRecDepth 100000
set_option maxHeartbeats 4000000
namespace Eng
open PySem PySem.Spec PyProof.Rows L2
variable {L : Lk} {X : Cx} {E : XK} {Wx : WX}

/-! ### arguments, displays -/
theorem bind_ok {α β : Type} {x : M α} {f : α → M β} {m m' : Mem} {b : β} (h : (x >>= f) m = .ok b m') : ∃ a m1, x m = .ok a m1 ∧ f a m1 = .ok b m' := by
  have e : (x >>= f) m = M.bind x f m := rfl
  rw [e] at h
  unfold M.bind at h
  cases q : x m with
  | ok a m1 => rw [q] at h; exact ⟨a, m1, rfl, h⟩
  | exn y m1 => rw [q] at h; cases h
  | bad => rw [q] at h; cases h
theorem pure_ok {α : Type} {a b : α} {m m' : Mem} (h : (pure a : M α) m = .ok b m') : a = b ∧ m = m' := by cases h; exact ⟨rfl, rfl⟩
theorem sa_nil : SA X L Wx [] (fun _ => pure []) := ⟨⟨_, pa_nil, ra_nil⟩, fun env m l m' h => by cases pure_ok h with | intro a b => subst a; rfl, fun _ _ h => (by cases h), fun _ => rfl⟩
theorem sa_cons {e : Expr} {es : List Expr} {f : Env → M D} {g : Env → M (List D)} (h : SE X L Wx e f) (r : SA X L Wx es g) (hs : ∀ v pos, e ≠ .Starred v pos) : SA X L Wx (e :: es) (fun env => do let x ← f env; let y ← g env; pure (x :: y)) := by
  obtain ⟨ta, pa, ha⟩ := h
  obtain ⟨⟨t, p, hr⟩, hl, _, hp⟩ := r
  have hst : starEach (e :: es) X.env = (false, eval e X.env) :: starEach es X.env := by
    cases e <;> first | rfl | exact absurd rfl (hs _ _)
  refine ⟨⟨_, pa_cons pa p hst, ra_cons ha hr⟩, fun env m l m' h => ?_, fun e' r' q => by cases q; exact hst, fun pos => ?_⟩
  · obtain ⟨x, m1, _, h⟩ := bind_ok h
    obtain ⟨y, m2, h2, h⟩ := bind_ok h
    obtain ⟨rfl, _⟩ := pure_ok h
    rw [List.length_cons, List.length_cons, hl env m1 y m2 h2]
  · rw [hst]
    show (false || (backTo pos (starEach es X.env)).any (·.1)) = false
    rw [hp pos]; rfl
theorem sz1000 {n : Nat} (h : n ≤ 1000) : n ≤ sizeLine := Nat.le_trans h (by decide)
theorem se_tup {es : List Expr} {g : Env → M (List D)} {k : Nat} {pos : Pos} (r : SA X L Wx es g) (hn : es.length ≤ 1000) : SE X L Wx (.Tuple es k pos) (fun env => do let l ← g env; pure (.tup l)) := by
  obtain ⟨⟨t, p, hr⟩, hl, _⟩ := r
  refine ⟨_, pe_tup p, fun σ H Q env ι m G w rr q => ?_⟩
  have q0 := Post.bind q
  refine hr σ H _ env ι m G w rr ?_
  cases e : g env m with
  | ok l m1 =>
    rw [e] at q0
    have hz := hl env m l m1 e
    exact fun ι1 G1 H1 l1 w1 vs rv => ⟨by rw [rv.length, hz]; exact sz1000 hn, fun p hp => new_tup (q0 ι1 G1 H1 l1 w1) w1 hp rv⟩
  | exn y m1 => rw [e] at q0; exact q0
  | bad => rw [e] at q0; exact q0
theorem se_lst {c : Bool} {es : List Expr} {g : Env → M (List D)} {pos : Pos} (r : SA X L Wx es g) (hn : es.length ≤ 1000) : SE X L Wx (.List es pos) (fun env => do let l ← g env; mkNew c (.lst l)) := by
  obtain ⟨⟨t, p, hr⟩, hl, _⟩ := r
  refine ⟨_, pe_lst p, fun σ H Q env ι m G w rr q => ?_⟩
  have q0 := Post.bind q
  refine hr σ H _ env ι m G w rr ?_
  cases e : g env m with
  | ok l m1 =>
    rw [e] at q0
    have hz := hl env m l m1 e
    exact fun ι1 G1 H1 l1 w1 vs rv => ⟨by rw [rv.length, hz]; exact sz1000 hn, fun p hp => new_ok (q0 ι1 G1 H1 l1 w1) w1 trivial hp rv⟩
  | exn y m1 => rw [e] at q0; exact q0
  | bad => rw [e] at q0; exact q0
/-- {}: of keys that are texts and ints, or tuples of these -/
theorem se_dict0 {c : Bool} {pos : Pos} : SE X L Wx (.Dict [] [] pos) (fun _ => mkNew c (.dK [] [])) :=
  ⟨_, pe_dnewK, fun σ H Q env ι m G w rr q p hp => new_ok q w trivial hp (u := .dK []) ⟨[], rfl, rfl, .nil⟩⟩
theorem se_dict0T {c : Bool} {pos : Pos} : SE X L Wx (.Dict [] [] pos) (fun _ => mkNew c (.dT [] [])) :=
  ⟨_, pe_dnewT, fun σ H Q env ι m G w rr q p hp => new_ok q w trivial hp (u := .dT []) ⟨[], rfl, rfl, .nil⟩⟩
theorem stay {ι ι1 : List Addr} {G G1 H H1 : Hp} {p : Addr} {u : HO} (l : Le ι G (upd H p u) ι1 G1 H1) (h1 : p ∉ ι) (h2 : G p = none) : H1 p = some u ∧ p ∉ ι1 ∧ G1 p = none :=
  ⟨l.fr p u upd_same h1, (fun h => by have := l.nw p h h1; rw [upd_same] at this; cases this), by rw [l.gn p (by rw [upd_same]; simp) h1]; exact h2⟩
theorem Post.ok_of {α : Type} {r : R α} {ι : List Addr} {G H : Hp} {k : α → Mem → List Addr → Hp → Hp → Prop} {a : α} {m' : Mem} (h : Post L E ι G H r k) (e : r = .ok a m') : ∀ ι' G' H', Le ι G H ι' G' H' → W L ι' m' G' H' → k a m' ι' G' H' := by
  subst e; exact h
/-- as bind, the state ahead kept -/
theorem Post.bind0 {α β : Type} {ι : List Addr} {G H : Hp} {m : Mem} {x : M α} {f : α → M β} {k : β → Mem → List Addr → Hp → Hp → Prop} (h : Post L E ι G H ((x >>= f) m) k) :
    Post L E ι G H (x m) fun a m1 _ _ _ => Post L E ι G H (f a m1) k := by
  have e : (x >>= f) m = M.bind x f m := rfl
  rw [e] at h
  unfold M.bind at h
  cases q : x m with
  | ok a m1 => rw [q] at h; exact fun ι1 G1 H1 l w => h
  | exn y m1 => rw [q] at h; exact h
  | bad => rw [q] at h; exact h
theorem se_dict1 {c : Bool} {a b : Expr} {fa fb : Env → M D} {pos : Pos} (ha : SE X L Wx a fa) (hb : SE X L Wx b fb) :
    SE X L Wx (.Dict [some a] [b] pos) (fun env => do let x ← fa env; let y ← fb env; match keyD x with
      | some k => mkNew c (.dK [k] [y])
      | none => M.fail) := by
  obtain ⟨ta, pa, ha⟩ := ha
  obtain ⟨tb, pb, hb⟩ := hb
  refine ⟨_, pe_disp (pps_cons pa pb pps_nil) (by rfl) (by rfl) (fun z => by cases z) (by show 1 ≤ 15; decide), fun σ H Q env ι m G w rr q => ?_⟩
  intro p hp
  have f := w.fresh hp
  have w0 := w.beside (u := .dK []) f.1 f.2
  have l0 : Le ι G H ι G (upd H p (.dK [])) := Le.new hp
  show ta σ _ _
  refine ha σ _ _ env ι m G w0 rr (Post.imp (Post.later (Post.bind0 q) l0) fun da m1 ι1 G1 H1 l1 w1 q1 x rx => ?_)
  refine hb σ H1 _ env ι1 m1 G1 w1 (rr.le l1) (Post.imp (Post.later (Post.bind0 q1) (l0.trans l1)) fun db m2 ι2 G2 H2 l2 w2 q2 y ry => ?_)
  show H2 p = some (.dK []) ∧ _
  obtain ⟨s1, s2, s3⟩ := stay (l1.trans l2) f.1 f.2
  refine ⟨s1, ?_⟩
  cases e : keyD da with
  | none => rw [e] at q2; exact False.elim q2
  | some k =>
    rw [e] at q2
    rw [rep_key rx e]
    refine ⟨[(k, y)], rfl, by show 1 ≤ 15; decide, ?_⟩
    exact place q2 ((l0.trans (l1.trans l2)).over hp) (w2.beside s2 s3) trivial hp upd_same s2 s3 ⟨[y], rfl, rfl, .cons ry .nil⟩
end Eng

set_option maxRecDepth 100000
set_option maxHeartbeats 4000000
/-! sorted of a tuple -/
namespace Eng
open PySem PySem.Spec PyProof.Rows PySem.W
section
variable {prog : Program} {w : World} {A : Around} {E : Value → Shared → Prop} {s : Shared} {κ : List Value → Option KeyOrd}
theorem collect_tup {p : Addr} {us : List Value} {Qc : List Value → Shared → Prop} (hp : IsTup s.heap p us.toArray) (hz : us.length ≤ sizeLine)
    (hq : Qc us { s with heap := (s.heap.push (seqObj "list" #[] 0)).update s.heap.objs.size (Obj.mapSeq (· ++ us.toArray)) }) :
    wpAny (model prog w) A (collect (.ref p)) Qc E s := by
  obtain ⟨o1, g1, c1, n1, d1⟩ := id hp
  unfold collect
  refine wpAny_bind (wpAny_runValue (codeAny_builtin entry_proto_collect' ?_))
  show wpAny _ _ (do again (.builtin "list.__iadd__" ⟨[← newList [], .ref p], []⟩)) _ _ s
  refine wpAny_bind (wpAny_newList (wpAny_pure ⟨Code.quiet_builtin _ (by decide +kernel), codeAny_builtin entry_list_iadd' ?_⟩))
  show wpAny _ _ (Builtin.List.listExtendWith (.ref s.heap.objs.size) (.ref p) (.ref s.heap.objs.size)) _ _ { s with heap := s.heap.push (seqObj "list" #[] 0) }
  unfold Builtin.List.listExtendWith
  have g2 : (s.heap.push (seqObj "list" #[] 0)).get? p = some o1 := Heap.get?_push_of_some _ g1
  refine wpAny_bind (wpAny_typeOf (T := "tuple") ⟨o1, g2, c1⟩ ?_)
  have t1 : (Value.type "tuple" == Value.type "tuple") = true := by rfl
  rw [if_pos (by rw [t1]; simp)]
  refine wpAny_bind (listItems_at g2 d1 (wpAny_bind (listItems_at (xs := #[]) (n := 0) (Heap.get?_push_size _ rfl) rfl ?_)))
  rw [if_neg (by simp)]
  refine wpAny_bind (listUpdate_at (xs := #[]) (n := 0) (Heap.get?_push_size _ rfl) rfl ?_ (Nat.zero_le _) (by show (#[] ++ us.toArray).size ≤ sizeLine + 1; simp only [Array.size_append, List.size_toArray, List.length_nil]; omega))
  refine wpAny_pure ?_
  show wpAny (model prog w) A (load s.heap.objs.size >>= _) Qc E { s with heap := (s.heap.push (seqObj "list" #[] 0)).update s.heap.objs.size (Obj.mapSeq (· ++ us.toArray)) }
  refine wpAny_bind (wpAny_load (get?_update_seq (Heap.get?_push_size _ rfl) _) ?_)
  show wpAny _ _ (pure ((#[] : Array Value) ++ us.toArray).toList) Qc E _
  rw [show ((#[] : Array Value) ++ us.toArray).toList = us by simp]
  exact wpAny_pure hq
theorem sorted_of_tup {p : Addr} {us : List Value} {kw : List (Str × Value)} {Q : Value → Shared → Prop} (hp : IsTup s.heap p us.toArray) (hz : us.length ≤ sizeLine) (ha1 : argsOk "sorted" ⟨[.ref p], kw⟩) (ha2 : ∀ x, argsOk "list.sort" ⟨[.ref x], kw⟩)
    (bd : ∀ E' : Value → Shared → Prop, wpAny (model prog w) A.in1.in1 (Builtin.«list.sort» ⟨[.ref (s.heap.objs.size + 1)], kw⟩) (fun f s' => f = .done (.ret .none) ∧ Q (.ref (s.heap.objs.size + 1)) s') E' { s with heap := copyHeap s.heap us }) :
    wpAny (model prog w) A (call (.builtin "sorted") [.ref p] kw) Q E s := by
  refine call_function_entry_kw kind_sorted plain_sorted entry_sorted ha1 ?_
  unfold Builtin.«sorted»
  refine wpAny_bind (m := checkCount "sorted" 1 1 _) (wpAny_pure (wpAny_bind (collect_tup hp hz (wpAny_bind (wpAny_newList ?_ hz)))))
  have hsz : ((s.heap.push (seqObj "list" #[] 0)).update s.heap.objs.size (Obj.mapSeq (· ++ us.toArray))).objs.size = s.heap.objs.size + 1 := by rw [Heap.size_update, size_push']
  show wpAny _ _ _ _ _ { s with heap := copyHeap s.heap us }
  rw [hsz]
  refine wpAny_bind (wpAny_holding (wpAny_call_entry_kw slot_list_sort ⟨_, copyHeap_at s.heap us, rfl⟩ entry_list_sort ?b1 (ha2 _)))
  case b1 =>
    show wpAny (model prog w) A.in1.in1 (Builtin.«list.sort» ⟨[.ref (s.heap.objs.size + 1)], kw⟩) _ _ _
    refine wpAny_mono (bd _) (fun f s' hf => ?_) fun _ _ e => e
    obtain ⟨rfl, hq⟩ := hf
    exact ⟨_, rfl, wpAny_pure ⟨_, rfl, hq⟩⟩
variable {β : Type} {us : List Value} {bs : List β} {enc : β → PyData} {R : Value → β → Prop}
theorem sorted_dataT {p : Addr} {Q : Value → Shared → Prop} (hp : IsTup s.heap p us.toArray) (e : EachIs R us bs) (er : EachIs (fun v b => ∃ as, Reads s.heap v (enc b) as) us bs) (hal : AllAlike (bs.map enc)) (hk : Sortable (bs.map enc)) (hL : bs.length ≤ sizeLine)
    (hu : ∀ b, b ∈ bs → A.units + 2 + (enc b).depth < cLine) (h : ∀ out, out.length = bs.length → EachIs R out (bs.mergeSort (dataLe false enc)) → Q (.ref (s.heap.objs.size + 1)) { s with heap := sortedAll s.heap us (List.toArray out) }) :
    wpAny (model prog w) A (call (.builtin "sorted") [.ref p]) Q E s := by
  have er2 : EachIs (fun v b => ∃ as, Reads (sortingHeap (copyHeap s.heap us) (s.heap.objs.size + 1) us) v (enc b) as) us bs := er.mono fun _ _ ⟨as, r⟩ => ⟨as, PyProof.Rows.Reads.keeps (fun _ _ => sorting_copy_old) r⟩
  have hz : us.length ≤ sizeLine := by rw [e.length]; exact hL
  exact sorted_of_tup hp hz (args_sorted1 _) (fun _ => args_list_sort _) fun _ => list_sort_vals (s := { s with heap := copyHeap s.heap us }) (copyHeap_at s.heap us) (SortsAt.data (s := { s with heap := sortingHeap (copyHeap s.heap us) (s.heap.objs.size + 1) us }) (each_map (R := fun v d => ∃ as, Reads (sortingHeap (copyHeap s.heap us) (s.heap.objs.size + 1) us) v d as) enc er2) hal hk (bound_map hu)) hz
    ⟨rfl, h _ (by rw [sortVals_length false rfl]; exact e.length) (sortVals_data false e er2 hal)⟩
end
end Eng

set_option maxRecDepth 100000
set_option maxHeartbeats 4000000
namespace Eng
open PySem PySem.Spec PyProof.Rows L2
variable {L : Lk} {X : Cx} {E : XK} {Wx : WX}

/-! ### calls of built-ins -/
theorem se_callB {e : Expr} {es : List Expr} {x : Str} {id : String} {r : List V → Hp → VK → Prop} {f : List D → M D} {g : Env → M (List D)} {p pos : Pos} (hc : CallR X (.builtin id) r) (hf : SC L r f) (hg : Gl X x) (hm : X.mg x = none)
    (hv : bootBuiltins x = some (.builtin id)) (hn : x ≠ "__name__") (hd : (x == ("__debug__" : Str)) = false) (ha : SA X L Wx (e :: es) g) : SE X L Wx (.Call (.Name x p) (e :: es) [] pos) (fun env => do let l ← g env; f l) := by
  obtain ⟨⟨t, pa, hr⟩, _, hs, hp⟩ := ha
  have h1 := hs e es rfl
  have h2 : (backTo pos (starEach es X.env)).any (·.1) = false := by
    have := hp pos
    rw [h1] at this
    exact this
  exact ⟨_, pe_callB hc hg hm hv pa hn hd h1 h2, re_call hf hr⟩
theorem se_callT {e : Expr} {es : List Expr} {x : Str} {T : String} {r : List V → Hp → VK → Prop} {f : List D → M D} {g : Env → M (List D)} {p pos : Pos} (hc : CallR X (.type T) r) (hf : SC L r f) (hg : Gl X x) (hm : X.mg x = none)
    (hv : bootBuiltins x = some (.type T)) (hn : x ≠ "__name__") (hd : (x == ("__debug__" : Str)) = false) (ha : SA X L Wx (e :: es) g) : SE X L Wx (.Call (.Name x p) (e :: es) [] pos) (fun env => do let l ← g env; f l) := by
  obtain ⟨⟨t, pa, hr⟩, _, hs, hp⟩ := ha
  have h1 := hs e es rfl
  have h2 : (backTo pos (starEach es X.env)).any (·.1) = false := by
    have := hp pos
    rw [h1] at this
    exact this
  exact ⟨_, pe_callTy hc hg hm hv pa hn hd h1 h2, re_call hf hr⟩

/-- len -/
def lenD (m : Mem) (d : D) : Option Nat := match viewS m d with
  | some l => some l.length
  | none => match d with
    | .str z => if z.length ≤ sizeLine then some z.length else none
    | .dK ks _ => some ks.length
    | .ref k => match m[k]? with
      | some (.dK ks _) => some ks.length
      | _ => none
    | _ => none
def bLen : List D → M D
  | [d] => fun m => match lenD m d with
    | some n => .ok (.int n) m
    | none => .bad
  | _ => M.fail
theorem call_lenK : CallR X (.builtin "len") (fun xs H Q => ∃ a kvs, xs = [V.ref a] ∧ Rd H a (.dK kvs) ∧ Q (.int kvs.length) H) := by
  intro pins s σ H xs us Q I r h
  obtain ⟨a, kvs, rfl, ha, q⟩ := h
  cases r with
  | cons r1 r2 =>
    cases r2
    cases r1
    exact d_len I ha fun t s' I' => ⟨.int kvs.length, H, I', ⟨t, rfl⟩, q⟩
def rLenA (K : PySem.W.Frag) : List V → Hp → VK → Prop := fun xs H Q => (∃ x n, xs = [x] ∧ LenV K x H n ∧ Q (.int n) H) ∨ ∃ a kvs, xs = [V.ref a] ∧ Rd H a (.dK kvs) ∧ Q (.int kvs.length) H
theorem call_lenA : CallR X (.builtin "len") (rLenA X.K) := call_len.or call_lenK
theorem zip_len {ks : List Key} {vs : List V} {l : List D} {G : Hp} {ι : List Addr} (h : ks.length = l.length) (r : RepL L G ι vs l) : (ks.zip vs).length = ks.length := by
  rw [List.length_zip, r.length, h]; omega
theorem sc_len : SC L (rLenA L.K) bLen := fun E ι m G H x a Q w ra q => by
  cases ra with
  | nil => exact False.elim q
  | cons r1 r2 =>
    cases r2 with
    | cons _ _ => exact False.elim q
    | nil =>
      rename_i v d
      unfold bLen at q
      dsimp only at q
      split at q
      · rename_i n e
        have q := (Post.at q w) _ (.int _)
        unfold lenD at e
        split at e
        · rename_i l e2
          cases e
          unfold viewS at e2
          split at e2
          · rename_i l' e4
            cases e2
            obtain ⟨p, vs, rfl, h1, r1'⟩ := view_list w r1 e4
            exact .inl ⟨_, _, rfl, .inl ⟨vs, SqL.of h1, r1'.length.symm⟩, q⟩
          · obtain ⟨p, vs, rfl, h1, r1'⟩ := view_tup w r1 e2
            exact .inl ⟨_, _, rfl, .inr ⟨vs, SqT.of h1, r1'.length.symm⟩, q⟩
        · split at e
          · split at e
            · rename_i hz
              cases e
              cases r1
              exact .inl ⟨_, _, rfl, ⟨hz, rfl⟩, q⟩
            · cases e
          · cases e
            cases r1 with
            | dK h1 hl rr => exact .inr ⟨_, _, rfl, (GLe.of_same w.sub).1 _ _ h1, by rw [zip_len hl rr]; exact q⟩
          · split at e
            · rename_i ks vs hm
              cases e
              cases r1 with
              | ref hk =>
                obtain ⟨u, h1, h2⟩ := w.cell _ _ _ hk hm trivial
                cases u <;> try exact h2.elim
                obtain ⟨ws, rfl, hl, rr⟩ := h2
                exact .inr ⟨_, _, rfl, .inl h1, by rw [zip_len hl rr]; exact q⟩
            · cases e
          · cases e
      · exact False.elim q
/-- a one-argument call -/
theorem sc_one {r : List V → Hp → VK → Prop} {f : D → M D} (h : ∀ (E : XK) (ι : List Addr) (m : Mem) (G H : Hp) (v : V) (d : D) (Q : VK), W L ι m G H → Rep L G ι v d → PV L E ι G H (f d m) Q → r [v] H Q) :
    SC L r (fun l => match l with | [d] => f d | _ => M.fail) := fun E ι m G H x a Q w ra q => by
  cases ra with
  | nil => exact False.elim q
  | cons r1 r2 =>
    cases r2 with
    | nil => exact h E ι m G H _ _ Q w r1 q
    | cons _ _ => exact False.elim q
theorem sc_two {r : List V → Hp → VK → Prop} {f : D → D → M D} (h : ∀ (E : XK) (ι : List Addr) (m : Mem) (G H : Hp) (v u : V) (d e : D) (Q : VK), W L ι m G H → Rep L G ι v d → Rep L G ι u e → PV L E ι G H (f d e m) Q → r [v, u] H Q) :
    SC L r (fun l => match l with | [d, e] => f d e | _ => M.fail) := fun E ι m G H x a Q w ra q => by
  cases ra with
  | nil => exact False.elim q
  | cons r1 r2 =>
    cases r2 with
    | nil => exact False.elim q
    | cons r2 r3 => cases r3 with
      | nil => exact h E ι m G H _ _ _ _ Q w r1 r2 q
      | cons _ _ => exact False.elim q
def absD : D → M D
  | .int i => pure (.int (if i < 0 then -i else i))
  | _ => M.fail
theorem sc_abs : SC L (fun xs H Q => ∃ i, xs = [.int i] ∧ Q (.int (if i < 0 then -i else i)) H) (fun l => match l with | [d] => absD d | _ => M.fail) := sc_one fun E ι m G H v d Q w r q => by
  cases r <;> first | exact ⟨_, rfl, (Post.at q w) _ (.int _)⟩ | exact False.elim q
def max2 : D → D → M D
  | .int i, .int j => pure (.int (if j > i then j else i))
  | _, _ => M.fail
def min2 : D → D → M D
  | .int i, .int j => pure (.int (if j < i then j else i))
  | _, _ => M.fail
theorem sc_max2 : SC L (fun xs H Q => ∃ i j, xs = [.int i, .int j] ∧ Q (.int (if j > i then j else i)) H) (fun l => match l with | [d, e] => max2 d e | _ => M.fail) := sc_two fun E ι m G H v u d e Q w r1 r2 q => by
  cases r1 <;> first | (cases r2 <;> first | exact ⟨_, _, rfl, (Post.at q w) _ (.int _)⟩ | exact False.elim q) | exact False.elim q
theorem sc_min2 : SC L (fun xs H Q => ∃ i j, xs = [.int i, .int j] ∧ Q (.int (if j < i then j else i)) H) (fun l => match l with | [d, e] => min2 d e | _ => M.fail) := sc_two fun E ι m G H v u d e Q w r1 r2 q => by
  cases r1 <;> first | (cases r2 <;> first | exact ⟨_, _, rfl, (Post.at q w) _ (.int _)⟩ | exact False.elim q) | exact False.elim q
/-- int of an int, a bool, a text -/
def intD : D → M D
  | .int i => pure (.int i)
  | .bl k => pure (.int (if k then 1 else 0))
  | .str a => fun m => match PySem.intText? a with
    | some n => if a.length ≤ 640 then .ok (.int n) m else .bad
    | none => .bad
  | _ => M.fail
def rInt : List V → Hp → VK → Prop := fun xs H Q => ((∃ i, xs = [.int i] ∧ Q (.int i) H) ∨ ∃ k, xs = [.bl k] ∧ Q (.int (if k then 1 else 0)) H) ∨ ∃ a n, xs = [.str a] ∧ PySem.intText? a = some n ∧ a.length ≤ 640 ∧ Q (.int n) H
theorem call_intA : CallR X (.type "int") rInt := call_int1.or call_int_str
theorem sc_int : SC L rInt (fun l => match l with | [d] => intD d | _ => M.fail) := sc_one fun E ι m G H v d Q w r q => by
  cases r with
  | int i => exact .inl (.inl ⟨_, rfl, (Post.at q w) _ (.int _)⟩)
  | bl k => exact .inl (.inr ⟨_, rfl, (Post.at q w) _ (.int _)⟩)
  | str a =>
    unfold intD at q
    dsimp only at q
    split at q
    · rename_i n e
      split at q
      · rename_i hz
        exact .inr ⟨_, n, rfl, e, hz, (Post.at q w) _ (.int _)⟩
      · exact False.elim q
    · exact False.elim q
  | _ => exact False.elim q
/-- sum, min, max, all, any of a list -/
def viewI (m : Mem) (d : D) : Option (List Int) := (viewL m d).bind intsD
def sumD (d : D) : M D := fun m => match viewI m d with
  | some ns => .ok (.int ns.sum) m
  | none => .bad
theorem view_ints {ι : List Addr} {G H : Hp} {m : Mem} {v : V} {d : D} {ns : List Int} (w : W L ι m G H) (r : Rep L G ι v d) (e : viewI m d = some ns) : ∃ a, v = .ref a ∧ H a = some (.lst (ns.map V.int)) := by
  unfold viewI at e
  cases q : viewL m d with
  | none => rw [q] at e; cases e
  | some l =>
    rw [q] at e
    obtain ⟨p, vs, rfl, h1, r1⟩ := view_list w r q
    rw [ints_rep r1 e] at h1
    exact ⟨p, rfl, h1⟩
theorem sc_sum : SC L (rSum L.K) (fun l => match l with | [d] => sumD d | _ => M.fail) := sc_one fun E ι m G H v d Q w r q => by
  unfold sumD at q
  split at q
  · rename_i ns e
    obtain ⟨a, rfl, h⟩ := view_ints w r e
    exact ⟨a, ns, rfl, SqL.of h, (Post.at q w) _ (.int _)⟩
  · exact False.elim q
def maxI : List Int → Int
  | [] => 0
  | x :: r => r.foldl (fun a b => if a < b then b else a) x
def minI : List Int → Int
  | [] => 0
  | x :: r => r.foldl (fun a b => if b < a then b else a) x
theorem foldmax : ∀ (l : List Int) (x : Int), (l.foldl (fun a b => if a < b then b else a) x ∈ x :: l) ∧ ∀ y ∈ x :: l, y ≤ l.foldl (fun a b => if a < b then b else a) x
  | [], x => by simp
  | b :: l, x => by
    obtain ⟨h1, h2⟩ := foldmax l (if x < b then b else x)
    rw [List.foldl_cons]
    refine ⟨?_, fun y hy => ?_⟩
    · rcases List.mem_cons.mp h1 with h | h
      · rw [h]; split <;> simp
      · exact List.mem_cons_of_mem _ (List.mem_cons_of_mem _ h)
    · have h3 := h2 (if x < b then b else x) List.mem_cons_self
      have h5 : x ≤ if x < b then b else x := by split <;> omega
      have h6 : b ≤ if x < b then b else x := by split <;> omega
      rcases List.mem_cons.mp hy with h | h
      · rw [h]; exact Int.le_trans h5 h3
      · rcases List.mem_cons.mp h with h | h
        · rw [h]; exact Int.le_trans h6 h3
        · exact h2 y (List.mem_cons_of_mem _ h)
theorem foldmin : ∀ (l : List Int) (x : Int), (l.foldl (fun a b => if b < a then b else a) x ∈ x :: l) ∧ ∀ y ∈ x :: l, l.foldl (fun a b => if b < a then b else a) x ≤ y
  | [], x => by simp
  | b :: l, x => by
    obtain ⟨h1, h2⟩ := foldmin l (if b < x then b else x)
    rw [List.foldl_cons]
    refine ⟨?_, fun y hy => ?_⟩
    · rcases List.mem_cons.mp h1 with h | h
      · rw [h]; split <;> simp
      · exact List.mem_cons_of_mem _ (List.mem_cons_of_mem _ h)
    · have h3 := h2 (if b < x then b else x) List.mem_cons_self
      have h5 : (if b < x then b else x) ≤ x := by split <;> omega
      have h6 : (if b < x then b else x) ≤ b := by split <;> omega
      rcases List.mem_cons.mp hy with h | h
      · rw [h]; exact Int.le_trans h3 h5
      · rcases List.mem_cons.mp h with h | h
        · rw [h]; exact Int.le_trans h3 h6
        · exact h2 y (List.mem_cons_of_mem _ h)
theorem maxI_ok {ns : List Int} (h : ns ≠ []) : maxI ns ∈ ns ∧ ∀ y ∈ ns, y ≤ maxI ns := by
  cases ns with
  | nil => exact absurd rfl h
  | cons x r => exact foldmax r x
theorem minI_ok {ns : List Int} (h : ns ≠ []) : minI ns ∈ ns ∧ ∀ y ∈ ns, minI ns ≤ y := by
  cases ns with
  | nil => exact absurd rfl h
  | cons x r => exact foldmin r x
def maxD (d : D) : M D := fun m => match viewI m d with
  | some ns => if ns ≠ [] then .ok (.int (maxI ns)) m else .bad
  | none => .bad
def minD (d : D) : M D := fun m => match viewI m d with
  | some ns => if ns ≠ [] then .ok (.int (minI ns)) m else .bad
  | none => .bad
theorem sc_max : SC L (rMax L.K) (fun l => match l with | [d] => maxD d | _ => M.fail) := sc_one fun E ι m G H v d Q w r q => by
  unfold maxD at q
  split at q
  · rename_i ns e
    split at q
    · rename_i hne
      obtain ⟨a, rfl, h⟩ := view_ints w r e
      obtain ⟨g1, g2⟩ := maxI_ok hne
      refine ⟨a, ns, rfl, SqL.of h, List.length_pos_iff.mpr hne, fun k h1 h2 => ?_⟩
      have : k = maxI ns := Int.le_antisymm (g2 k h1) (h2 _ g1)
      rw [this]
      exact (Post.at q w) _ (.int _)
    · exact False.elim q
  · exact False.elim q
theorem sc_min : SC L (rMin L.K) (fun l => match l with | [d] => minD d | _ => M.fail) := sc_one fun E ι m G H v d Q w r q => by
  unfold minD at q
  split at q
  · rename_i ns e
    split at q
    · rename_i hne
      obtain ⟨a, rfl, h⟩ := view_ints w r e
      obtain ⟨g1, g2⟩ := minI_ok hne
      refine ⟨a, ns, rfl, SqL.of h, List.length_pos_iff.mpr hne, fun k h1 h2 => ?_⟩
      have : k = minI ns := Int.le_antisymm (h2 _ g1) (g2 k h1)
      rw [this]
      exact (Post.at q w) _ (.int _)
    · exact False.elim q
  · exact False.elim q
def blsD : List D → Option (List Bool)
  | [] => some []
  | .bl i :: r => (blsD r).map (i :: ·)
  | _ :: _ => none
theorem bls_rep {G : Hp} {ι : List Addr} : ∀ {ds : List D} {vs : List V} {ns : List Bool}, RepL L G ι vs ds → blsD ds = some ns → vs = ns.map V.bl
  | [], _, _, r, e => by cases r; cases e; rfl
  | d :: ds, _, _, r, e => by
    cases r with
    | cons r1 r2 =>
      cases r1 with
      | bl i =>
        unfold blsD at e
        cases q : blsD ds with
        | none => rw [q] at e; cases e
        | some ns => rw [q] at e; cases e; rw [bls_rep r2 q]; rfl
      | _ => cases e
def viewB (m : Mem) (d : D) : Option (List Bool) := (viewL m d).bind blsD
theorem view_bls {ι : List Addr} {G H : Hp} {m : Mem} {v : V} {d : D} {ns : List Bool} (w : W L ι m G H) (r : Rep L G ι v d) (e : viewB m d = some ns) : ∃ a, v = .ref a ∧ H a = some (.lst (ns.map V.bl)) := by
  unfold viewB at e
  cases q : viewL m d with
  | none => rw [q] at e; cases e
  | some l =>
    rw [q] at e
    obtain ⟨p, vs, rfl, h1, r1⟩ := view_list w r q
    rw [bls_rep r1 e] at h1
    exact ⟨p, rfl, h1⟩
def allD (d : D) : M D := fun m => match viewB m d with
  | some ns => .ok (.bl (ns.all id)) m
  | none => .bad
def anyD (d : D) : M D := fun m => match viewB m d with
  | some ns => .ok (.bl (ns.any id)) m
  | none => .bad
theorem sc_all : SC L (rAll L.K) (fun l => match l with | [d] => allD d | _ => M.fail) := sc_one fun E ι m G H v d Q w r q => by
  unfold allD at q
  split at q
  · rename_i ns e
    obtain ⟨a, rfl, h⟩ := view_bls w r e
    exact ⟨a, ns, rfl, SqL.of h, (Post.at q w) _ (.bl _)⟩
  · exact False.elim q
theorem sc_any : SC L (rAny L.K) (fun l => match l with | [d] => anyD d | _ => M.fail) := sc_one fun E ι m G H v d Q w r q => by
  unfold anyD at q
  split at q
  · rename_i ns e
    obtain ⟨a, rfl, h⟩ := view_bls w r e
    exact ⟨a, ns, rfl, SqL.of h, (Post.at q w) _ (.bl _)⟩
  · exact False.elim q
/-- tuple of a list, a tuple; list of one -/
def tupD (d : D) : M D := fun m => match viewL m d with
  | some l => .ok (.tup l) m
  | none => match d with
    | .tup l => .ok (.tup l) m
    | _ => .bad
theorem sc_tup : SC L (fun xs H Q => ∃ p ys, xs = [.ref p] ∧ ((SqL L.K H p ys ∧ ∀ l, H l = none → Q (.ref l) (upd H l (.tup ys))) ∨ (SqT L.K H p ys ∧ Q (.ref p) H))) (fun l => match l with | [d] => tupD d | _ => M.fail) := sc_one fun E ι m G H v d Q w r q => by
  unfold tupD at q
  split at q
  · rename_i l e
    obtain ⟨p, vs, rfl, h1, r1⟩ := view_list w r e
    exact ⟨p, vs, rfl, .inl ⟨SqL.of h1, fun l hl => new_tup q w hl r1⟩⟩
  · split at q
    · cases r with
      | tup h1 r1 => exact ⟨_, _, rfl, .inr ⟨SqT.of (w.sub _ _ h1), (Post.at q w) _ (.tup h1 r1)⟩⟩
    · exact False.elim q
def lstD (c : Bool) (d : D) : M D := fun m => match viewS m d with
  | some l => mkNew c (.lst l) m
  | none => .bad
theorem view_S {ι : List Addr} {G H : Hp} {m : Mem} {v : V} {d : D} {l : List D} (w : W L ι m G H) (r : Rep L G ι v d) (e : viewS m d = some l) : ∃ a vs, v = .ref a ∧ (SqL L.K H a vs ∨ SqT L.K H a vs) ∧ RepL L G ι vs l := by
  unfold viewS at e
  split at e
  · rename_i l' e4
    cases e
    obtain ⟨p, vs, rfl, h1, r1⟩ := view_list w r e4
    exact ⟨p, vs, rfl, .inl (SqL.of h1), r1⟩
  · obtain ⟨p, vs, rfl, h1, r1⟩ := view_tup w r e
    exact ⟨p, vs, rfl, .inr (SqT.of h1), r1⟩
theorem sc_lst {c : Bool} : SC L (fun xs H Q => ∃ p ys, xs = [.ref p] ∧ (SqL L.K H p ys ∨ SqT L.K H p ys) ∧ ∀ l, H l = none → Q (.ref l) (upd H l (.lst ys))) (fun l => match l with | [d] => lstD c d | _ => M.fail) := sc_one fun E ι m G H v d Q w r q => by
  unfold lstD at q
  split at q
  · rename_i l e
    obtain ⟨p, vs, rfl, h1, r1⟩ := view_S w r e
    exact ⟨p, vs, rfl, h1, fun l hl => new_ok q w trivial hl r1⟩
  · exact False.elim q
/-- str of an int -/
def strD : D → M D
  | .int i => if i.natAbs.log2 < 1920 then pure (.str (toString i)) else M.fail
  | _ => M.fail
theorem sc_str : SC L (fun xs H Q => ∃ i, xs = [.int i] ∧ i.natAbs.log2 < 1920 ∧ Q (.str (toString i)) H) (fun l => match l with | [d] => strD d | _ => M.fail) := sc_one fun E ι m G H v d Q w r q => by
  cases r with
  | int i => obtain ⟨hc, q⟩ := post_ite q; exact ⟨_, rfl, hc, (Post.at q w) _ (.str _)⟩
  | _ => exact False.elim q

/-! ### sorted -/
open PySem.W in
def encD (d : D) : PyData := (py0 d).getD .none
def allSome (l : List D) : Bool := l.all fun d => (py0 d).isSome
def alikeAllB (l : List D) : Bool := l.all fun d => l.all fun e => PySem.W.alike (encD d) (encD e)
def isTupN : PyData → Bool
  | .tuple (_ :: _) => true
  | _ => false
def isOther : PyData → Bool
  | .none => false
  | .tuple _ => false
  | _ => true
def sortOk (l : List D) : Bool := allSome l && alikeAllB l && ((l.all fun d => isTupN (encD d)) || (l.all fun d => isOther (encD d))) && l.all fun d => decide ((encD d).depth ≤ 64)
def sortD (c : Bool) (d : D) : M D := fun m => match viewS m d with
  | some l => if sortOk l then mkNew c (.lst (l.mergeSort (PySem.W.dataLe false encD))) m else .bad
  | none => .bad
theorem all_of {α : Type} {l : List α} {p : α → Bool} (h : l.all p = true) {a : α} (ha : a ∈ l) : p a = true := List.all_eq_true.mp h a ha
theorem enc_dp {ι : List Addr} {G H : Hp} {m : Mem} (w : W L ι m G H) {d : D} {v : V} (r : Rep L G ι v d) (h : (py0 d).isSome = true) : Dp L.K H v (encD d) := by
  unfold encD
  cases e : py0 d with
  | none => rw [e] at h; cases h
  | some p => exact dp_of w r e
theorem each_of {G H : Hp} {ι : List Addr} {m : Mem} {pins : List (Addr × Obj)} {σ : L2.St} {s : Shared} (hK : X.K = L.K) (I : Inv X pins σ H s) (w : W L ι m G H) : ∀ {l : List D} {vs : List V} {us : List Value}, RepL L G ι vs l → Vals vs us → allSome l = true →
    PySem.W.EachIs (fun (u : Value) (d : D) => ∃ v, RelV v u ∧ Rep L G ι v d) us l ∧ PySem.W.EachIs (fun u d => ∃ as, Reads s.heap u (encD d) as) us l
  | [], _, _, r, rv, _ => by cases r; cases rv; exact ⟨.nil, .nil⟩
  | d :: l, _, _, r, rv, h => by
    cases r with
    | cons r1 r2 =>
      cases rv with
      | cons v1 v2 =>
        have h' : (py0 d).isSome = true ∧ allSome l = true := by
          unfold allSome at h ⊢
          simpa using h
        obtain ⟨a, b⟩ := each_of hK I w r2 v2 h'.2
        have := enc_dp w r1 h'.1
        rw [← hK] at this
        exact ⟨.cons ⟨_, v1, r1⟩ a, .cons (Dp.reads I _ _ _ this v1) b⟩
theorem each_back {G : Hp} {ι : List Addr} : ∀ {us : List Value} {l : List D}, PySem.W.EachIs (fun (u : Value) (d : D) => ∃ v, RelV v u ∧ Rep L G ι v d) us l → ∃ vs, Vals vs us ∧ RepL L G ι vs l
  | _, _, .nil => ⟨[], .nil, .nil⟩
  | _, _, .cons ⟨v, r1, r2⟩ t => by
    obtain ⟨vs, a, b⟩ := each_back t
    exact ⟨v :: vs, .cons r1 a, .cons r2 b⟩
theorem call_sortD {c : Bool} (hK : X.K = L.K) (hu : X.A.units + 70 < cLine) : CallR X (.builtin "sorted") (fun xs H Q => ∃ (E : XK) (ι : List Addr) (m : Mem) (G : Hp) (v : V) (d : D), xs = [v] ∧ W L ι m G H ∧ Rep L G ι v d ∧ PV L E ι G H (sortD c d m) Q) := by
  intro pins s σ H xs us Q I rx h
  obtain ⟨E, ι, m, G, v, d, rfl, w, r, q⟩ := h
  unfold sortD at q
  split at q
  · rename_i l e
    split at q
    · rename_i hs
      obtain ⟨a, vs, rfl, h1, r1⟩ := view_S w r e
      cases rx with
      | cons rx rr =>
        cases rr
        cases rx
        rw [← hK] at h1
        obtain ⟨its, rv, pl, hz⟩ : ∃ its : List Value, Vals vs its ∧ (PySem.Heap.IsList s.heap a its.toArray ∨ IsTup s.heap a its.toArray) ∧ vs.length ≤ sizeLine := by
          rcases h1 with h1 | h1
          · obtain ⟨its, rv, pl, hz⟩ := I.list h1
            exact ⟨its, rv, .inl pl.isList, hz⟩
          · obtain ⟨its, rv, pl, hz⟩ := I.tuple h1
            exact ⟨its, rv, .inr pl, hz⟩
        unfold sortOk at hs
        rw [Bool.and_eq_true, Bool.and_eq_true, Bool.and_eq_true] at hs
        obtain ⟨⟨⟨s1, s2⟩, s3⟩, s4⟩ := hs
        obtain ⟨e1, e2⟩ := each_of hK I w r1 rv s1
        have al : PySem.W.AllAlike (l.map encD) := fun x hx y hy => by
          obtain ⟨b, hb, rfl⟩ := List.mem_map.mp hx
          obtain ⟨b', hb', rfl⟩ := List.mem_map.mp hy
          exact all_of (all_of s2 hb) hb'
        have so : PySem.W.Sortable (l.map encD) := by
          rw [Bool.or_eq_true] at s3
          rcases s3 with s3 | s3
          · refine .inl fun x hx => ?_
            obtain ⟨b, hb, rfl⟩ := List.mem_map.mp hx
            have := all_of s3 hb
            unfold isTupN at this
            split at this
            · rename_i e; exact ⟨_, _, e⟩
            · cases this
          · refine .inr fun x hx => ?_
            obtain ⟨b, hb, rfl⟩ := List.mem_map.mp hx
            have := all_of s3 hb
            unfold isOther at this
            split at this
            · cases this
            · cases this
            · rename_i h1 h2; exact ⟨h1, h2⟩
        have hlen := r1.length
        have fin : ∀ out : List Value, out.length = l.length → PySem.W.EachIs (fun (u : Value) (d : D) => ∃ v, RelV v u ∧ Rep L G ι v d) out (l.mergeSort (PySem.W.dataLe false encD)) → EP X pins σ Q (.ref (s.heap.objs.size + 1)) { s with heap := PyProof.Rows.sortedAll s.heap its (List.toArray out) } := fun out hl eo => ?fin
        case fin =>
          obtain ⟨ws, w1, w2⟩ := each_back eo
          obtain ⟨ep, he'⟩ := PyProof.Rows.sortedAll_at s.heap its (List.toArray out)
          have hl2 : ws.length ≤ sizeLine := by rw [w2.length, List.length_mergeSort, ← hlen]; exact hz
          have hf := I.hok.fresh (Nat.le_succ s.heap.objs.size)
          exact ⟨.ref _, upd H (s.heap.objs.size + 1) (.lst ws), I.laid (t' := s.toks) (fun _ _ => PyProof.Rows.sortedAll_old) (Nat.le_succ _) ⟨hl2, out, ep, w1, he'⟩, rfl, new_ok q w trivial hf w2⟩
        have dep : ∀ b ∈ l, X.A.units + 2 + (encD b).depth < cLine := fun b hb => by
          have := of_decide_eq_true (all_of s4 hb)
          omega
        rcases pl with pl | pl
        · exact PySem.W.sorted_data pl e1 e2 al so (by rw [← hlen]; exact hz) dep fin
        · exact sorted_dataT pl e1 e2 al so (by rw [← hlen]; exact hz) dep fin
    · exact False.elim q
  · exact False.elim q
theorem sc_sort {c : Bool} : SC L (fun xs H Q => ∃ (E : XK) (ι : List Addr) (m : Mem) (G : Hp) (v : V) (d : D), xs = [v] ∧ W L ι m G H ∧ Rep L G ι v d ∧ PV L E ι G H (sortD c d m) Q) (fun l => match l with | [d] => sortD c d | _ => M.fail) :=
  sc_one fun E ι m G H v d Q w r q => ⟨E, ι, m, G, v, d, rfl, w, r, q⟩
end Eng

set_option maxRecDepth 100000
set_option maxHeartbeats 4000000
namespace Eng
open PySem PySem.Spec PyProof.Rows L2
variable {L : Lk} {X : Cx} {E : XK} {Wx : WX}

/-! ### isinstance -/
inductive Ty where
  | bi (n : String) | own (c : Nat)
  deriving DecidableEq
def tyOf (m : Mem) : D → Option Ty
  | .non => some (.bi "NoneType")
  | .bl _ => some (.bi "bool")
  | .int _ => some (.bi "int")
  | .str _ => some (.bi "str")
  | .tup _ => some (.bi "tuple")
  | .lst _ => some (.bi "list")
  | .dK _ _ => some (.bi "dict")
  | .dT _ _ => some (.bi "dict")
  | .ins c _ _ => some (.own c)
  | .ref k => match m[k]? with
    | some (.lst _) => some (.bi "list")
    | some (.dK _ _) => some (.bi "dict")
    | some (.dT _ _) => some (.bi "dict")
    | some (.ins c _ _) => some (.own c)
    | _ => none
  | _ => none
def tyV (L : Lk) : Ty → Value
  | .bi n => .type n
  | .own c => .ref (L.cA c)
def bnames : List String := ["NoneType", "bool", "int", "str", "tuple", "list", "dict"]
/-- what the top says of the plain classes (below n) -/
structure ClsOk (K : PySem.W.Frag) (C : Addr) : Prop where
  cl : Cls K C
  ha : PySem.W.findIn K (.ref C) "__class__" = some (some (.builtin "object.__class__"))
  hn : PySem.W.specialIn K (.builtin "object.__class__") "__get__" = some (some (.builtin "getset_descriptor.__get__"))
  htk : PySem.W.takesIn K (.builtin "object.__class__") = some true
  hm : PySem.W.mroIn K C (.type "object") = some true
structure LkOk (L : Lk) (n : Nat) : Prop where
  cls : ∀ c, c < n → ClsOk L.K (L.cA c)
  kitC : ∀ c c', c < n → c' < n → PySem.W.kitOne L.K (.ref (L.cA c)) (.ref (L.cA c')) = some (decide (c = c'))
  kitB : ∀ t ∈ bnames, ∀ c, c < n → PySem.W.kitOne L.K (.type t) (.ref (L.cA c)) = some false
  kitO : ∀ c, c < n → ∀ t ∈ bnames, PySem.W.kitOne L.K (.ref (L.cA c)) (.type t) = some false
def isTy (n : Nat) : Ty → Ty → Option Bool
  | .bi a, .bi b => if a ∈ bnames ∧ b ∈ bnames then some (a == b || (a == "bool" && b == "int")) else none
  | .own a, .own b => if a < n ∧ b < n then some (decide (a = b)) else none
  | .bi a, .own b => if a ∈ bnames ∧ b < n then some false else none
  | .own a, .bi b => if a < n ∧ b ∈ bnames then some false else none
theorem kitB_tab : ∀ a ∈ bnames, ∀ b ∈ bnames, kitB a b = some (a == b || (a == "bool" && b == "int")) := by decide +kernel
theorem ite_some {c : Prop} [Decidable c] {α : Type} {a b : α} (h : (if c then some a else none) = some b) : c ∧ a = b := by
  by_cases hc : c
  · rw [if_pos hc] at h; exact ⟨hc, Option.some.inj h⟩
  · rw [if_neg hc] at h; cases h
theorem kit_ok {n : Nat} (ok : LkOk L n) : ∀ {a b : Ty} {r : Bool}, isTy n a b = some r → PySem.W.kitOne L.K (tyV L a) (tyV L b) = some r
  | .bi a, .bi b, r, h => by obtain ⟨hh, rfl⟩ := ite_some h; exact kit_ty (kitB_tab a hh.1 b hh.2)
  | .own a, .own b, r, h => by obtain ⟨hh, rfl⟩ := ite_some h; exact ok.kitC _ _ hh.1 hh.2
  | .bi a, .own b, r, h => by obtain ⟨hh, rfl⟩ := ite_some h; exact ok.kitB _ hh.1 _ hh.2
  | .own a, .bi b, r, h => by obtain ⟨hh, rfl⟩ := ite_some h; exact ok.kitO _ hh.1 _ hh.2
/-- TyX, and a locked dict of tuples -/
inductive TyZ (K : PySem.W.Frag) (H : Hp) : V → Value → Prop where
  | base {x : V} {t : Value} (h : TyX K H x t) : TyZ K H x t
  | fDT {a : Addr} {o : Obj} {kvs : List (List Key × V)} (e : H a = some (.frz o (.dT kvs))) : TyZ K H (.ref a) (.type "dict")
theorem kit_ofZ {pins : List (Addr × Obj)} {σ : L2.St} {H : Hp} {s : Shared} {x : V} {u t : Value} (I : Inv X pins σ H s) (rx : RelV x u) (ty : TyZ X.K H x t) : ∃ P : Heap → Prop, PySem.W.KitX X.K u t P ∧ P s.heap ∧ u ≠ .builtin "__main__.__loader__#opaque" := by
  cases ty with
  | base h => exact kit_of I rx h
  | @fDT a ob kvs ea =>
    cases (show u = Value.ref a from rx)
    obtain ⟨_, _, _, xs, _, o, es, ep, h1, h2, _⟩ := (show ObjOk X.prog X.w H s.heap a (.frz ob (.dT kvs)) from I.hok a _ ea)
    exact ⟨_, PySem.W.kitx_dict, ⟨o, h1, h2.1⟩, fun z => nomatch z⟩
def rIsiZ (K : PySem.W.Frag) : List V → Hp → VK → Prop := fun xs H Q => ∃ (x c : V) (t u : Value) (b : Bool), xs = [x, c] ∧ ClsV c u ∧ TyZ K H x t ∧ PySem.W.kitOne K t u = some b ∧ Q (.bl b) H
def rIsiTZ (K : PySem.W.Frag) : List V → Hp → VK → Prop := fun xs H Q => ∃ (x : V) (tp : Addr) (cs : List V) (t : Value) (us : List Value) (b : Bool), xs = [x, .ref tp] ∧ H tp = some (.tup cs) ∧ Paired ClsV cs us ∧ TyZ K H x t ∧ PySem.W.kitAny K t us = some b ∧ Q (.bl b) H
theorem call_isiZ : CallR X (.builtin "isinstance") (rIsiZ X.K) := by
  intro pins s σ H xs us Q I r h
  obtain ⟨x, c, t, u, b, rfl, k, ty, e, q⟩ := h
  obtain ⟨u1, u2, rfl, r1, r2⟩ := vals2 r
  have e2 := k.eq r2
  subst e2
  obtain ⟨P, Z, p, hx⟩ := kit_ofZ I r1 ty
  exact PySem.W.kia_one Z I.kIn p e hx fun tk => ⟨.bl b, H, I.tok tk, rfl, q⟩
theorem call_isiTZ : CallR X (.builtin "isinstance") (rIsiTZ X.K) := by
  intro pins s σ H xs us Q I r h
  obtain ⟨x, tp, cs, t, ws, b, rfl, hT, k, ty, e, q⟩ := h
  obtain ⟨u1, u2, rfl, r1, r2⟩ := vals2 r
  cases (show u2 = Value.ref tp from r2)
  obtain ⟨P, Z, p, hx⟩ := kit_ofZ I r1 ty
  obtain ⟨_, its, rv, o, h1, h2, n, h3⟩ := (show ObjOk X.prog X.w H s.heap tp (.tup cs) from I.hok tp _ hT)
  have e3 := ClsV.all k rv
  subst e3
  obtain ⟨oc, od, dt, sl⟩ := o
  simp only at h2 h3
  subst h2 h3
  exact PySem.W.kia_tup Z I.kIn p h1 e hx fun tk => ⟨.bl b, H, I.tok tk, rfl, q⟩
theorem tyx_of {n : Nat} (ok : LkOk L n) {ι : List Addr} {G H : Hp} {m : Mem} {v : V} {d : D} {t : Ty} (w : W L ι m G H) (r : Rep L G ι v d) (e : tyOf m d = some t) (hc : ∀ c, t = .own c → c < n) : TyZ L.K H v (tyV L t) := by
  have own : ∀ {c a dx fs}, c < n → H a = some (.ins (L.cA c) dx fs) → TyZ L.K H (.ref a) (.ref (L.cA c)) := fun {c a dx fs} h e => by
    obtain ⟨h1, h2, h3, h4, h5⟩ := ok.cls c h
    exact .base (.base (.ins e h1 h2 h3 h4 h5))
  have lk : ∀ {a u}, Rd G a u → Rd H a u := fun {a u} h => (GLe.of_same w.sub).1 a u h
  cases r with
  | non => cases e; exact .base (.base .non)
  | bl => cases e; exact .base (.base (.bl _))
  | int => cases e; exact .base (.base (.int _))
  | str => cases e; exact .base (.base (.str _))
  | tup h1 => cases e; exact .base (.base (.tup (w.sub _ _ h1)))
  | lst h1 => cases e; exact .base (.base (.lst (w.sub _ _ h1)))
  | dK h1 =>
    cases e
    rcases lk h1 with h | ⟨o, h⟩
    · exact .base (.base (.dK h))
    · exact .base (.fDict h)
  | dT h1 =>
    cases e
    rcases lk h1 with h | ⟨o, h⟩
    · exact .base (.base (.dT h))
    · exact .fDT h
  | ins h1 => cases e; exact own (hc _ rfl) (w.sub _ _ h1)
  | ref hk =>
    rename_i a k
    unfold tyOf at e
    dsimp only at e
    cases hm : m[k]? with
    | none => rw [hm] at e; cases e
    | some o =>
      rw [hm] at e
      cases o with
      | dead => cases e
      | tbl q => cases e
      | lst l =>
        cases e
        obtain ⟨u, h1, h2⟩ := w.cell _ _ _ hk hm trivial
        cases u <;> first | exact .base (.base (.lst h1)) | exact h2.elim
      | dK ks l =>
        cases e
        obtain ⟨u, h1, h2⟩ := w.cell _ _ _ hk hm trivial
        cases u <;> first | exact .base (.base (.dK h1)) | exact h2.elim
      | dT ks l =>
        cases e
        obtain ⟨u, h1, h2⟩ := w.cell _ _ _ hk hm trivial
        cases u <;> first | exact .base (.base (.dT h1)) | exact h2.elim
      | ins c fs l =>
        cases e
        obtain ⟨u, h1, h2⟩ := w.cell _ _ _ hk hm trivial
        cases u <;> first | (obtain ⟨rfl, _⟩ := h2; exact own (hc _ rfl) h1) | exact h2.elim
  | _ => cases e
/-- the answer for the first of the classes that is one -/
def isTys (n : Nat) (t : Ty) : List Ty → Option Bool
  | [] => some false
  | c :: r => match isTy n t c with
    | some true => some true
    | some false => isTys n t r
    | none => none
theorem kits_ok {n : Nat} (ok : LkOk L n) {a : Ty} : ∀ {l : List Ty} {r : Bool}, isTys n a l = some r → PySem.W.kitAny L.K (tyV L a) (l.map (tyV L)) = some r
  | [], _, h => h
  | c :: l, r, h => by
    unfold isTys at h
    rw [List.map_cons]
    unfold PySem.W.kitAny
    split at h
    · rename_i e; cases h; rw [kit_ok ok e]
    · rename_i e; rw [kit_ok ok e]; exact kits_ok ok h
    · cases h
def tyB (n : Nat) : Ty → Bool
  | .own c => decide (c < n)
  | _ => true
def isiD (n : Nat) (ts : List Ty) (d : D) : M D := fun m => match tyOf m d with
  | some t => if tyB n t = true then (match isTys n t ts with
    | some b => .ok (.bl b) m
    | none => .bad) else .bad
  | none => .bad
/-- a class's name as a value -/
def clsE (L : Lk) : Ty → V
  | .bi n => .ty n
  | .own c => .ref (L.cA c)
theorem cls_v (t : Ty) : ClsV (clsE L t) (tyV L t) := by cases t; exact .ty _; exact .own _
theorem cls_vs : ∀ ts : List Ty, Paired ClsV (ts.map (clsE L)) (ts.map (tyV L))
  | [] => .nil
  | t :: ts => .cons (cls_v t) (cls_vs ts)
theorem isi_ok {n : Nat} {ts : List Ty} {ι : List Addr} {m : Mem} {G H : Hp} {v : V} {d : D} {Q : VK} (ok : LkOk L n) (w : W L ι m G H) (r : Rep L G ι v d) (q : PV L E ι G H (isiD n ts d m) Q) :
    ∃ t b, TyZ L.K H v t ∧ PySem.W.kitAny L.K t (ts.map (tyV L)) = some b ∧ Q (.bl b) H := by
  unfold isiD at q
  split at q
  · rename_i t e
    split at q
    · rename_i hb
      split at q
      · rename_i b e2
        exact ⟨_, b, tyx_of ok w r e (fun c h => by subst h; exact of_decide_eq_true hb), kits_ok ok e2, (Post.at q w) _ (.bl _)⟩
      · exact False.elim q
    · exact False.elim q
  · exact False.elim q
theorem any_one {K : PySem.W.Frag} {t u : Value} {b : Bool} (h : PySem.W.kitAny K t [u] = some b) : PySem.W.kitOne K t u = some b := by
  unfold PySem.W.kitAny at h
  cases e : PySem.W.kitOne K t u with
  | none => rw [e] at h; cases h
  | some x => rw [e] at h; cases x <;> exact h
/-- isinstance(e, T) -/
theorem se_isi {n : Nat} {T : Ty} {a c : Expr} {fa : Env → M D} {p pos : Pos} (ok : LkOk L n) (hK : X.K = L.K) (hg : Gl X "isinstance") (hm : X.mg "isinstance" = none) (ha : SE X L Wx a fa) (hc : PE X c (tC (clsE L T))) (h1 : ∀ v pos, a ≠ .Starred v pos) (h2 : ∀ v pos, c ≠ .Starred v pos) :
    SE X L Wx (.Call (.Name "isinstance" p) [a, c] [] pos) (fun env => do let d ← fa env; isiD n [T] d) := by
  obtain ⟨ta, pa, ha⟩ := ha
  have s2 : starEach [c] X.env = (false, eval c X.env) :: starEach [] X.env := by cases c <;> first | rfl | exact absurd rfl (h2 _ _)
  have s1 : starEach [a, c] X.env = (false, eval a X.env) :: starEach [c] X.env := by cases a <;> first | rfl | exact absurd rfl (h1 _ _)
  refine ⟨_, pe_callB call_isiZ hg hm (by decide +kernel) (pa_cons pa (pa_cons hc pa_nil s2) s1) (by decide) (by decide) s1 (by rw [s2]; rfl), fun σ H Q env ι m G w rr q => ?_⟩
  refine ha σ H _ env ι m G w rr (Post.imp (Post.bind q) fun d m1 ι1 G1 H1 l1 w1 q1 x rx => ?_)
  obtain ⟨t, b, h1, h2, q2⟩ := isi_ok ok w1 rx q1
  rw [hK]
  exact ⟨x, _, t, _, b, rfl, cls_v T, h1, any_one h2, q2⟩
theorem se_isi2 {n : Nat} {T U : Ty} {a c e : Expr} {fa : Env → M D} {k : Nat} {p pos pt : Pos} (ok : LkOk L n) (hK : X.K = L.K) (hg : Gl X "isinstance") (hm : X.mg "isinstance" = none) (ha : SE X L Wx a fa) (hc : PE X c (tC (clsE L T))) (he : PE X e (tC (clsE L U)))
    (h1 : ∀ v pos, a ≠ .Starred v pos) (h2 : ∀ v pos, c ≠ .Starred v pos) (h3 : ∀ v pos, e ≠ .Starred v pos) :
    SE X L Wx (.Call (.Name "isinstance" p) [a, .Tuple [c, e] k pt] [] pos) (fun env => do let d ← fa env; isiD n [T, U] d) := by
  obtain ⟨ta, pa, ha⟩ := ha
  have s3 : starEach [e] X.env = (false, eval e X.env) :: starEach [] X.env := by cases e <;> first | rfl | exact absurd rfl (h3 _ _)
  have s2 : starEach [c, e] X.env = (false, eval c X.env) :: starEach [e] X.env := by cases c <;> first | rfl | exact absurd rfl (h2 _ _)
  have s1 : starEach [a, .Tuple [c, e] k pt] X.env = (false, eval a X.env) :: starEach [.Tuple [c, e] k pt] X.env := by cases a <;> first | rfl | exact absurd rfl (h1 _ _)
  refine ⟨_, pe_callB call_isiTZ hg hm (by decide +kernel) (pa_cons pa (pa_cons (pe_tup (x1 := k) (pa_cons hc (pa_cons he pa_nil s3) s2)) pa_nil rfl) s1) (by decide) (by decide) s1 (by rfl), fun σ H Q env ι m G w rr q => ?_⟩
  refine ha σ H _ env ι m G w rr (Post.imp (Post.bind q) fun d m1 ι1 G1 H1 l1 w1 q1 x rx => ?_)
  show 2 ≤ sizeLine ∧ _
  refine ⟨by decide, fun p hp => ?_⟩
  have f := w1.fresh hp
  have w2 := w1.beside (u := .tup [clsE L T, clsE L U]) f.1 f.2
  have q2 := Post.later q1 (Le.new (u := .tup [clsE L T, clsE L U]) hp)
  obtain ⟨t, b, h1, h2, q3⟩ := isi_ok ok w2 rx q2
  rw [hK]
  exact ⟨x, p, _, t, _, b, rfl, upd_same, cls_vs [T, U], h1, h2, q3⟩

/-! ### repr -/
def keyP : Key → PyData
  | .inl i => .int i
  | .inr s => .str s
mutual
def py1 : D → Option PyData
  | .non => some .none
  | .bl b => some (.bool b)
  | .int i => some (.int i)
  | .str s => some (.str s)
  | .tup l => (py1L l).map .tuple
  | .lst l => (py1L l).map .list
  | .dK ks l => (py1L l).map fun vs => .dict ((ks.map keyP).zip vs)
  | .dT ks l => (py1L l).map fun vs => .dict ((ks.map fun k => PyData.tuple (k.map keyP)).zip vs)
  | _ => none
def py1L : List D → Option (List PyData)
  | [] => some []
  | d :: ds => match py1 d, py1L ds with
    | some x, some xs => some (x :: xs)
    | _, _ => none
end
def pyR (m : Mem) (d : D) : Option PyData := match viewL m d with
  | some l => (py1L l).map .list
  | none => py1 d
theorem reads_keys {h : Heap} : ∀ {ks : List Key} {us : List Value}, Vals (ks.map kV) us → ReadsAll h us (ks.map keyP) []
  | [], _, r => by cases r; exact .nil
  | .inl i :: ks, _, r => by cases r with | cons a b => obtain ⟨t, rfl⟩ := a; exact ReadsAll.cons (.int i t) (reads_keys b)
  | .inr i :: ks, _, r => by cases r with | cons a b => obtain ⟨t, rfl⟩ := a; exact ReadsAll.cons (.str i t) (reads_keys b)
section
variable {pins : List (Addr × Obj)} {σ : L2.St} {H : Hp} {s : Shared}
/-- no dict among these is sys.modules -/
def NoSys (as : List Addr) (h : Heap) : Prop := ∀ b ∈ as, ∀ o, h.get? b = some o → o.cls = .type "dict" → (b == sysModules) = false
theorem NoSys.app {as bs : List Addr} {h : Heap} (x : NoSys as h) (y : NoSys bs h) : NoSys (as ++ bs) h := fun b hb => (List.mem_append.mp hb).elim (x b) (y b)
theorem NoSys.l {as bs : List Addr} {h : Heap} (x : NoSys (as ++ bs) h) : NoSys as h := fun b hb => x b (List.mem_append_left _ hb)
theorem NoSys.r {as bs : List Addr} {h : Heap} (x : NoSys (as ++ bs) h) : NoSys bs h := fun b hb => x b (List.mem_append_right _ hb)
theorem NoSys.tl {a : Addr} {as : List Addr} {h : Heap} (x : NoSys (a :: as) h) : NoSys as h := fun b hb => x b (List.mem_cons_of_mem _ hb)
abbrev ShK (P : Program) (w : World) (h : Heap) (v : Value) (d : PyData) : Prop := ∃ bs, ReadAtMost h d.depth bs ∧ ReprK P w bs h d.depth v d.shown
abbrev ShL (P : Program) (w : World) (h : Heap) (vs : List Value) (ds : List PyData) : Prop := ∃ bs, ReadAtMost h (PyData.depthAll ds) bs ∧ ReprAllK P w bs h (PyData.depthAll ds) vs (PyData.shownAll ds)
mutual
theorem shK {P : Program} {w : World} {h : Heap} : ∀ {v : Value} {d : PyData} {as : List Addr}, Reads h v d as → d.showable = true → NoSys as h → d.shown.length ≤ sizeLine → ShK P w h v d
  | _, _, _, .none, s, _, z => ReprK.of_reads .none s (fun _ => by simp) z
  | _, _, _, .bool b, s, _, z => ReprK.of_reads (.bool b) s (fun _ => by simp) z
  | _, _, _, .int i t, s, _, z => ReprK.of_reads (.int i t) s (fun _ => by simp) z
  | _, _, _, .str x t, s, _, z => ReprK.of_reads (.str x t) s (fun _ => by simp) z
  | _, _, _, .list (a := p) (vs := us) (xs := ds) e1 e2 e3 e4, s, no, z => by
    have z1 : (listText (PyData.shownAll ds)).length ≤ sizeLine := by rw [PyData.shown] at z; exact z
    obtain ⟨bs, m1, k1⟩ := shL (P := P) (w := w) e4 (by rw [PyData.showable] at s; exact s) no.tl (fun t ht => Nat.le_trans (listText_mem_le ht) z1)
    have rd : Reads h (.ref p) (.list ds) _ := .list e1 e2 e3 e4
    have nin : p ∉ bs := not_mem_of_deeper rd (by rw [PyData.depth]; omega) m1
    refine ⟨p :: bs, ReadAtMost.cons rd (by rw [PyData.depth]; omega) m1, ?_⟩
    rw [PyData.depth, PyData.shown]
    rcases us with ⟨us⟩
    cases us with
    | nil =>
      have e4' : ReadsAll h [] ds _ := e4
      cases e4'
      rw [PyData.shownAll, listText_nil]
      exact ReprK.listEmpty e1 e2 e3
    | cons x l => exact ReprK.list e1 e2 e3 nin (by simpa using k1.length_eq) (fun i y e => k1.item i y (by rw [← e]; simp))
  | _, _, _, .tuple (a := p) (xs := ds) e1 e2 e3 e4, s, no, z => by
    have z1 : (tupleText (PyData.shownAll ds)).length ≤ sizeLine := by rw [PyData.shown] at z; exact z
    obtain ⟨bs, m1, k1⟩ := shL (P := P) (w := w) e4 (by rw [PyData.showable] at s; exact s) no (fun t ht => Nat.le_trans (tupleText_mem_le ht) z1)
    have rd : Reads h (.ref p) (.tuple ds) _ := .tuple e1 e2 e3 e4
    have nin : p ∉ bs := not_mem_of_deeper rd (by rw [PyData.depth]; omega) m1
    refine ⟨p :: bs, ReadAtMost.cons rd (by rw [PyData.depth]; omega) m1, ?_⟩
    rw [PyData.depth, PyData.shown]
    exact ReprK.tuple e1 e2 e3 nin k1
  | _, _, _, .dict (a := p) (o := o) (es := es) (kvs := kvs) e1 e2 e3 e4 e5, s, no, z => by
    have z1 : (dictText (PyData.shownKv kvs)).length ≤ sizeLine := by rw [PyData.shown] at z; exact z
    obtain ⟨s1, s2⟩ := PyData.showableKv_split kvs (by rw [PyData.showable] at s; exact s)
    have ns : (p == sysModules) = false := no p (List.mem_append_left _ (List.mem_cons_self ..)) o e1 e2
    obtain ⟨b1, m1, k1⟩ := shL (P := P) (w := w) e4 s1 no.l.tl (fun t ht => let ⟨q, hq, hl⟩ := PyData.shownKv_key_le kvs t ht; Nat.le_trans hl (Nat.le_trans (dictText_mem_le hq) z1))
    obtain ⟨b2, m2, k2⟩ := shL (P := P) (w := w) e5 s2 no.r (fun t ht => let ⟨q, hq, hl⟩ := PyData.shownKv_val_le kvs t ht; Nat.le_trans hl (Nat.le_trans (dictText_mem_le hq) z1))
    have rd : Reads h (.ref p) (.dict kvs) _ := .dict e1 e2 e3 e4 e5
    have mm : ReadAtMost h (PyData.depthKv kvs) (b1 ++ b2) := (m1.mono (PyData.depthAll_keys_le kvs)).append (m2.mono (PyData.depthAll_vals_le kvs))
    have nin : p ∉ b1 ++ b2 := not_mem_of_deeper rd (by rw [PyData.depth]; omega) mm
    refine ⟨p :: (b1 ++ b2), ReadAtMost.cons rd (by rw [PyData.depth]; omega) mm, ?_⟩
    rw [PyData.depth, PyData.shown, PyData.shownKv_eq]
    exact ReprK.dict e1 e2 e3 ns nin (.of_two es.toList _ _
      (k1.more_le (fun b hb => List.mem_append.mpr (.inl hb)) (PyData.depthAll_keys_le kvs)) (k2.more_le (fun b hb => List.mem_append.mpr (.inr hb)) (PyData.depthAll_vals_le kvs)))
theorem shL {P : Program} {w : World} {h : Heap} : ∀ {vs : List Value} {ds : List PyData} {as : List Addr}, ReadsAll h vs ds as → PyData.showableAll ds = true → NoSys as h → (∀ t ∈ PyData.shownAll ds, t.length ≤ sizeLine) → ShL P w h vs ds
  | _, _, _, .nil, _, _, _ => ⟨[], (fun _ q => nomatch q), by rw [PyData.shownAll]; exact .nil⟩
  | _, _, _, .cons (d := d) (ds := ds) r rs, s, no, z => by
    have s1 : d.showable = true ∧ PyData.showableAll ds = true := by simpa [PyData.showableAll] using s
    obtain ⟨b1, m1, k1⟩ := shK (P := P) (w := w) r s1.1 no.l (z _ (by rw [PyData.shownAll]; exact List.mem_cons_self ..))
    obtain ⟨b2, m2, k2⟩ := shL (P := P) (w := w) rs s1.2 no.r (fun t ht => z t (by rw [PyData.shownAll]; exact List.mem_cons_of_mem _ ht))
    refine ⟨b1 ++ b2, (m1.mono (by rw [PyData.depthAll]; exact Nat.le_max_left _ _)).append (m2.mono (by rw [PyData.depthAll]; exact Nat.le_max_right _ _)), ?_⟩
    rw [PyData.depthAll, PyData.shownAll]
    exact .cons ((k1.more fun b hb => List.mem_append.mpr (.inl hb)).level_le (Nat.le_max_left _ _)) (k2.more_le (fun b hb => List.mem_append.mpr (.inr hb)) (Nat.le_max_right _ _))
end
theorem shTop {P : Program} {w : World} {h : Heap} {p : Addr} {d : PyData} {as : List Addr} (r : Reads h (.ref p) d as) (s : d.showable = true) (no : NoSys as h) (z : d.shown.length ≤ sizeLine) : ∃ T idr, ShowsBy P w h p d T idr := by
  cases r with
  | list e1 e2 e3 e4 =>
    rename_i o us n ds as1
    have z1 : (listText (PyData.shownAll ds)).length ≤ sizeLine := by rw [PyData.shown] at z; exact z
    obtain ⟨bs, m1, k1⟩ := shL (P := P) (w := w) e4 (by rw [PyData.showable] at s; exact s) no.tl (fun t ht => Nat.le_trans (listText_mem_le ht) z1)
    have nin : p ∉ bs := not_mem_of_deeper (.list e1 e2 e3 e4) (by rw [PyData.depth]; omega) m1
    refine ⟨_, _, F.slot_list_repr.toG, F.slot_list_str, F.slot_list_format, fun s' k0 => ⟨o, k0 _ _ e1, e2⟩, fun A E s' Q hg hu k0 hQ => ?_⟩
    rw [PyData.depth] at hu
    rw [PyData.shown] at hQ
    rcases us with ⟨us⟩
    cases us with
    | nil =>
      have e4' : ReadsAll h [] ds _ := e4
      cases e4'
      rw [PyData.shownAll, listText_nil] at hQ
      exact call_list_repr_empty ⟨o, k0 _ _ e1, e2⟩ (k0 _ _ e1) e3 (hQ s'.heap _ _ fun _ _ e => e)
    | cons x l => exact call_list_reprK e1 e2 e3 nin (by simpa using k1.length_eq) (fun i y e => k1.item i y (by rw [← e]; simp)) hg (fun b _ => Clear.nil b) hu k0 hQ z1
  | tuple e1 e2 e3 e4 =>
    rename_i o us n ds
    have z1 : (tupleText (PyData.shownAll ds)).length ≤ sizeLine := by rw [PyData.shown] at z; exact z
    obtain ⟨bs, m1, k1⟩ := shL (P := P) (w := w) e4 (by rw [PyData.showable] at s; exact s) no (fun t ht => Nat.le_trans (tupleText_mem_le ht) z1)
    have nin : p ∉ bs := not_mem_of_deeper (.tuple e1 e2 e3 e4) (by rw [PyData.depth]; omega) m1
    refine ⟨_, _, F.slot_tuple_repr, F.slot_tuple_str, F.slot_tuple_format, fun s' k0 => ⟨o, k0 _ _ e1, e2⟩, fun A E s' Q hg hu k0 hQ => ?_⟩
    rw [PyData.depth] at hu
    rw [PyData.shown] at hQ
    exact call_tuple_reprK e1 e2 e3 nin k1 hg (fun b _ => Clear.nil b) hu k0 hQ z1
  | dict e1 e2 e3 e4 e5 =>
    rename_i o es n kvs as1 bs1
    have z1 : (dictText (PyData.shownKv kvs)).length ≤ sizeLine := by rw [PyData.shown] at z; exact z
    obtain ⟨s1, s2⟩ := PyData.showableKv_split kvs (by rw [PyData.showable] at s; exact s)
    have ns : (p == sysModules) = false := no p (List.mem_append_left _ (List.mem_cons_self ..)) o e1 e2
    obtain ⟨b1, m1, k1⟩ := shL (P := P) (w := w) e4 s1 no.l.tl (fun t ht => let ⟨q, hq, hl⟩ := PyData.shownKv_key_le kvs t ht; Nat.le_trans hl (Nat.le_trans (dictText_mem_le hq) z1))
    obtain ⟨b2, m2, k2⟩ := shL (P := P) (w := w) e5 s2 no.r (fun t ht => let ⟨q, hq, hl⟩ := PyData.shownKv_val_le kvs t ht; Nat.le_trans hl (Nat.le_trans (dictText_mem_le hq) z1))
    have mm : ReadAtMost h (PyData.depthKv kvs) (b1 ++ b2) := (m1.mono (PyData.depthAll_keys_le kvs)).append (m2.mono (PyData.depthAll_vals_le kvs))
    have nin : p ∉ b1 ++ b2 := not_mem_of_deeper (.dict e1 e2 e3 e4 e5) (by rw [PyData.depth]; omega) mm
    refine ⟨_, _, F.slot_dict_repr, F.slot_dict_str, F.slot_dict_format, fun s' k0 => ⟨o, k0 _ _ e1, e2⟩, fun A E s' Q hg hu k0 hQ => ?_⟩
    rw [PyData.depth] at hu
    rw [PyData.shown, PyData.shownKv_eq] at hQ
    exact call_dict_reprK e1 e2 e3 ns nin (.of_two es.toList _ _
      (k1.more_le (fun b hb => List.mem_append.mpr (.inl hb)) (PyData.depthAll_keys_le kvs)) (k2.more_le (fun b hb => List.mem_append.mpr (.inr hb)) (PyData.depthAll_vals_le kvs))) hg (fun b _ => Clear.nil b) hu k0 hQ (by rw [← PyData.shownKv_eq]; exact z1)
theorem keys_pairs {P : Program} {w : World} {h : Heap} : ∀ {es : List DictEntry} {ks : List Key} {vs : List V} {ws : List (Key × Value)}, KV (ks.zip vs) ws → Pairs (mixKind P w) es ws → ks.length = vs.length →
    ReadsAll h (es.map (·.key)) (ks.map keyP) [] ∧ Vals vs (es.map (·.val))
  | _, [], [], _, k, p, _ => by cases k; cases p; exact ⟨.nil, .nil⟩
  | _, [], _ :: _, _, _, _, e => by cases e
  | _, _ :: _, [], _, _, _, e => by cases e
  | _, k :: ks, v :: vs, _, kv, p, e => by
    rw [List.zip_cons_cons] at kv
    cases kv with
    | cons a b =>
      cases p with
      | cons p1 p2 p3 =>
        obtain ⟨h1, h2⟩ := keys_pairs (h := h) b p3 (by simpa using e)
        refine ⟨?_, .cons (by dsimp only; rw [p2]; exact a.2) h2⟩
        rename_i b' l2 e' es'
        have p1' : keyIs k e'.key = true := by have a1 : k = b'.1 := a.1; rw [a1]; exact p1
        cases k with
        | inl i =>
          obtain ⟨t, e⟩ := Value.isInt_shape p1'
          rw [List.map_cons, e]
          exact ReadsAll.cons (.int i t) h1
        | inr i =>
          obtain ⟨t, e⟩ := Value.isStrOf_shape p1'
          rw [List.map_cons, e]
          exact ReadsAll.cons (.str i t) h1
theorem keysT_pairs {P : Program} {w : World} {h : Heap} (ok : HOk P w H h) : ∀ {ks : List (List Key)} {vs : List V} {xs : List (List Key × Addr × Value)},
    Paired (fun (p : List Key × V) (q : List Key × Addr × Value) => p.1 = q.1 ∧ H q.2.1 = some (.tup (p.1.map kV)) ∧ RelV p.2 q.2.2) (ks.zip vs) xs → ks.length = vs.length →
    ReadsAll h ((xs.map (entryOfKey (tupleKind (mixKind P w)))).map (·.key)) (ks.map fun k => PyData.tuple (k.map keyP)) [] ∧ Vals vs ((xs.map (entryOfKey (tupleKind (mixKind P w)))).map (·.val))
  | [], [], _, k, _ => by cases k; exact ⟨.nil, .nil⟩
  | [], _ :: _, _, _, e => by cases e
  | _ :: _, [], _, _, e => by cases e
  | k :: ks, v :: vs, _, kv, e => by
    rw [List.zip_cons_cons] at kv
    cases kv with
    | cons a b =>
      rename_i q xs
      obtain ⟨h1, h2⟩ := keysT_pairs ok b (by simpa using e)
      obtain ⟨a1, a2, a3⟩ := a
      refine ⟨?_, .cons a3 h2⟩
      obtain ⟨_, its, r, o, g1, g2, n, g3⟩ := (show ObjOk P w H h q.2.1 (.tup (k.map kV)) from ok _ _ a2)
      exact ReadsAll.cons (as := []) (.tuple g1 g2 g3 (by simpa using reads_keys r)) h1
mutual
theorem reads_of {ι : List Addr} {G : Hp} {m : Mem} (w : W L ι m G H) (ok : HOk X.prog X.w H s.heap) : ∀ {d : D} {v : V} {u : Value} {p : PyData}, Rep L G ι v d → RelV v u → py1 d = some p → ∃ as, Reads s.heap u p as ∧ NoSys as s.heap
  | .non, _, _, _, r, rv, e => by cases r; cases rv; cases e; exact ⟨_, .none, fun _ h => nomatch h⟩
  | .bl _, _, _, _, r, rv, e => by cases r; cases rv; cases e; exact ⟨_, .bool _, fun _ h => nomatch h⟩
  | .int _, _, _, _, r, rv, e => by cases r; obtain ⟨t, rfl⟩ := rv; cases e; exact ⟨_, .int _ _, fun _ h => nomatch h⟩
  | .str _, _, _, _, r, rv, e => by cases r; obtain ⟨t, rfl⟩ := rv; cases e; exact ⟨_, .str _ _, fun _ h => nomatch h⟩
  | .tup l, _, _, _, r, rv, e => by
    unfold py1 at e
    cases q : py1L l with
    | none => rw [q] at e; cases e
    | some ps =>
      rw [q] at e; cases e
      cases r with
      | tup h1 h2 =>
        cases rv
        obtain ⟨_, its, rr, o, g1, g2, n, g3⟩ := (show ObjOk X.prog X.w H s.heap _ (.tup _) from ok _ _ (w.sub _ _ h1))
        obtain ⟨as, ra, na⟩ := readsAll_of w ok h2 rr q
        exact ⟨_, .tuple g1 g2 g3 (by simpa using ra), na⟩
  | .lst l, _, _, _, r, rv, e => by
    unfold py1 at e
    cases q : py1L l with
    | none => rw [q] at e; cases e
    | some ps =>
      rw [q] at e; cases e
      cases r with
      | lst h1 h2 =>
        cases rv
        have h1' := w.sub _ _ h1
        obtain ⟨_, its, n, rr, g1⟩ := (show ObjOk X.prog X.w H s.heap _ (.lst _) from ok _ _ h1')
        obtain ⟨as, ra, na⟩ := readsAll_of w ok h2 rr q
        exact ⟨_, .list g1 rfl rfl (by simpa using ra), fun b hb => by
          rcases List.mem_cons.mp hb with hb | hb
          · subst hb
            intro o e c
            rw [g1] at e; cases e
            exact absurd (by injection c : "list" = "dict") (by decide)
          · exact na b hb⟩
  | .dK ks l, _, _, _, r, rv, e => by
    unfold py1 at e
    cases q : py1L l with
    | none => rw [q] at e; cases e
    | some ps =>
      rw [q] at e; cases e
      cases r with
      | dK h1 hl h2 =>
        cases rv
        have h1' := (GLe.of_same w.sub).1 _ _ h1
        obtain ⟨_, nsys, ws, kv, o, es, ep, g1, g2, g3, _, g5, _⟩ := dk_rd ok h1'
        obtain ⟨k1, k2⟩ := keys_pairs (h := s.heap) kv g5 (by rw [hl, h2.length])
        obtain ⟨as, ra, na⟩ := readsAll_of w ok h2 k2 q
        have hlp : (ks.map keyP).length = ps.length := by
          rw [List.length_map, hl]; exact (py1L_len q).symm
        refine ⟨_, .dict (kvs := (ks.map keyP).zip ps) g1 g2.1 g3 (by rw [List.map_fst_zip (by omega)]; exact k1) (by rw [List.map_snd_zip (by omega)]; exact ra), fun b hb => ?_⟩
        rcases List.mem_cons.mp hb with hb | hb
        · subst hb
          exact fun _ _ _ => nsys
        · exact na b hb
  | .dT ks l, _, _, _, r, rv, e => by
    unfold py1 at e
    cases q : py1L l with
    | none => rw [q] at e; cases e
    | some ps =>
      rw [q] at e; cases e
      cases r with
      | dT h1 hl h2 =>
        cases rv
        have h1' := (GLe.of_same w.sub).1 _ _ h1
        obtain ⟨_, nsys, xs, kv, o, es, ep, g1, g2, g3, g4, g5⟩ := dt_rd ok h1'
        obtain ⟨k1, k2⟩ := keysT_pairs ok kv (by rw [hl, h2.length])
        obtain ⟨as, ra, na⟩ := readsAll_of w ok h2 k2 q
        have hlp : (ks.map fun k => PyData.tuple (k.map keyP)).length = ps.length := by
          rw [List.length_map, hl]; exact (py1L_len q).symm
        refine ⟨_, .dict (kvs := (ks.map fun k => PyData.tuple (k.map keyP)).zip ps) g1 g2.1 g3 (by rw [List.map_fst_zip (by omega), g4]; exact k1) (by rw [List.map_snd_zip (by omega), g4]; exact ra), fun b hb => ?_⟩
        rcases List.mem_cons.mp hb with hb | hb
        · subst hb
          exact fun _ _ _ => nsys
        · exact na b hb
  | .ins _ _ _, _, _, _, _, _, e => by unfold py1 at e; cases e
  | .ref _, _, _, _, _, _, e => by unfold py1 at e; cases e
  | .fn _, _, _, _, _, _, e => by unfold py1 at e; cases e
  | .scr _, _, _, _, _, _, e => by unfold py1 at e; cases e
theorem readsAll_of {ι : List Addr} {G : Hp} {m : Mem} (w : W L ι m G H) (ok : HOk X.prog X.w H s.heap) : ∀ {ds : List D} {vs : List V} {us : List Value} {ps : List PyData}, RepL L G ι vs ds → Vals vs us → py1L ds = some ps → ∃ as, ReadsAll s.heap us ps as ∧ NoSys as s.heap
  | [], _, _, _, r, rv, e => by cases r; cases rv; cases e; exact ⟨_, .nil, fun _ h => nomatch h⟩
  | d :: ds, _, _, _, r, rv, e => by
    unfold py1L at e
    cases r with
    | cons r1 r2 =>
      cases rv with
      | cons v1 v2 =>
        split at e
        · rename_i x xs e1 e2
          cases e
          obtain ⟨as, a1, a2⟩ := reads_of w ok r1 v1 e1
          obtain ⟨bs, b1, b2⟩ := readsAll_of w ok r2 v2 e2
          exact ⟨_, .cons a1 b1, fun b hb => (List.mem_append.mp hb).elim (a2 b) (b2 b)⟩
        · cases e
theorem py1L_len : ∀ {l : List D} {ps : List PyData}, py1L l = some ps → ps.length = l.length
  | [], _, e => by cases e; rfl
  | d :: l, _, e => by
    unfold py1L at e
    split at e
    · rename_i x xs e1 e2
      cases e
      rw [List.length_cons, List.length_cons, py1L_len e2]
    · cases e
end
end
def reprD (d : D) : M D := fun m => match pyR m d with
  | some p => if p.showable = true ∧ p.shown.length ≤ sizeLine ∧ p.depth ≤ 100 then .ok (.str p.shown) m else .bad
  | none => .bad
theorem call_reprD (hg : X.A.guards = some []) (hu : X.A.units + 110 < cLine) :
    CallR X (.builtin "repr") (fun xs H Q => ∃ (E : XK) (ι : List Addr) (m : Mem) (G : Hp) (v : V) (d : D), xs = [v] ∧ W L ι m G H ∧ Rep L G ι v d ∧ PV L E ι G H (reprD d m) Q) := by
  intro pins s σ H xs us Q I rx h
  obtain ⟨E, ι, m, G, v, d, rfl, w, r, q⟩ := h
  unfold reprD at q
  split at q
  · rename_i p e
    split at q
    · rename_i hc
      obtain ⟨c1, c2, c3⟩ := hc
      cases rx with
      | cons rx rr =>
        cases rr
        rename_i u
        have fin : ∀ (h' : Heap) (t : Tok) (tk : Nat), (∀ b o, s.heap.get? b = some o → h'.get? b = some o) → EP X pins σ Q (.str p.shown t) { s with heap := h', toks := tk } :=
          fun h' t tk k => ⟨.str p.shown, H, I.kept k, ⟨t, rfl⟩, (Post.at q w) _ (.str _)⟩
        have main : ∃ as, Reads s.heap u p as ∧ NoSys as s.heap := by
          unfold pyR at e
          split at e
          · rename_i l hl
            obtain ⟨a, vs, rfl, h1, h2⟩ := view_list w r hl
            cases q2 : py1L l with
            | none => rw [q2] at e; cases e
            | some ps =>
              rw [q2] at e; cases e
              cases rx
              obtain ⟨_, its, n, rr, g1⟩ := (show ObjOk X.prog X.w H s.heap _ (.lst _) from I.hok _ _ h1)
              obtain ⟨as, ra, na⟩ := readsAll_of w I.hok h2 rr q2
              exact ⟨_, .list g1 rfl rfl (by simpa using ra), fun b hb => by
                rcases List.mem_cons.mp hb with hb | hb
                · subst hb
                  intro o e c
                  rw [g1] at e; cases e
                  exact absurd (by injection c : "list" = "dict") (by decide)
                · exact na b hb⟩
          · exact reads_of w I.hok r rx e
        obtain ⟨as, ra, na⟩ := main
        cases u with
        | ref a =>
          obtain ⟨T, idr, S⟩ := shTop (P := X.prog) (w := X.w) ra c1 na c2
          exact call_repr_slot (by omega) (S.typeIs s fun _ _ z => z) S.slotRepr (S.call X.A.in1 _ s _ hg (by show X.A.units + 1 + p.depth < cLine; omega) (fun _ _ z => z) fun h' t tk k => ⟨_, _, rfl, fin h' t tk k⟩)
        | none => cases ra; exact PySem.P.repr_of_none (fin s.heap _ _ fun _ _ z => z)
        | bool b => cases ra; exact PySem.P.repr_of_bool (fin s.heap _ _ fun _ _ z => z)
        | int i t => cases ra; exact PySem.P.repr_of_int (of_decide_eq_true c1) (fin s.heap _ _ fun _ _ z => z)
        | str x t => cases ra; exact PySem.P.repr_of_str (fin s.heap _ _ fun _ _ z => z) c2
        | _ => cases ra
    · exact False.elim q
  · exact False.elim q
theorem sc_repr : SC L (fun xs H Q => ∃ (E : XK) (ι : List Addr) (m : Mem) (G : Hp) (v : V) (d : D), xs = [v] ∧ W L ι m G H ∧ Rep L G ι v d ∧ PV L E ι G H (reprD d m) Q) (fun l => match l with | [d] => reprD d | _ => M.fail) :=
  sc_one fun E ι m G H v d Q w r q => ⟨E, ι, m, G, v, d, rfl, w, r, q⟩
end Eng

set_option maxRecDepth 100000
set_option maxHeartbeats 4000000
namespace Eng
open PySem PySem.Spec PyProof.Rows L2
variable {L : Lk} {X : Cx} {E : XK} {Wx : WX}

/-! ### and, or, not, .. if .. else -/
def dNot : D → M D
  | .bl b => pure (.bl (!b))
  | _ => M.fail
section
variable {a b c : Expr} {rest : List Expr} {fa fb fc : Env → M D} {ga gb : Env → M Bool} {pos : Pos}
theorem se_one {op : BoolOp} (ha : SE X L Wx a fa) : SE X L Wx (.BoolOp op [a] pos) fa := by
  obtain ⟨t, p, h⟩ := ha
  exact ⟨t, pe_one p, h⟩
theorem se_and (ha : SE X L Wx a fa) (hb : SE X L Wx (.BoolOp .And (b :: rest) pos) fb) : SE X L Wx (.BoolOp .And (a :: b :: rest) pos) (fun env => do let x ← fa env; let c ← asB x; if c then fb env else pure (.bl false)) := by
  obtain ⟨ta, pa, ha⟩ := ha
  obtain ⟨tb, pb, hb⟩ := hb
  refine ⟨_, pe_and pa pb, fun σ H Q env ι m G w rr q => ?_⟩
  refine ha σ H _ env ι m G w rr (Post.imp (Post.bind q) fun da m1 ι1 G1 H1 l1 w1 q1 x rx => ?_)
  obtain ⟨k, rfl, q2⟩ := post_asB (Post.bind q1) w1
  cases rx
  refine ⟨k, rfl, ?_⟩
  cases k with
  | true => exact hb σ H1 Q env ι1 m1 G1 w1 (rr.le l1) q2
  | false => exact (Post.at q2 w1) _ (.bl _)
theorem se_or (ha : SE X L Wx a fa) (hb : SE X L Wx (.BoolOp .Or (b :: rest) pos) fb) : SE X L Wx (.BoolOp .Or (a :: b :: rest) pos) (fun env => do let x ← fa env; let c ← asB x; if c then pure (.bl true) else fb env) := by
  obtain ⟨ta, pa, ha⟩ := ha
  obtain ⟨tb, pb, hb⟩ := hb
  refine ⟨_, pe_or pa pb, fun σ H Q env ι m G w rr q => ?_⟩
  refine ha σ H _ env ι m G w rr (Post.imp (Post.bind q) fun da m1 ι1 G1 H1 l1 w1 q1 x rx => ?_)
  obtain ⟨k, rfl, q2⟩ := post_asB (Post.bind q1) w1
  cases rx
  refine ⟨k, rfl, ?_⟩
  cases k with
  | true => exact (Post.at q2 w1) _ (.bl _)
  | false => exact hb σ H1 Q env ι1 m1 G1 w1 (rr.le l1) q2
theorem se_not (ha : SE X L Wx a fa) : SE X L Wx (.UnaryOp .Not a pos) (fun env => do let x ← fa env; dNot x) := by
  obtain ⟨ta, pa, ha⟩ := ha
  refine ⟨_, pe_not pa, fun σ H Q env ι m G w rr q => ?_⟩
  refine ha σ H _ env ι m G w rr (Post.imp (Post.bind q) fun da m1 ι1 G1 H1 l1 w1 q1 x rx => ?_)
  cases rx with
  | bl k => exact ⟨k, rfl, (Post.at q1 w1) _ (.bl _)⟩
  | _ => exact False.elim q1
theorem se_neg (ha : SE X L Wx a fa) : SE X L Wx (.UnaryOp .USub a pos) (fun env => do let x ← fa env; dNeg x) := by
  obtain ⟨ta, pa, ha⟩ := ha
  exact ⟨_, pe_un un_neg pa, re_un su_neg ha⟩
theorem se_ite (hc : ST X L Wx c ga) (ha : SE X L Wx a fa) (hb : SE X L Wx b fb) : SE X L Wx (.IfExp c a b pos) (fun env => do let k ← ga env; if k then fa env else fb env) := by
  obtain ⟨tc, pc, hc⟩ := hc
  obtain ⟨ta, pa, ha⟩ := ha
  obtain ⟨tb, pb, hb⟩ := hb
  refine ⟨_, pe_ifExp pc pa pb, fun σ H Q env ι m G w rr q => ?_⟩
  refine hc σ H _ env ι m G w rr (Post.imp (Post.bind q) fun k m1 ι1 G1 H1 l1 w1 q1 => ?_)
  cases k with
  | true => exact ha σ H1 Q env ι1 m1 G1 w1 (rr.le l1) q1
  | false => exact hb σ H1 Q env ι1 m1 G1 w1 (rr.le l1) q1
/-- a is None, is not None -/
def isNon : D → Bool
  | .non => true
  | _ => false
theorem rep_non {G : Hp} {ι : List Addr} {v : V} {d : D} (r : Rep L G ι v d) : decide (v = V.non) = isNon d := by
  cases r <;> first | rfl | exact decide_eq_false (fun h => nomatch h)
theorem se_isN {j : Nat} {p2 : Pos} (ha : SE X L Wx a fa) : SE X L Wx (.Compare a [.Is] [.Constant .none j p2] pos) (fun env => do let x ← fa env; pure (.bl (isNon x))) := by
  obtain ⟨ta, pa, ha⟩ := ha
  refine ⟨_, pe_cmp (pc_isN pa), fun σ H Q env ι m G w rr q => ?_⟩
  refine ha σ H _ env ι m G w rr (Post.imp (Post.bind q) fun da m1 ι1 G1 H1 l1 w1 q1 x rx => ?_)
  dsimp only
  rw [rep_non rx]
  exact (Post.at q1 w1) _ (.bl _)
theorem se_notN {j : Nat} {p2 : Pos} (ha : SE X L Wx a fa) : SE X L Wx (.Compare a [.IsNot] [.Constant .none j p2] pos) (fun env => do let x ← fa env; pure (.bl (!isNon x))) := by
  obtain ⟨ta, pa, ha⟩ := ha
  refine ⟨_, pe_cmp (pc_notN pa), fun σ H Q env ι m G w rr q => ?_⟩
  refine ha σ H _ env ι m G w rr (Post.imp (Post.bind q) fun da m1 ι1 G1 H1 l1 w1 q1 x rx => ?_)
  dsimp only
  rw [rep_non rx]
  exact (Post.at q1 w1) _ (.bl _)
/-- a op b op' c -/
theorem se_chain {op op' : CmpOp} {r r' : R2} {f f' : D → D → M D} (hr : OpR X (compareOp op) r) (hr' : OpR X (compareOp op') r') (ho : SO L r f) (ho' : SO L r' f') (ha : SE X L Wx a fa) (hb : SE X L Wx b fb) (hc : SE X L Wx c fc) (hm : lastMarks [op, op'] [b, c] = false) :
    SE X L Wx (.Compare a [op, op'] [b, c] pos) (fun env => do let x ← fa env; let y ← fb env; let z ← f x y; let k ← asB z; if k then (do let u ← fc env; f' y u) else pure (.bl false)) := by
  obtain ⟨ta, pa, ha⟩ := ha
  obtain ⟨tb, pb, hb⟩ := hb
  obtain ⟨tc, pc, hc⟩ := hc
  refine ⟨_, pe_chain hr hr' pa pb pc hm, fun σ H Q env ι m G w rr q => ?_⟩
  refine ha σ H _ env ι m G w rr (Post.imp (Post.bind q) fun da m1 ι1 G1 H1 l1 w1 q1 x rx => ?_)
  refine hb σ H1 _ env ι1 m1 G1 w1 (rr.le l1) (Post.imp (Post.bind q1) fun db m2 ι2 G2 H2 l2 w2 q2 y ry => ?_)
  refine ho _ ι2 m2 G2 H2 x y da db _ w2 (rx.le l2) ry (Post.imp (Post.bind q2) fun dz m3 ι3 G3 H3 l3 w3 q3 z rz => ?_)
  obtain ⟨k, rfl, q4⟩ := post_asB (Post.bind q3) w3
  cases rz
  refine ⟨k, rfl, ?_⟩
  cases k with
  | true =>
    rw [if_pos rfl]
    refine hc σ H3 _ env ι3 m3 G3 w3 ((rr.le l1).le (l2.trans l3)) (Post.imp (Post.bind q4) fun du m5 ι5 G5 H5 l5 w5 q5 u ru => ?_)
    exact ho' _ ι5 m5 G5 H5 y u db du Q w5 ((ry.le l3).le l5) ru q5
  | false =>
    rw [if_neg Bool.false_ne_true]
    exact (Post.at q4 w3) _ (.bl _)
/-! tests -/
structure SW (X : Cx) (L : Lk) (Wx : WX) (e : Expr) (f : Env → M Bool) : Prop where
  ex : ∃ t, PW X e t ∧ RT L Wx t f
theorem sw_st (h : SW X L Wx a ga) : ST X L Wx a ga := by
  obtain ⟨t, p, h⟩ := h
  exact ⟨t, p.pt, h⟩
theorem sw_and1 (ha : ST X L Wx a ga) : SW X L Wx (.BoolOp .And [a] pos) ga := by
  obtain ⟨t, p, h⟩ := ha
  exact ⟨t, pw_and1 p, h⟩
theorem sw_or1 (ha : ST X L Wx a ga) : SW X L Wx (.BoolOp .Or [a] pos) ga := by
  obtain ⟨t, p, h⟩ := ha
  exact ⟨t, pw_or1 p, h⟩
theorem sw_and (ha : ST X L Wx a ga) (hb : SW X L Wx (.BoolOp .And (b :: rest) pos) gb) : SW X L Wx (.BoolOp .And (a :: b :: rest) pos) (fun env => do let c ← ga env; if c then gb env else pure false) := by
  obtain ⟨ta, pa, ha⟩ := ha
  obtain ⟨tb, pb, hb⟩ := hb
  refine ⟨_, pw_and pa pb, fun σ H Q env ι m G w rr q => ?_⟩
  refine ha σ H _ env ι m G w rr (Post.imp (Post.bind q) fun k m1 ι1 G1 H1 l1 w1 q1 => ?_)
  cases k with
  | true => exact hb σ H1 Q env ι1 m1 G1 w1 (rr.le l1) q1
  | false => exact Post.at q1 w1
theorem sw_or (ha : ST X L Wx a ga) (hb : SW X L Wx (.BoolOp .Or (b :: rest) pos) gb) : SW X L Wx (.BoolOp .Or (a :: b :: rest) pos) (fun env => do let c ← ga env; if c then pure true else gb env) := by
  obtain ⟨ta, pa, ha⟩ := ha
  obtain ⟨tb, pb, hb⟩ := hb
  refine ⟨_, pw_or pa pb, fun σ H Q env ι m G w rr q => ?_⟩
  refine ha σ H _ env ι m G w rr (Post.imp (Post.bind q) fun k m1 ι1 G1 H1 l1 w1 q1 => ?_)
  cases k with
  | true => exact Post.at q1 w1
  | false => exact hb σ H1 Q env ι1 m1 G1 w1 (rr.le l1) q1
theorem st_not (ha : ST X L Wx a ga) : ST X L Wx (.UnaryOp .Not a pos) (fun env => do let c ← ga env; pure (!c)) := by
  obtain ⟨ta, pa, ha⟩ := ha
  refine ⟨_, pt_not pa, fun σ H Q env ι m G w rr q => ?_⟩
  exact ha σ H _ env ι m G w rr (Post.imp (Post.bind q) fun k m1 ι1 G1 H1 l1 w1 q1 => Post.at q1 w1)
theorem st_isN {j : Nat} {p2 : Pos} (ha : SE X L Wx a fa) : ST X L Wx (.Compare a [.Is] [.Constant .none j p2] pos) (fun env => do let x ← fa env; pure (isNon x)) := by
  obtain ⟨ta, pa, ha⟩ := ha
  refine ⟨_, pt_cmp (pc_isN pa), fun σ H Q env ι m G w rr q => ?_⟩
  refine ha σ H _ env ι m G w rr (Post.imp (Post.bind q) fun da m1 ι1 G1 H1 l1 w1 q1 x rx => ?_)
  dsimp only
  rw [rep_non rx]
  exact ⟨_, rfl, Post.at q1 w1⟩
theorem st_notN {j : Nat} {p2 : Pos} (ha : SE X L Wx a fa) : ST X L Wx (.Compare a [.IsNot] [.Constant .none j p2] pos) (fun env => do let x ← fa env; pure (!isNon x)) := by
  obtain ⟨ta, pa, ha⟩ := ha
  refine ⟨_, pt_cmp (pc_notN pa), fun σ H Q env ι m G w rr q => ?_⟩
  refine ha σ H _ env ι m G w rr (Post.imp (Post.bind q) fun da m1 ι1 G1 H1 l1 w1 q1 x rx => ?_)
  dsimp only
  rw [rep_non rx]
  exact ⟨_, rfl, Post.at q1 w1⟩
theorem st_chain {op op' : CmpOp} {r r' : R2} {f f' : D → D → M D} (hr : OpR X (compareOp op) r) (hr' : OpR X (compareOp op') r') (ho : SO L r f) (ho' : SO L r' f') (ha : SE X L Wx a fa) (hb : SE X L Wx b fb) (hc : SE X L Wx c fc) (hm : lastMarks [op, op'] [b, c] = false) :
    ST X L Wx (.Compare a [op, op'] [b, c] pos) (fun env => do let v ← (do let x ← fa env; let y ← fb env; let z ← f x y; let k ← asB z; if k then (do let u ← fc env; f' y u) else pure (.bl false)); asB v) := by
  obtain ⟨t, p, h⟩ := (se_chain (pos := pos) hr hr' ho ho' ha hb hc hm : SE X L Wx _ _)
  obtain ⟨ta, pa, ha⟩ := ha
  obtain ⟨tb, pb, hb⟩ := hb
  obtain ⟨tc, pc, hc⟩ := hc
  refine ⟨_, pt_chain hr hr' pa pb pc hm, rt_test fun σ H Q env ι m G w rr q => ?_⟩
  refine ha σ H _ env ι m G w rr (Post.imp (Post.bind q) fun da m1 ι1 G1 H1 l1 w1 q1 x rx => ?_)
  refine hb σ H1 _ env ι1 m1 G1 w1 (rr.le l1) (Post.imp (Post.bind q1) fun db m2 ι2 G2 H2 l2 w2 q2 y ry => ?_)
  refine ho _ ι2 m2 G2 H2 x y da db _ w2 (rx.le l2) ry (Post.imp (Post.bind q2) fun dz m3 ι3 G3 H3 l3 w3 q3 z rz => ?_)
  obtain ⟨k, rfl, q4⟩ := post_asB (Post.bind q3) w3
  cases rz
  refine ⟨k, rfl, ?_⟩
  cases k with
  | true =>
    rw [if_pos rfl]
    refine hc σ H3 _ env ι3 m3 G3 w3 ((rr.le l1).le (l2.trans l3)) (Post.imp (Post.bind q4) fun du m5 ι5 G5 H5 l5 w5 q5 u ru => ?_)
    exact ho' _ ι5 m5 G5 H5 y u db du Q w5 ((ry.le l3).le l5) ru q5
  | false =>
    rw [if_neg Bool.false_ne_true]
    exact (Post.at q4 w3) _ (.bl _)
/-- any other expression that gives a bool -/
theorem st_val (ha : SE X L Wx a fa) (he : ∀ whole, isTrue a X.env whole = (do let v ← whole; standAt a.pos; holding [v] (truthy v))) : ST X L Wx a (fun env => do let x ← fa env; asB x) := by
  obtain ⟨ta, pa, ha⟩ := ha
  refine ⟨_, pt_val pa he, fun σ H Q env ι m G w rr q => ?_⟩
  refine ha σ H _ env ι m G w rr (Post.imp (Post.bind q) fun da m1 ι1 G1 H1 l1 w1 q1 x rx => ?_)
  obtain ⟨b, rfl, q2⟩ := post_asB q1 w1
  cases rx
  exact ⟨b, rfl, q2⟩
end

/-! ### attributes -/
def find1 : List Str → List D → Str → Option D
  | f :: fs, v :: vs, x => if f = x then some v else find1 fs vs x
  | _, _, _ => none
theorem find1_ok {G : Hp} {ι : List Addr} (x : Str) : ∀ {fs : List Str} {vs : List V} {ds : List D} {d : D}, RepL L G ι vs ds → find1 fs ds x = some d → ∃ v, (fs.zip vs).lookup x = some v ∧ Rep L G ι v d
  | [], _, _, _, _, e => by unfold find1 at e; cases e
  | f :: fs, _, _, _, .nil, e => by unfold find1 at e; cases e
  | f :: fs, v :: vs, d :: ds, d', .cons r t, e => by
    unfold find1 at e
    rw [List.zip_cons_cons, List.lookup_cons]
    by_cases h : f = x
    · rw [if_pos h] at e; cases e
      subst h
      rw [beq_self_eq_true]
      exact ⟨v, rfl, r⟩
    · rw [if_neg h] at e
      rw [show (x == f) = false from beq_eq_false_iff_ne.mpr (Ne.symm h)]
      exact find1_ok x t e
/-- the attributes that the plain classes (below n) have -/
structure FlOk (L : Lk) (n : Nat) (fl : Nat → List Str) : Prop where
  na : ∀ c, c < n → ∀ f ∈ fl c, NoAttr L.K (L.cA c) f
def insV (m : Mem) : D → Option (Nat × List Str × List D)
  | .ins c fs vs => some (c, fs, vs)
  | .ref k => match m[k]? with
    | some (.ins c fs vs) => some (c, fs, vs)
    | _ => none
  | _ => none
def attrD (n : Nat) (fl : Nat → List Str) (f : Str) (d : D) : M D := fun m => match insV m d with
  | some (c, fs, vs) => if c < n ∧ f ∈ fl c then (match find1 fs vs f with
    | some v => .ok v m
    | none => .bad) else .bad
  | none => .bad
theorem view_ins {ι : List Addr} {G H : Hp} {m : Mem} {v : V} {d : D} {c : Nat} {fs : List Str} {vs : List D} (w : W L ι m G H) (r : Rep L G ι v d) (e : insV m d = some (c, fs, vs)) : ∃ a dx us, v = .ref a ∧ H a = some (.ins (L.cA c) dx (fs.zip us)) ∧ fs.length = vs.length ∧ RepL L G ι us vs := by
  unfold insV at e
  cases r with
  | ins h1 hl h2 => cases e; exact ⟨_, _, _, rfl, w.sub _ _ h1, hl, h2⟩
  | ref hk =>
    rename_i a k
    dsimp only at e
    cases hm : m[k]? with
    | none => rw [hm] at e; cases e
    | some o =>
      rw [hm] at e
      cases o with
      | ins c' fs' vs' =>
        cases e
        obtain ⟨u, h1, h2⟩ := w.cell _ _ _ hk hm trivial
        cases u <;> try exact h2.elim
        obtain ⟨rfl, us, rfl, hl, r⟩ := h2
        exact ⟨_, _, us, rfl, h1, hl, r⟩
      | _ => cases e
  | _ => cases e
theorem se_attr {n : Nat} {fl : Nat → List Str} {a : Expr} {fa : Env → M D} {f : Str} {pos : Pos} (ok : LkOk L n) (fo : FlOk L n fl) (hK : X.K = L.K) (ha : SE X L Wx a fa) (hb : attributeBase a f X.env (eval a X.env) = eval a X.env) :
    SE X L Wx (.Attribute a f pos) (fun env => do let x ← fa env; attrD n fl f x) := by
  obtain ⟨ta, pa, ha⟩ := ha
  refine ⟨_, pe_fld pa hb, fun σ H Q env ι m G w rr q => ?_⟩
  refine ha σ H _ env ι m G w rr (Post.imp (Post.bind q) fun da m1 ι1 G1 H1 l1 w1 q1 x rx => ?_)
  unfold attrD at q1
  split at q1
  · rename_i c fs vs e
    split at q1
    · rename_i hc
      split at q1
      · rename_i d e2
        obtain ⟨p, dx, us, rfl, h1, hl, r1⟩ := view_ins w1 rx e
        obtain ⟨v, e3, r3⟩ := find1_ok f r1 e2
        rw [hK]
        exact ⟨p, _, dx, _, v, rfl, h1, (ok.cls c hc.1).cl, fo.na c hc.1 f hc.2, e3, (Post.at q1 w1) _ r3⟩
      · exact False.elim q1
    · exact False.elim q1
  · exact False.elim q1
theorem attrBase {a : Expr} {f : Str} {env : PySem.Env} {whole : Sem Value} (h : ∀ id p pos, a ≠ .Call (.Name id p) [] [] pos) : attributeBase a f env whole = whole := by
  unfold attributeBase
  cases a <;> first | rfl | skip
  rename_i func args kws pos
  cases func <;> first | rfl | skip
  rename_i id p
  cases args <;> first | rfl | skip
  cases kws <;> first | rfl | skip
  exact absurd rfl (h _ _ _)
end Eng

set_option maxRecDepth 100000
set_option maxHeartbeats 4000000
namespace Eng
open PySem PySem.Spec PyProof.Rows L2
variable {L : Lk} {X : Cx} {E : XK} {Wx : WX}

/-! ### statements -/
inductive Out where
  | nx (env : Env) | ret (d : D) | brk (env : Env) | cnt (env : Env) | exn (x : Exn) (env : Env)
/-- an expression's step in a statement: what it raises goes on with the slots -/
def exB {α : Type} (env : Env) (x : M α) (k : α → M Out) : M Out := fun m => match x m with
  | .ok a m' => k a m'
  | .exn e m' => .ok (.exn e env) m'
  | .bad => .bad
/-- nothing may be raised -/
def noX {α : Type} (x : M α) : M α := fun m => match x m with
  | .ok a m' => .ok a m'
  | _ => .bad
def OutOk (L : Lk) (Wx : WX) (Z : Ends) (ι : List Addr) (G H : Hp) : Out → Prop
  | .nx env => ∀ σ, RepE L G ι σ env → Z.nx σ H
  | .ret d => ∀ v, Rep L G ι v d → Z.rt v H
  | .brk env => ∀ σ, RepE L G ι σ env → Z.bk σ H
  | .cnt env => ∀ σ, RepE L G ι σ env → Z.ct σ H
  | .exn x env => ∀ σ c d, RepE L G ι σ env → XRep L G ι H x c d → Wx c d σ H
abbrev XF : XK := fun _ _ _ => False
abbrev WF : WX := fun _ _ _ _ => False
abbrev PS1 (L : Lk) (Wx : WX) (Z : Ends) (ι : List Addr) (G H : Hp) (r : R Out) : Prop := Post L XF ι G H r fun o _ ι' G' H' => OutOk L Wx Z ι' G' H' o
def RS (L : Lk) (Wx : WX) (t : TS) (f : Env → M Out) : Prop := ∀ (Z : Ends) (σ : L2.St) (H : Hp) (env : Env) (ι : List Addr) (m : Mem) (G : Hp), W L ι m G H → RepE L G ι σ env → PS1 L Wx Z ι G H (f env m) → t Z σ H
structure SS (X : Cx) (L : Lk) (Wx : WX) (st : Stmt) (f : Env → M Out) : Prop where
  ex : ∃ t, PS X st t ∧ RS L Wx t f
structure SSs (X : Cx) (L : Lk) (Wx : WX) (sts : List Stmt) (f : Env → M Out) : Prop where
  ex : ∃ t, PSs X sts t ∧ RS L Wx t f

section
variable {α : Type} {ι ι' : List Addr} {G G' H H' : Hp} {m : Mem} {env : Env} {σ : L2.St} {Z : Ends}
theorem Post.noE {r : R α} {k : α → Mem → List Addr → Hp → Hp → Prop} (h : Post L XF ι G H r k) : Post L E ι G H r k := by
  cases r with
  | ok a m' => exact h
  | exn x m' => exact fun ι' G' H' cls d l w x => (h ι' G' H' cls d l w x).elim
  | bad => exact h
theorem post_noX {x : M α} {k : α → Mem → List Addr → Hp → Hp → Prop} (h : Post L E ι G H (noX x m) k) : Post L XF ι G H (x m) k := by
  unfold noX at h
  cases e : x m with
  | ok a m' => rw [e] at h; exact h
  | exn y m' => rw [e] at h; exact h.elim
  | bad => rw [e] at h; exact h.elim
theorem post_exB {x : M α} {k : α → M Out} (h : PS1 L Wx Z ι G H (exB env x k m)) (rr : RepE L G ι σ env) :
    Post L (fun c d H => Wx c d σ H) ι G H (x m) fun a m1 ι1 G1 H1 => PS1 L Wx Z ι1 G1 H1 (k a m1) := by
  unfold exB at h
  cases e : x m with
  | ok a m' => rw [e] at h; exact fun ι' G' H' l w => Post.later h l
  | exn y m' => rw [e] at h; exact fun ι' G' H' c d l w xr => h ι' G' H' l w σ c d (rr.le l) xr
  | bad => rw [e] at h; exact h
end
section
variable {a b : Expr} {fa fb : Env → M D} {ga : Env → M Bool} {pos : Pos} {st : Stmt} {sts : List Stmt} {f g : Env → M Out}
/-- one after another -/
def seqS (f g : Env → M Out) : Env → M Out := fun env => do
  let o ← f env
  match o with
    | .nx env' => g env'
    | o => pure o
theorem rs_seq {t u : TS} (ht : RS L Wx t f) (hu : RS L Wx u g) : RS L Wx (tSeq t u) (seqS f g) := by
  intro Z σ H env ι m G w rr q
  refine ht { Z with nx := u Z } σ H env ι m G w rr (Post.imp (Post.bind q) fun o m1 ι1 G1 H1 l1 w1 q1 => ?_)
  cases o with
  | nx env' => exact fun σ' rr' => hu Z σ' H1 env' ι1 m1 G1 w1 rr' q1
  | ret d => exact Post.at (k := fun o _ ι' G' H' => OutOk L Wx Z ι' G' H' o) q1 w1
  | brk e => exact Post.at (k := fun o _ ι' G' H' => OutOk L Wx Z ι' G' H' o) q1 w1
  | cnt e => exact Post.at (k := fun o _ ι' G' H' => OutOk L Wx Z ι' G' H' o) q1 w1
  | exn x e => exact Post.at (k := fun o _ ι' G' H' => OutOk L Wx Z ι' G' H' o) q1 w1
theorem ss_nil : SSs X L Wx [] (fun env => pure (.nx env)) := ⟨_, pss_nil, fun Z σ H env ι m G w rr q => (Post.at q w) σ rr⟩
theorem ss_cons (h : SS X L Wx st f) (r : SSs X L Wx sts g) : SSs X L Wx (st :: sts) (seqS f g) := by
  obtain ⟨t, p, h⟩ := h
  obtain ⟨u, q, r⟩ := r
  exact ⟨_, pss_cons p q, rs_seq h r⟩
theorem ss_one (h : SS X L Wx st f) : SSs X L Wx [st] f := by
  obtain ⟨t, p, h⟩ := h
  exact ⟨_, pss_one p, h⟩
theorem ss_pass : SS X L Wx (.Pass pos) (fun env => pure (.nx env)) := ⟨_, ps_pass, fun Z σ H env ι m G w rr q => (Post.at q w) σ rr⟩
theorem ss_brk : SS X L Wx (.Break pos) (fun env => pure (.brk env)) := ⟨_, ps_break, fun Z σ H env ι m G w rr q => (Post.at q w) σ rr⟩
theorem ss_cnt : SS X L Wx (.Continue pos) (fun env => pure (.cnt env)) := ⟨_, ps_continue, fun Z σ H env ι m G w rr q => (Post.at q w) σ rr⟩
theorem ss_expr (ha : SE X L Wx a fa) (hs : swapsWith a none pos.line X.env = pure false) : SS X L Wx (.Expr a pos) (fun env => exB env (fa env) fun _ => pure (.nx env)) := by
  obtain ⟨ta, pa, ha⟩ := ha
  refine ⟨_, ps_expr pa hs, fun Z σ H env ι m G w rr q => ?_⟩
  exact ha σ H _ env ι m G w rr (Post.imp (post_exB q rr) fun da m1 ι1 G1 H1 l1 w1 q1 x rx => (Post.at q1 w1) σ (rr.le l1))
theorem ss_ret (ha : SE X L Wx a fa) : SS X L Wx (.Return (some a) pos) (fun env => exB env (fa env) fun d => pure (.ret d)) := by
  obtain ⟨ta, pa, ha⟩ := ha
  refine ⟨_, ps_ret pa, fun Z σ H env ι m G w rr q => ?_⟩
  exact ha σ H _ env ι m G w rr (Post.imp (post_exB q rr) fun da m1 ι1 G1 H1 l1 w1 q1 x rx => (Post.at q1 w1) x rx)
theorem ss_retN : SS X L Wx (.Return none pos) (fun _ => pure (.ret .non)) := ⟨_, ps_retN, fun Z σ H env ι m G w rr q => (Post.at q w) .non .non⟩
theorem ss_if {sa sb : List Stmt} (hc : ST X L Wx a ga) (ha : SSs X L Wx sa f) (hb : SSs X L Wx sb g) : SS X L Wx (.If a sa sb pos) (fun env => exB env (ga env) fun c => if c then f env else g env) := by
  obtain ⟨tc, pc, hc⟩ := hc
  obtain ⟨ta, pa, ha⟩ := ha
  obtain ⟨tb, pb, hb⟩ := hb
  refine ⟨_, ps_if pc pa pb, fun Z σ H env ι m G w rr q => ?_⟩
  refine hc σ H _ env ι m G w rr (Post.imp (post_exB q rr) fun k m1 ι1 G1 H1 l1 w1 q1 => ?_)
  cases k with
  | true => rw [if_pos rfl]; exact ha Z σ H1 env ι1 m1 G1 w1 (rr.le l1) q1
  | false => rw [if_neg Bool.false_ne_true]; exact hb Z σ H1 env ι1 m1 G1 w1 (rr.le l1) q1
/-- while, so often at most -/
def whileS : Nat → (Env → M Bool) → (Env → M Out) → Env → M Out
  | 0, _, _ => fun _ => M.fail
  | n + 1, c, b => fun env => exB env (c env) fun k => if k then (do
      let o ← b env
      match o with
        | .nx env' => whileS n c b env'
        | .cnt env' => whileS n c b env'
        | .brk env' => pure (.nx env')
        | o => pure o) else pure (.nx env)
theorem ss_while {body : List Stmt} (n : Nat) (hp : PassesOwn (model X.prog X.w) X.A X.env X.xe) (hc : ST X L Wx a ga) (hb : SSs X L Wx body f) : SS X L Wx (.While a body [] pos) (whileS n ga f) := by
  obtain ⟨tc, pc, hc⟩ := hc
  obtain ⟨tb, pb, hb⟩ := hb
  refine ⟨_, ps_while hp pc pb, fun Z σ H env ι m G w rr q => ?_⟩
  refine ⟨fun n σ H => ∃ env ι m G, W L ι m G H ∧ RepE L G ι σ env ∧ PS1 L Wx Z ι G H (whileS n ga f env m), ⟨n, env, ι, m, G, w, rr, q⟩, ?_⟩
  rintro n σ H ⟨env, ι, m, G, w, rr, q⟩
  cases n with
  | zero => exact q.elim
  | succ n =>
    refine hc σ H _ env ι m G w rr (Post.imp (post_exB q rr) fun k m1 ι1 G1 H1 l1 w1 q1 => ?_)
    cases k with
    | false => exact (Post.at q1 w1) σ (rr.le l1)
    | true =>
      refine ⟨fun σ H => ∃ env ι m G, W L ι m G H ∧ RepE L G ι σ env ∧ PS1 L Wx Z ι G H (whileS n ga f env m), fun σ' H' h => ⟨n, Nat.lt_succ_self n, h⟩, ?_⟩
      refine hb _ σ H1 env ι1 m1 G1 w1 (rr.le l1) (Post.imp (Post.bind q1) fun o m2 ι2 G2 H2 l2 w2 q2 => ?_)
      cases o with
      | nx env' => exact fun σ' rr' => ⟨env', ι2, m2, G2, w2, rr', q2⟩
      | cnt env' => exact fun σ' rr' => ⟨env', ι2, m2, G2, w2, rr', q2⟩
      | brk env' => exact Post.at (k := fun o _ ι' G' H' => OutOk L Wx Z ι' G' H' o) q2 w2
      | ret d => exact Post.at (k := fun o _ ι' G' H' => OutOk L Wx Z ι' G' H' o) q2 w2
      | exn x e => exact Post.at (k := fun o _ ι' G' H' => OutOk L Wx Z ι' G' H' o) q2 w2
end

/-! ### targets -/
/-- a target's store of d; own: the slots it may touch -/
def RG (L : Lk) (own : List Nat) (t : TG) (g : D → Env → M Env) : Prop := ∀ (v : V) (d : D) (σ : L2.St) (H : Hp) (Q : L2.St → Hp → Prop) (env : Env) (ι : List Addr) (m : Mem) (G : Hp), W L ι m G H → Rep L G ι v d → RepE L G ι σ env →
  Post L XF ι G H (g d env m) (fun env' _ ι' G' H' => ∀ σ', RepE L G' ι' σ' env' → wipe σ' own = wipe σ own → Q σ' H') → t v σ H Q
def RGs (L : Lk) (own : List Nat) (t : TGs) (g : List D → Env → M Env) : Prop := ∀ (v : List V) (d : List D) (σ : L2.St) (H : Hp) (Q : L2.St → Hp → Prop) (env : Env) (ι : List Addr) (m : Mem) (G : Hp), W L ι m G H → RepL L G ι v d → RepE L G ι σ env →
  Post L XF ι G H (g d env m) (fun env' _ ι' G' H' => ∀ σ', RepE L G' ι' σ' env' → wipe σ' own = wipe σ own → Q σ' H') → t v σ H Q
structure SG (X : Cx) (L : Lk) (own : List Nat) (e : Expr) (g : D → Env → M Env) : Prop where
  ex : ∃ t, PG X e t ∧ RG L own t g
structure SGs (X : Cx) (L : Lk) (own : List Nat) (e : List Expr) (g : List D → Env → M Env) : Prop where
  ex : ∃ t, PGs X e t ∧ RGs L own t g
theorem wipe_set {x : Option V} {i : Nat} : ∀ {vs : List Nat} {σ : L2.St}, i ∈ vs → wipe (σ.set i x) vs = wipe σ vs
  | [], σ, h => nomatch h
  | v :: vs, σ, h => by
    unfold wipe
    by_cases e : i ∈ vs
    · rw [wipe_set e]
    · have hv : i = v := by
        rcases List.mem_cons.mp h with h | h
        · exact h
        · exact absurd h e
      subst hv
      have key : ∀ (us : List Nat) (τ : L2.St), wipe (τ.set i x) us = (wipe τ us).set i x ∨ i ∈ us := fun us => by
        induction us with
        | nil => exact fun τ => .inl rfl
        | cons u us ih =>
          intro τ
          rcases ih τ with h | h
          · by_cases hu : u = i
            · exact .inr (by rw [hu]; exact List.mem_cons_self)
            · refine .inl ?_
              unfold wipe
              rw [h, List.set_comm _ _ (fun z => hu z.symm)]
          · exact .inr (List.mem_cons_of_mem _ h)
      rcases key vs σ with h | h
      · rw [h, List.set_set]
      · exact absurd h e
section
variable {own : List Nat} {pos : Pos}
theorem rg_name {i : Nat} (hi : i ∈ own) : RG L own (gName i) (fun d env => pure (env.set i (some d))) := by
  intro v d σ H Q env ι m G w r rr q
  exact (Post.at q w) _ (rr.set i r) (wipe_set hi)
theorem sg_name {i : Nat} {x : Str} (hN : X.N.Nodup) (hi : X.N[i]? = some x) (hx : Loc X.env.scope x) (hf : X.fn x = true ∨ X.env.scope.names.lookup x = some .local) (ho : i ∈ own) : SG X L own (.Name x pos) (fun d env => pure (env.set i (some d))) :=
  ⟨_, pg_name hN hi hx hf, rg_name ho⟩
theorem sgs_nil : SGs X L own [] (fun ds env => match ds with
    | [] => pure env
    | _ => M.fail) := by
  refine ⟨_, pgs_nil, fun v d σ H Q env ι m G w r rr q => ?_⟩
  cases r with
  | nil => exact ⟨rfl, (Post.at q w) σ rr rfl⟩
  | cons a b => exact q.elim
theorem sgs_cons {e : Expr} {es : List Expr} {g : D → Env → M Env} {h : List D → Env → M Env} (hg : SG X L own e g) (hh : SGs X L own es h) (hs : (assignEach (e :: es) X.env).map (·.2) = assign e X.env :: (assignEach es X.env).map (·.2)) :
    SGs X L own (e :: es) (fun ds env => match ds with
      | d :: ds => do let env' ← g d env; h ds env'
      | [] => M.fail) := by
  obtain ⟨t, p, hg⟩ := hg
  obtain ⟨u, p2, hh⟩ := hh
  refine ⟨_, pgs_cons p p2 hs, fun v d σ H Q env ι m G w r rr q => ?_⟩
  cases r with
  | nil => exact q.elim
  | cons a b =>
    refine ⟨_, _, rfl, ?_⟩
    refine hg _ _ σ H _ env ι m G w a rr (Post.imp (Post.bind q) fun env1 m1 ι1 G1 H1 l1 w1 q1 σ1 rr1 e1 => ?_)
    exact hh _ _ σ1 H1 Q env1 ι1 m1 G1 w1 (b.le l1) rr1 (Post.imp q1 fun env2 m2 ι2 G2 H2 l2 w2 q2 σ2 rr2 e2 => q2 σ2 rr2 (e2.trans e1))
/-- (a, b, ..) = a tuple, the script's cells left out -/
theorem sg_tup {es : List Expr} {k n : Nat} {g : List D → Env → M Env} (hc : X.calm = true) (h : SGs X L own es g) (hn : (assignEach es X.env).length = n) (hst : (assignEach es X.env).findIdx? (·.1) = none) :
    SG X L own (.Tuple es k pos) (fun d env => match viewT d with
      | some l => if l.length = n then g l env else M.fail
      | none => M.fail) := by
  obtain ⟨t, p, h⟩ := h
  refine ⟨_, pg_tup hc p hn hst, fun v d σ H Q env ι m G w r rr q => ?_⟩
  dsimp only at q
  cases e : viewT d with
  | none => rw [e] at q; exact q.elim
  | some l =>
    rw [e] at q
    obtain ⟨a, vs, rfl, ha, rl⟩ := view_tup w r e
    by_cases hl : l.length = n
    · dsimp only at q
      rw [if_pos hl] at q
      exact ⟨a, vs, rfl, .inl (Rd.of ha), by rw [rl.length, hl], h vs l σ H Q env ι m G w rl rr q⟩
    · dsimp only at q
      rw [if_neg hl] at q
      exact q.elim
/-- a target of one name -/
theorem ss_set {i : Nat} {x : Str} {a : Expr} {fa : Env → M D} {pos' : Pos} (hN : X.N.Nodup) (hi : X.N[i]? = some x) (hx : Loc X.env.scope x) (hf : X.fn x = true ∨ X.env.scope.names.lookup x = some .local) (ha : SE X L Wx a fa) (hs : swapsWith a (some (.Name x pos')) pos.line X.env = pure false) :
    SS X L Wx (.Assign [.Name x pos'] a pos) (fun env => exB env (fa env) fun d => pure (.nx (env.set i (some d)))) := by
  obtain ⟨ta, pa, ha⟩ := ha
  refine ⟨_, ps_set hN hi hx pa hs hf, fun Z σ H env ι m G w rr q => ?_⟩
  exact ha σ H _ env ι m G w rr (Post.imp (post_exB q rr) fun da m1 ι1 G1 H1 l1 w1 q1 x rx => (Post.at q1 w1) _ ((rr.le l1).set i rx))
theorem ss_asg {tg a : Expr} {fa : Env → M D} {g : D → Env → M Env} (ha : SE X L Wx a fa) (hg : SG X L own tg g) (hs : swapsWithSole [tg] a pos.line X.env = pure false) (hw : swappedStores [tg] a X.env = pure none) (h1 : (assignEach [tg] X.env).map (·.2) = [assign tg X.env]) :
    SS X L Wx (.Assign [tg] a pos) (fun env => exB env (fa env) fun d => do let env' ← noX (g d env); pure (.nx env')) := by
  obtain ⟨ta, pa, ha⟩ := ha
  obtain ⟨t, p, hg⟩ := hg
  refine ⟨_, ps_asg pa p hs hw h1, fun Z σ H env ι m G w rr q => ?_⟩
  refine ha σ H _ env ι m G w rr (Post.imp (post_exB q rr) fun da m1 ι1 G1 H1 l1 w1 q1 x rx => ?_)
  exact hg x da σ H1 _ env ι1 m1 G1 w1 rx (rr.le l1) (Post.imp (post_noX (Post.bind q1)) fun env2 m2 ι2 G2 H2 l2 w2 q2 σ2 rr2 e2 => (Post.at q2 w2) σ2 rr2)
/-- a, b = x, y -/
theorem ss_par {i j : Nat} {x y : Str} {a b : Expr} {fs : Env → M (List D)} {px py pt : Pos} {kt k2 pt2} (hc : X.calm = true) (hN : X.N.Nodup) (hi : X.N[i]? = some x) (hj : X.N[j]? = some y) (hij : i ≠ j)
    (hx : X.env.scope.names.lookup x = some .local) (hy : X.env.scope.names.lookup y = some .local) (ha : SA X L Wx [a, b] fs)
    (hw : swappedStores [.Tuple [.Name x px, .Name y py] kt pt] (.Tuple [a, b] k2 pt2) X.env = pure (some [x, y])) (hs : swapsWithSole [.Tuple [.Name x px, .Name y py] kt pt] (.Tuple [a, b] k2 pt2) pos.line X.env = pure false) :
    SS X L Wx (.Assign [.Tuple [.Name x px, .Name y py] kt pt] (.Tuple [a, b] k2 pt2) pos) (fun env => exB env (fs env) fun l => match l with
      | [d, e] => pure (.nx ((env.set i (some d)).set j (some e)))
      | _ => M.fail) := by
  obtain ⟨⟨t, p, ha⟩, _, _, _⟩ := ha
  refine ⟨_, ps_par hc hN hi hj hij hx hy p hw hs, fun Z σ H env ι m G w rr q => ?_⟩
  refine ha σ H _ env ι m G w rr (Post.imp (post_exB q rr) fun l m1 ι1 G1 H1 l1 w1 q1 vs rv => ?_)
  match l, vs, rv, q1 with
  | [d, e], [v, u], .cons r1 (.cons r2 .nil), q1 => exact ⟨v, u, rfl, (Post.at q1 w1) _ (((rr.le l1).set i r1).set j r2)⟩
  | [], _, _, q1 => exact q1.elim
  | [_], _, _, q1 => exact q1.elim
  | _ :: _ :: _ :: _, _, _, q1 => exact q1.elim
/-- a, b, c = x, y, z -/
theorem ss_par3 {i j l : Nat} {x y z : Str} {a b c : Expr} {fs : Env → M (List D)} {px py pz pt : Pos} {kt k2 pt2} (hc : X.calm = true) (hN : X.N.Nodup) (hi : X.N[i]? = some x) (hj : X.N[j]? = some y) (hl : X.N[l]? = some z) (hij : i ≠ j) (hil : i ≠ l) (hjl : j ≠ l)
    (hx : X.env.scope.names.lookup x = some .local) (hy : X.env.scope.names.lookup y = some .local) (hz : X.env.scope.names.lookup z = some .local) (ha : SA X L Wx [a, b, c] fs)
    (hw : swappedStores [.Tuple [.Name x px, .Name y py, .Name z pz] kt pt] (.Tuple [a, b, c] k2 pt2) X.env = pure (some [x, y, z])) (hs : swapsWithSole [.Tuple [.Name x px, .Name y py, .Name z pz] kt pt] (.Tuple [a, b, c] k2 pt2) pos.line X.env = pure false) :
    SS X L Wx (.Assign [.Tuple [.Name x px, .Name y py, .Name z pz] kt pt] (.Tuple [a, b, c] k2 pt2) pos) (fun env => exB env (fs env) fun r => match r with
      | [d, e, f] => pure (.nx (((env.set i (some d)).set j (some e)).set l (some f)))
      | _ => M.fail) := by
  obtain ⟨⟨t, p, ha⟩, _, _, _⟩ := ha
  refine ⟨_, ps_par3 hc hN hi hj hl hij hil hjl hx hy hz p hw hs, fun Z σ H env ι m G w rr q => ?_⟩
  refine ha σ H _ env ι m G w rr (Post.imp (post_exB q rr) fun l m1 ι1 G1 H1 l1 w1 q1 vs rv => ?_)
  match l, vs, rv, q1 with
  | [d, e, f], [v, u, s], .cons r1 (.cons r2 (.cons r3 .nil)), q1 => exact ⟨v, u, s, rfl, (Post.at q1 w1) _ ((((rr.le l1).set i r1).set j r2).set _ r3)⟩
  | [], _, _, q1 => exact q1.elim
  | [_], _, _, q1 => exact q1.elim
  | [_, _], _, _, q1 => exact q1.elim
  | _ :: _ :: _ :: _ :: _, _, _, q1 => exact q1.elim
end
end Eng

set_option maxRecDepth 100000
set_option maxHeartbeats 4000000
namespace Eng
open PySem PySem.Spec PyProof.Rows L2

/-! ### enumerate over a tuple -/
theorem meets_enumT {t : Addr} {its : Array Value} :
    Meets (Builtin.«enumerate.__new__» ⟨[.type "enumerate", .ref t], []⟩) (fun _ R s => s.heap.IsTuple t its ∧
      R (.ok (.ret (.ref (s.heap.push { cls := .type "tuple_iterator", data := .fields #[.ref t, .int 0 0] }).objs.size)))
        { s with heap := (s.heap.push { cls := .type "tuple_iterator", data := .fields #[.ref t, .int 0 0] }).push { cls := .type "enumerate", data := .fields #[.none, .bool false, .ref s.heap.objs.size, rawInt 0, .none, .none] } }) :=
  .of_wp fun prog w A R s hh => by
    obtain ⟨hp, gg, dd, tk, os⟩ := s
    obtain ⟨hT, hR⟩ := hh
    have sb := sub_enumerate
    have q1 : ∀ {A' : Around} {E : Value → Shared → Prop} {Q : Value → Shared → Prop}, Q (.ref hp.objs.size) ⟨hp.push { cls := .type "tuple_iterator", data := .fields #[.ref t, .int 0 0] }, gg, dd, tk, os⟩ → wpAny (model prog w) A' (pyIter (.ref t)) Q E ⟨hp, gg, dd, tk, os⟩ :=
      fun qq => wpAny_pyIter_tuple hT qq
    wp_walk using q1
    refine wpAny_stack_any fun st => wpAny_pure ?_
    split
    · rename_i c _ _ _ _ _
      cases (c == Value.type "enumerate")
      · wp_walk using q1
        exact ⟨_, rfl, hR⟩
      · wp_walk using q1
        exact ⟨_, rfl, hR⟩
    · wp_walk using q1
      exact ⟨_, rfl, hR⟩
theorem call_enumT {prog : Program} {w : World} {A : Around} {E : Value → Shared → Prop} {s : Shared} {t : Addr} {its : Array Value} {Q : Value → Shared → Prop} (hT : s.heap.IsTuple t its)
    (hQ : ∀ h', IsEnum h' (s.heap.objs.size + 1) s.heap.objs.size 0 .none → h'.IsTupleIter s.heap.objs.size t 0 → h'.objs.size = s.heap.objs.size + 2 → (∀ b o, s.heap.get? b = some o → h'.get? b = some o) → Q (.ref (s.heap.objs.size + 1)) { s with heap := h' }) :
    wpAny (model prog w) A (call (.type "enumerate") [.ref t]) Q E s := by
  refine callType_new F.called_enumerate (by decide) (F.typeCall_enumerate_1 _) (F.newCall_enumerate_1 _) (fun obj => F.args_object_init_2 obj _) F.entry_enumerate_new (meets_enumT (its := its)) ⟨hT, ?_⟩
  have sz : (s.heap.push { cls := .type "tuple_iterator", data := .fields #[.ref t, .int 0 0] }).objs.size = s.heap.objs.size + 1 := Heap.size_push ..
  show _ ∧ _
  rw [sz]
  have hE : IsEnum ((s.heap.push { cls := .type "tuple_iterator", data := .fields #[.ref t, .int 0 0] }).push { cls := .type "enumerate", data := .fields #[.none, .bool false, .ref s.heap.objs.size, rawInt 0, .none, .none] }) (s.heap.objs.size + 1) s.heap.objs.size 0 .none := by
    have z := Heap.get?_push_size (s.heap.push { cls := .type "tuple_iterator", data := .fields #[.ref t, .int 0 0] }) (o := { cls := .type "enumerate", data := .fields #[.none, .bool false, .ref s.heap.objs.size, rawInt 0, .none, .none] }) rfl
    rw [sz] at z
    exact z
  exact ⟨⟨_, hE, rfl⟩, hQ _ hE ⟨_, Heap.get?_push_of_some _ (Heap.get?_push_size _ rfl), rfl, rfl⟩ (by rw [Heap.size_push, sz]) fun b o x => Heap.get?_push_of_some _ (Heap.get?_push_of_some _ x)⟩
/-- the tuple at a, each item in a new pair with its place -/
def ItT (K : PySem.W.Frag) (a : Addr) : It where
  go := fun i H => ∃ (xs : List V) (x : V), SqT K H a xs ∧ xs[i]? = some x
  yld := fun i H v H' => ∃ T x, v = .ref T ∧ H T = none ∧ H' = upd H T (.tup [.int (i : Nat), x]) ∧ ∀ xs, SqT K H a xs → xs[i]? = some x
  stop := fun i H => ∃ xs : List V, SqT K H a xs ∧ xs.length ≤ i
theorem turn_enumT {P : Program} {w : World} {K : PySem.W.Frag} {elts : List Expr} {kk : Nat} {tpos : Pos} (a e it : Addr) :
    Turn P w K (.Tuple elts kk tpos) (ItT K a) [e, it] e (fun i h => (∃ old, IsEnum h e it ((i : Nat) : Int) old) ∧ h.IsTupleIter it a i ∧ e ≠ it ∧ a ≠ it ∧ e ≠ a) where
  mem := List.mem_cons_self
  obj := fun i h st b hb => by
    obtain ⟨⟨old, q1⟩, ⟨o, q2, q3, q4⟩, _⟩ := st
    rcases List.mem_cons.mp hb with z | z
    · rw [z]
      exact ⟨_, q1, fun v q => nomatch q⟩
    · rw [List.mem_singleton.mp z]
      exact ⟨o, q2, fun v q => by rw [q4] at q; cases q⟩
  keep := fun i h h' st k => by
    obtain ⟨⟨old, q1⟩, q2, q3⟩ := st
    exact ⟨⟨old, k e (by simp) _ q1⟩, q2.at fun o q => k it (by simp) o q, q3⟩
  item := by
    intro X hP hw hK hc i pins s σ H E I hf st hg
    subst hP hw hK
    obtain ⟨⟨old, q1⟩, q2, n1, n2, n3⟩ := st
    obtain ⟨xs, x, hq, hx⟩ := hg
    obtain ⟨its, rv, p, hz⟩ := I.tuple hq
    obtain ⟨u, hu, ru⟩ := rv.get hx
    have le : e < s.heap.objs.size := Heap.lt_size q1
    have li : it < s.heap.objs.size := by
      obtain ⟨_, q, _⟩ := q2
      exact Heap.lt_size q
    have li' : i < its.toArray.size := by
      have := (List.getElem?_eq_some_iff.mp hu).1
      simpa using this
    have pt : s.heap.IsTuple a its.toArray := p
    refine wpAny_pyNext_enum_itemD (Draws.tuple (prog := X.prog) (w := X.w) (A := X.A.in1) (I.ok.hd hc) it a n2 its.toArray) q1 ⟨q2, pt⟩ li' n1 (by simp [n1, n3]) fun y h' tk hP ho hit' hT hsz hk => ?_
    obtain rfl : u = y := by
      have hP' : its.toArray[i]? = some y := hP
      rw [List.getElem?_toArray, hu] at hP'
      exact Option.some.inj hP'
    refine ⟨_, rfl, wpAny_letOwnedTupleGo_enum (s := { s with heap := h', toks := tk + 1 }) ho fun h'' he' sb => ?_⟩
    have hT2 : h''.get? s.heap.objs.size = some { cls := .type "tuple", data := .seq #[.int i tk, u] } := (sb.2 _ (Nat.ne_of_gt le)).trans hT
    have nw : ObjOk X.prog X.w (upd H s.heap.objs.size (.tup [.int (i : Nat), x])) h'' s.heap.objs.size (.tup [.int (i : Nat), x]) := ⟨by show 2 ≤ sizeLine; decide, [.int i tk, u], .cons ⟨_, rfl⟩ (.cons ru .nil), ⟨_, hT2, rfl, _, rfl⟩⟩
    have kp : ∀ b ob, b ∉ [e, it] → s.heap.get? b = some ob → h''.get? b = some ob := fun b ob hb q => (sb.2 b (fun z => hb (by simp [z]))).trans (hk b ob (fun z => hb (by simp [z])) (fun z => hb (by simp [z])) q)
    have I1 : Inv X pins σ (upd H s.heap.objs.size (.tup [.int (i : Nat), x])) { s with heap := h'', toks := tk + 1 } := I.turnedNew (ch := [e, it]) kp hf (Nat.le_refl _) nw
    refine ⟨.ref s.heap.objs.size, _, I1, rfl, ⟨_, x, rfl, I.hok.fresh (Nat.le_refl _), rfl, fun ys hy => by rw [I.tuple_inj hy hq]; exact hx⟩, ⟨⟨u, ?_⟩, hit'.1.at fun o q => (sb.2 it (Ne.symm n1)).trans q, n1, n2, n3⟩, fun b hb => ?_⟩
    · rw [show ((i + 1 : Nat) : Int) = (i : Int) + 1 by omega]
      exact he'
    · have lb : b < s.heap.objs.size := by
        rcases List.mem_cons.mp hb with z | z
        · rw [z]; exact le
        · rw [List.mem_singleton.mp z]; exact li
      rw [upd_ne (Nat.ne_of_lt lb)]
      exact (hf b hb).1
  done := by
    intro X hP hw hK hc i pins s σ H E I hf st hg
    subst hP hw hK
    obtain ⟨⟨old, q1⟩, q2, n1, n2, n3⟩ := st
    obtain ⟨xs, hq, hx⟩ := hg
    obtain ⟨its, rv, p, hz⟩ := I.tuple hq
    obtain ⟨f0, f1, f2, f3, f4, f5⟩ := hf it (by simp)
    have hl := rv.length
    have pt : s.heap.IsTuple a its.toArray := p
    unfold pyNext
    refine wpAny_bind (wpAny_attempt (wpAny_callSpecial?_slot (name := Str.ofString "__next__") (⟨_, q1, rfl⟩ : s.TypeIs (.ref e) "enumerate") F.slot_enumerate_next (wpAny_call_entry F.slot_enumerate_next ⟨_, q1, rfl⟩ F.entry_enumerate_next ?_ (F.args_enumerate_next_1 _))))
    show wpAny _ _ (field (.ref e) 2 >>= _) _ _ _
    refine wpAny_bind (wpAny_field q1 rfl (x := .ref it) rfl ?_)
    refine wpAny_bind (wpAny_nextOf_tuple_end (I.ok.hd hc) q2 pt (by simp; omega) fun h' ex he' hx' => ?_)
    obtain ⟨o, ho, hcl⟩ := hx'
    refine wpAny_bind (wpAny_isInstance (T := "StopIteration") (b := true) ⟨o, ho, hcl⟩ isSubtype_stop ?_)
    exact wpAny_pure ⟨rfl, I.turned (t' := s.toks) (fun b ob hb q => he' b ob hb q) f0 f1 f3 f4 f5⟩
  self := fun A i s Q E st hQ => by
    obtain ⟨⟨_, q1⟩, _⟩ := st
    exact wpAny_pyIter_enum q1 hQ
def iEnumT (K : PySem.W.Frag) (ta : TA) : TI := fun σ H R => ta σ H fun vs H1 => ∃ a xs, vs = [.ref a] ∧ SqT K H1 a xs ∧ R (ItT K a) H1
theorem pi_enumT {X : Cx} {e : Expr} {ta : TA} {p pos tpos : Pos} {elts : List Expr} {kk : Nat} (hg : Gl X "enumerate") (hm : X.mg "enumerate" = none) (ha : PA X [e] ta) (hs : starEach [e] X.env = [(false, eval e X.env)]) :
    PI X (.Tuple elts kk tpos) (.Call (.Name "enumerate" p) [e] [] pos) (iEnumT X.K ta) := by
  refine ⟨fun pins s σ H R I h => ?_⟩
  refine Call_ (ld_blt I hg hm boot_enumerate (PyProof.Rows.callWith_type1 (thn (ha.run pos pins s σ H _ I h) fun us s1 ⟨vs, H1, I1, r1, q1⟩ => ?_) hs rfl))
  obtain ⟨a, xs, ex, hq, q⟩ := q1
  subst ex
  cases r1 with
  | cons r rr =>
    cases rr
    cases r
    obtain ⟨its, rv, p', hz⟩ := I1.tuple hq
    have pt : s1.heap.IsTuple a its.toArray := p'
    have la : a < s1.heap.objs.size := by
      obtain ⟨_, z, _⟩ := pt
      exact Heap.lt_size z
    refine call_enumT pt fun h' he hit hsz hk => wpAny_pyIter_enum he ?_
    have I2 : Inv X pins σ H1 { s1 with heap := h' } := I1.kept (t' := s1.toks) hk
    refine ⟨s1.heap.objs.size + 1, [s1.heap.objs.size + 1, s1.heap.objs.size], _, _, H1, rfl, I2, turn_enumT a (s1.heap.objs.size + 1) s1.heap.objs.size, ⟨⟨.none, he⟩, hit, Nat.succ_ne_self _, Nat.ne_of_lt la, Nat.ne_of_gt (Nat.lt_succ_of_lt la)⟩, fun b hb => ?_, q⟩
    have lb : s1.heap.objs.size ≤ b := by
      rcases List.mem_cons.mp hb with z | z
      · rw [z]; exact Nat.le_succ _
      · rw [List.mem_singleton.mp z]; exact Nat.le_refl _
    exact I1.fpOk lb (I1.hok.fresh lb)
theorem walk_enumT {K : PySem.W.Frag} {a : Addr} {xs : List V} : Walk (ItT K a) xs.length (fun H => SqT K H a xs) (YPair (fun i => some (.int (i : Nat))) (fun i => xs[i]?)) := by
  refine ⟨fun i _ hi q => ⟨xs, xs[i], q, by simp [hi]⟩, fun _ q => ⟨xs, q, Nat.le_refl _⟩, fun i H v H' _ q y => ?_⟩
  obtain ⟨T, x, h1, h2, h3, h4⟩ := y
  exact ⟨T, .int (i : Nat), x, h1, h2, h3, rfl, h4 xs q⟩
end Eng

set_option maxRecDepth 100000
set_option maxHeartbeats 4000000
namespace Eng
open PySem PySem.Spec PyProof.Rows L2
variable {L : Lk} {X : Cx} {E : XK} {Wx : WX}

/-! ### the widest readings: they ask for no context -/
def cE (L : Lk) (Wx : WX) (f : Env → M D) : TE := fun σ H Q => ∃ env ι m G, W L ι m G H ∧ RepE L G ι σ env ∧ PV L (fun c d H => Wx c d σ H) ι G H (f env m) Q
def cT (L : Lk) (Wx : WX) (f : Env → M Bool) : TT := fun σ H Q => ∃ env ι m G, W L ι m G H ∧ RepE L G ι σ env ∧ PB L (fun c d H => Wx c d σ H) ι G H (f env m) Q
def cS (L : Lk) (Wx : WX) (f : Env → M Out) : TS := fun Z σ H => ∃ env ι m G, W L ι m G H ∧ RepE L G ι σ env ∧ PS1 L Wx Z ι G H (f env m)
def cG (L : Lk) (own : List Nat) (g : D → Env → M Env) : TG := fun v σ H Q => ∃ d env ι m G, W L ι m G H ∧ Rep L G ι v d ∧ RepE L G ι σ env ∧ Post L XF ι G H (g d env m) (fun env' _ ι' G' H' => ∀ σ', RepE L G' ι' σ' env' → wipe σ' own = wipe σ own → Q σ' H')
theorem SE.pe {e : Expr} {f : Env → M D} (h : SE X L Wx e f) : PE X e (cE L Wx f) := by
  obtain ⟨t, p, h⟩ := h
  exact ⟨fun pins s σ H Q I ⟨env, ι, m, G, w, rr, q⟩ => p.run pins s σ H Q I (h σ H Q env ι m G w rr q)⟩
theorem ST.pt {e : Expr} {f : Env → M Bool} (h : ST X L Wx e f) : PT X e (cT L Wx f) := by
  obtain ⟨t, p, h⟩ := h
  exact ⟨fun pins s σ H Q I ⟨env, ι, m, G, w, rr, q⟩ => p.run pins s σ H Q I (h σ H Q env ι m G w rr q)⟩
theorem SSs.pss {e : List Stmt} {f : Env → M Out} (h : SSs X L Wx e f) : PSs X e (cS L Wx f) := by
  obtain ⟨t, p, h⟩ := h
  exact ⟨fun pins s σ H Q I ⟨env, ι, m, G, w, rr, q⟩ => p.run pins s σ H Q I (h Q σ H env ι m G w rr q)⟩
theorem SG.pg {e : Expr} {own : List Nat} {g : D → Env → M Env} (h : SG X L own e g) : PG X e (cG L own g) := by
  obtain ⟨t, p, h⟩ := h
  refine ⟨fun pins s σ H v u Q I r q => ?_⟩
  obtain ⟨d, env, ι, m, G, w, rd, rr, q⟩ := q
  exact p.run pins s σ H v u Q I r (h v d σ H Q env ι m G w rd rr q)
theorem re_c {f : Env → M D} : RE L Wx (cE L Wx f) f := fun σ H Q env ι m G w rr q => ⟨env, ι, m, G, w, rr, q⟩
theorem rt_c {f : Env → M Bool} : RT L Wx (cT L Wx f) f := fun σ H Q env ι m G w rr q => ⟨env, ι, m, G, w, rr, q⟩
theorem rs_c {f : Env → M Out} : RS L Wx (cS L Wx f) f := fun Z σ H env ι m G w rr q => ⟨env, ι, m, G, w, rr, q⟩
theorem rg_c {own : List Nat} {g : D → Env → M Env} : RG L own (cG L own g) g := fun v d σ H Q env ι m G w r rr q => ⟨d, env, ι, m, G, w, r, rr, q⟩

/-! ### what is walked -/
structure WkD (L : Lk) (J : It) (l : List D) (G : Hp) (ι : List Addr) : Prop where
  ex : ∃ Y, Walk J l.length (fun H => ∃ ι' m' G', W L ι' m' G' H ∧ GLe G G' ∧ ι <+: ι') Y ∧ ∀ i H x H', Y i H x H' → ∀ ι' m' G', W L ι' m' G' H → GLe G G' → ι <+: ι' →
    ∃ G'' d, Le ι' G' H ι' G'' H' ∧ W L ι' m' G'' H' ∧ l[i]? = some d ∧ Rep L G'' ι' x d
def RI (L : Lk) (Wx : WX) (wi : TI) (f : Env → M (List D)) : Prop := ∀ (σ : L2.St) (H : Hp) (R : It → Hp → Prop) (env : Env) (ι : List Addr) (m : Mem) (G : Hp), W L ι m G H → RepE L G ι σ env →
  Post L (fun c d H => Wx c d σ H) ι G H (f env m) (fun l _ ι' G' H' => ∀ J, WkD L J l G' ι' → R J H') → wi σ H R
structure SI (X : Cx) (L : Lk) (Wx : WX) (tg e : Expr) (f : Env → M (List D)) : Prop where
  ex : ∃ wi, PI X tg e wi ∧ RI L Wx wi f
theorem pi_or {tg e : Expr} {wi wi' : TI} (h : PI X tg e wi) (h' : PI X tg e wi') : PI X tg e (fun σ H R => wi σ H R ∨ wi' σ H R) :=
  ⟨fun pins s σ H R I q => q.elim (h.run pins s σ H R I) (h'.run pins s σ H R I)⟩
theorem walk_w {J : It} {l : List D} {G : Hp} {ι : List Addr} {vs : List V} (wk : Walk J vs.length (fun H => ∃ ι' m' G', W L ι' m' G' H ∧ GLe G G' ∧ ι <+: ι') (YAt vs)) (r : RepL L G ι vs l) : WkD L J l G ι := by
  refine ⟨YAt vs, by rw [← r.length]; exact wk, fun i H x H' y ι' m' G' w g p => ?_⟩
  obtain ⟨rfl, hx⟩ := y
  obtain ⟨d, hd, rd⟩ := r.getV hx
  exact ⟨G', d, Le.refl, w, hd, rd.mono g p⟩
theorem sqL_later {K : PySem.W.Frag} {a : Addr} {vs : List V} {G : Hp} {ι : List Addr} (h : SqL K G a vs) {H : Hp} (q : ∃ ι' m' G', W L ι' m' G' H ∧ GLe G G' ∧ ι <+: ι') : SqL K H a vs := by
  obtain ⟨ι', m', G', w, g, p⟩ := q
  exact w.sqL (g.sqL h)
theorem sqT_later {K : PySem.W.Frag} {a : Addr} {vs : List V} {G : Hp} {ι : List Addr} (h : SqT K G a vs) {H : Hp} (q : ∃ ι' m' G', W L ι' m' G' H ∧ GLe G G' ∧ ι <+: ι') : SqT K H a vs := by
  obtain ⟨ι', m', G', w, g, p⟩ := q
  exact w.sqT (g.sqT h)
/-- a text's signs -/
def signs (s : Str) : List D := s.cps.toList.map fun c => .str ⟨#[c]⟩
/-- what a frozen list, a tuple, a text, the script gives -/
def itemsD : D → M (List D)
  | .lst l => pure l
  | .scr l => pure l
  | .tup l => pure l
  | .str s => pure (signs s)
  | _ => M.fail
def lstOf : D → Option (List D)
  | .lst l => some l
  | .scr l => some l
  | _ => none
theorem lst_sq {G : Hp} {ι : List Addr} {v : V} {d : D} {l : List D} (r : Rep L G ι v d) (e : lstOf d = some l) : ∃ a vs, v = .ref a ∧ SqL L.K G a vs ∧ RepL L G ι vs l := by
  cases r <;> cases e
  · rename_i h1 h2; exact ⟨_, _, rfl, .inl (Rd.of h1), h2⟩
  · rename_i h1 h2; exact ⟨_, _, rfl, h1, h2⟩
theorem tup_sq {G : Hp} {ι : List Addr} {v : V} {d : D} {l : List D} (r : Rep L G ι v d) (e : viewT d = some l) : ∃ a vs, v = .ref a ∧ SqT L.K G a vs ∧ RepL L G ι vs l := by
  cases r <;> cases e
  rename_i h1 h2; exact ⟨_, _, rfl, .inl (Rd.of h1), h2⟩
theorem sqL_K {K : PySem.W.Frag} {a : Addr} {xs : List V} {H : Hp} (h : SqL L.K H a xs) (e : K = L.K) : SqL K H a xs := by rw [e]; exact h
theorem sqT_K {K : PySem.W.Frag} {a : Addr} {xs : List V} {H : Hp} (h : SqT L.K H a xs) (e : K = L.K) : SqT K H a xs := by rw [e]; exact h
section
variable {tg e : Expr} {f : Env → M D} {pos p : Pos} {fs : Env → M (List D)}
theorem si_e (hK : X.K = L.K) (h : SE X L Wx e f) : SI X L Wx tg e (fun env => do let d ← f env; itemsD d) := by
  refine ⟨_, pi_or (pi_or (pi_list h.pe) (pi_tup h.pe)) (pi_str h.pe), fun σ H R env ι m G w rr q => ?_⟩
  have q0 := Post.bind q
  rw [hK]
  cases ef : f env m with
  | bad => rw [ef] at q0; exact q0.elim
  | exn x m1 => exact .inl (.inl ⟨env, ι, m, G, w, rr, by rw [ef] at q0 ⊢; exact q0⟩)
  | ok d m1 =>
    rw [ef] at q0
    cases d with
    | lst l =>
      refine .inl (.inl ⟨env, ι, m, G, w, rr, ?_⟩)
      rw [ef]
      intro ι1 G1 H1 l1 w1 v rv
      obtain ⟨a, vs, rfl, ha, hr⟩ := lst_sq rv rfl
      exact ⟨a, rfl, ⟨vs, w1.sqL ha⟩, (Post.at (q0 ι1 G1 H1 l1 w1) w1) _ (walk_w (walk_list.mono (fun H' z => sqL_later ha z) fun _ _ _ _ _ _ y => y) hr)⟩
    | scr l =>
      refine .inl (.inl ⟨env, ι, m, G, w, rr, ?_⟩)
      rw [ef]
      intro ι1 G1 H1 l1 w1 v rv
      obtain ⟨a, vs, rfl, ha, hr⟩ := lst_sq rv rfl
      exact ⟨a, rfl, ⟨vs, w1.sqL ha⟩, (Post.at (q0 ι1 G1 H1 l1 w1) w1) _ (walk_w (walk_list.mono (fun H' z => sqL_later ha z) fun _ _ _ _ _ _ y => y) hr)⟩
    | tup l =>
      refine .inl (.inr ⟨env, ι, m, G, w, rr, ?_⟩)
      rw [ef]
      intro ι1 G1 H1 l1 w1 v rv
      obtain ⟨a, vs, rfl, ha, hr⟩ := tup_sq rv rfl
      exact ⟨a, rfl, ⟨vs, w1.sqT ha⟩, (Post.at (q0 ι1 G1 H1 l1 w1) w1) _ (walk_w (walk_tup.mono (fun H' z => sqT_later ha z) fun _ _ _ _ _ _ y => y) hr)⟩
    | str s =>
      refine .inr ⟨env, ι, m, G, w, rr, ?_⟩
      rw [ef]
      intro ι1 G1 H1 l1 w1 v rv
      cases rv
      refine ⟨s, rfl, (Post.at (q0 ι1 G1 H1 l1 w1) w1) _ ⟨_, (by
        have z : (signs s).length = s.cps.size := by simp [signs]
        rw [z]
        exact walk_str.mono (fun _ _ => trivial) fun _ _ _ _ _ _ y => y), fun i H x H' y ι' m' G' w' g p => ?_⟩⟩
      obtain ⟨rfl, c, hc, rfl⟩ := y
      refine ⟨G', .str ⟨#[c]⟩, Le.refl, w', ?_, .str _⟩
      unfold signs
      rw [List.getElem?_map, Array.getElem?_toList, hc]
      rfl
    | _ =>
      refine .inl (.inl ⟨env, ι, m, G, w, rr, ?_⟩)
      rw [ef]
      exact fun ι1 G1 H1 l1 w1 v rv => (q0 ι1 G1 H1 l1 w1).elim

/-! ranges -/
def rngL (lo : Int) (n : Nat) : List D := (List.range n).map fun i => .int (lo + (i : Nat))
theorem rng_wk {lo : Int} {n : Nat} {G : Hp} {ι : List Addr} : WkD L (Itr lo n) (rngL lo n) G ι := by
  refine ⟨_, (by
    have z : (rngL lo n).length = n := by simp [rngL]
    rw [z]
    exact walk_range.mono (fun _ _ => trivial) fun i H x H' hi _ y => (⟨hi, y⟩ : i < n ∧ YFn (fun i => V.int (lo + i)) i H x H')), fun i H x H' y ι' m' G' w g p => ?_⟩
  obtain ⟨hi, rfl, rfl⟩ := y
  refine ⟨G', .int (lo + (i : Nat)), Le.refl, w, ?_, .int _⟩
  unfold rngL
  rw [List.getElem?_map, List.getElem?_range hi]
  rfl
def rng1D : List D → M (List D)
  | [.int j] => if -(2 ^ 62) ≤ j ∧ j < 2 ^ 62 then pure (rngL 0 j.toNat) else M.fail
  | _ => M.fail
def rng2D : List D → M (List D)
  | [.int i, .int j] => if -(2 ^ 62) ≤ i ∧ i < 2 ^ 62 ∧ -(2 ^ 62) ≤ j ∧ j < 2 ^ 62 then pure (rngL i (j - i).toNat) else M.fail
  | _ => M.fail
def oneI (l : List D) : Option Int := match l with
  | [.int i] => some i
  | _ => none
theorem oneI_some {l : List D} {i : Int} (h : oneI l = some i) : l = [.int i] := by
  unfold oneI at h
  split at h
  · cases h; rfl
  · cases h
theorem rng1_one (l : List D) : rng1D l = match oneI l with
    | some j => if -(2 ^ 62) ≤ j ∧ j < 2 ^ 62 then pure (rngL 0 j.toNat) else M.fail
    | none => M.fail := by
  unfold rng1D oneI
  split <;> rfl
theorem si_rng1 {a : Expr} (hg : Gl X "range") (hm : X.mg "range" = none) (h : SA X L Wx [a] fs) (hs : starEach [a] X.env = [(false, eval a X.env)]) : SI X L Wx tg (.Call (.Name "range" p) [a] [] pos) (fun env => do let l ← fs env; rng1D l) := by
  obtain ⟨⟨t, pa, ha⟩, _⟩ := h
  refine ⟨_, pi_range1 hg hm pa hs, fun σ H R env ι m G w rr q => ?_⟩
  refine ha σ H _ env ι m G w rr (Post.imp (Post.bind q) fun l m1 ι1 G1 H1 l1 w1 q1 vs rv => ?_)
  rw [rng1_one] at q1
  cases e : oneI l with
  | none => rw [e] at q1; exact q1.elim
  | some j =>
    rw [e] at q1
    have z := oneI_some e
    subst z
    cases rv with
    | cons r1 rv =>
      cases rv
      cases r1
      dsimp only at q1
      by_cases hj : -(2 ^ 62) ≤ j ∧ j < 2 ^ 62
      · rw [if_pos hj] at q1
        exact ⟨j, rfl, hj.1, hj.2, (Post.at q1 w1) _ rng_wk⟩
      · rw [if_neg hj] at q1
        exact q1.elim
def two (l : List D) : Option (Int × Int) := match l with
  | [.int i, .int j] => some (i, j)
  | _ => none
theorem two_some {l : List D} {i j : Int} (h : two l = some (i, j)) : l = [.int i, .int j] := by
  unfold two at h
  split at h
  · cases h; rfl
  · cases h
theorem rng2_two (l : List D) : rng2D l = match two l with
    | some (i, j) => if -(2 ^ 62) ≤ i ∧ i < 2 ^ 62 ∧ -(2 ^ 62) ≤ j ∧ j < 2 ^ 62 then pure (rngL i (j - i).toNat) else M.fail
    | none => M.fail := by
  unfold rng2D two
  split <;> rfl
theorem si_rng2 {a b : Expr} (hg : Gl X "range") (hm : X.mg "range" = none) (h : SA X L Wx [a, b] fs) (hs : starEach [a, b] X.env = [(false, eval a X.env), (false, eval b X.env)]) (hs2 : starEach [b] X.env = [(false, eval b X.env)]) :
    SI X L Wx tg (.Call (.Name "range" p) [a, b] [] pos) (fun env => do let l ← fs env; rng2D l) := by
  obtain ⟨⟨t, pa, ha⟩, _⟩ := h
  refine ⟨_, pi_range2 hg hm pa hs hs2, fun σ H R env ι m G w rr q => ?_⟩
  refine ha σ H _ env ι m G w rr (Post.imp (Post.bind q) fun l m1 ι1 G1 H1 l1 w1 q1 vs rv => ?_)
  rw [rng2_two] at q1
  cases e : two l with
  | none => rw [e] at q1; exact q1.elim
  | some ij =>
    obtain ⟨i, j⟩ := ij
    rw [e] at q1
    have z := two_some e
    subst z
    cases rv with
    | cons r1 rv =>
      cases rv with
      | cons r2 rv =>
        cases rv
        cases r1
        cases r2
        dsimp only at q1
        by_cases hj : -(2 ^ 62) ≤ i ∧ i < 2 ^ 62 ∧ -(2 ^ 62) ≤ j ∧ j < 2 ^ 62
        · rw [if_pos hj] at q1
          exact ⟨i, j, rfl, hj, (Post.at q1 w1) _ rng_wk⟩
        · rw [if_neg hj] at q1
          exact q1.elim
/-! pairs -/
theorem pair_wk {J : It} {n : Nat} {l : List D} {fx fy : Nat → Option V} {G : Hp} {ι : List Addr} (wk : Walk J n (fun H => ∃ ι' m' G', W L ι' m' G' H ∧ GLe G G' ∧ ι <+: ι') (YPair fx fy)) (hn : l.length = n)
    (hr : ∀ i x y, fx i = some x → fy i = some y → ∃ d e, l[i]? = some (.tup [d, e]) ∧ Rep L G ι x d ∧ Rep L G ι y e) : WkD L J l G ι := by
  refine ⟨YPair fx fy, by rw [hn]; exact wk, fun i H x H' y ι' m' G' w g p => ?_⟩
  obtain ⟨T, x, y, rfl, hT, rfl, h1, h2⟩ := y
  obtain ⟨d, e, hl, r1, r2⟩ := hr i x y h1 h2
  have f := w.fresh hT
  exact ⟨upd G' T (.tup [x, y]), .tup [d, e], (Le.new hT).frz hT f.2, (w.beside f.1 f.2).frz f.1 f.2 upd_same, hl, .tup upd_same (.cons (r1.mono (g.trans (upd_gle f.2)) p) (.cons (r2.mono (g.trans (upd_gle f.2)) p) .nil))⟩
def enumL : Nat → List D → List D
  | _, [] => []
  | n, d :: ds => .tup [.int (n : Nat), d] :: enumL (n + 1) ds
theorem enumL_length : ∀ {l : List D} {n : Nat}, (enumL n l).length = l.length
  | [], _ => rfl
  | d :: ds, n => by unfold enumL; rw [List.length_cons, List.length_cons, enumL_length]
theorem enumL_get : ∀ {l : List D} {n i : Nat} {d : D}, l[i]? = some d → (enumL n l)[i]? = some (.tup [.int ((n + i : Nat) : Int), d])
  | [], _, _, _, h => by simp at h
  | e :: es, n, 0, d, h => by
    simp at h
    subst h
    rfl
  | e :: es, n, i + 1, d, h => by
    unfold enumL
    rw [List.getElem?_cons_succ, enumL_get (n := n + 1) (by simpa using h)]
    rw [show n + 1 + i = n + (i + 1) by omega]
theorem enum_r {G : Hp} {ι : List Addr} {vs : List V} {l : List D} (r : RepL L G ι vs l) : ∀ i x y, (some (V.int (i : Nat)) : Option V) = some x → vs[i]? = some y → ∃ d e, (enumL 0 l)[i]? = some (.tup [d, e]) ∧ Rep L G ι x d ∧ Rep L G ι y e := by
  intro i x y hx hy
  obtain ⟨d, hd, rd⟩ := r.getV hy
  cases hx
  exact ⟨_, d, by rw [enumL_get hd, Nat.zero_add], .int _, rd⟩
def one1 {α : Type} (k : D → M α) : List D → M α
  | [d] => k d
  | _ => M.fail
theorem post_one1 {α : Type} {k : D → M α} {l : List D} {ι : List Addr} {G H : Hp} {m : Mem} {vs : List V} {z : α → Mem → List Addr → Hp → Hp → Prop} (h : Post L E ι G H (one1 k l m) z) (r : RepL L G ι vs l) : ∃ d v, l = [d] ∧ vs = [v] ∧ Rep L G ι v d ∧ Post L E ι G H (k d m) z := by
  match l, vs, r, h with
  | [d], [v], .cons r .nil, h => exact ⟨d, v, rfl, rfl, r, h⟩
  | [], _, _, h => exact h.elim
  | _ :: _ :: _, _, _, h => exact h.elim
def seqD : D → M (List D)
  | .lst l => pure l
  | .scr l => pure l
  | .tup l => pure l
  | _ => M.fail
/-- enumerate(x) -/
theorem si_enum {a : Expr} {elts : List Expr} {kk : Nat} {tpos : Pos} (hK : X.K = L.K) (hg : Gl X "enumerate") (hm : X.mg "enumerate" = none) (h : SE X L Wx a f) (hs : starEach [a] X.env = [(false, eval a X.env)]) :
    SI X L Wx (.Tuple elts kk tpos) (.Call (.Name "enumerate" p) [a] [] pos) (fun env => do let d ← f env; let l ← seqD d; pure (enumL 0 l)) := by
  have hs' : starEach (a :: []) X.env = (false, eval a X.env) :: starEach [] X.env := hs
  have pa : PA X [a] (tCons (cE L Wx f) tNil) := pa_cons h.pe pa_nil hs'
  refine ⟨_, pi_or (pi_enum hg hm pa hs) (pi_enumT hg hm pa hs), fun σ H R env ι m G w rr q => ?_⟩
  have q0 := Post.bind q
  rw [hK]
  cases ef : f env m with
  | bad => rw [ef] at q0; exact q0.elim
  | exn x m1 => exact .inl ⟨env, ι, m, G, w, rr, by rw [ef] at q0 ⊢; exact q0⟩
  | ok d m1 =>
    rw [ef] at q0
    have lists : ∀ l, lstOf d = some l → seqD d = pure l → iEnum L.K (tCons (cE L Wx f) tNil) σ H R := fun l e1 e2 => by
      refine ⟨env, ι, m, G, w, rr, ?_⟩
      rw [ef]
      intro ι1 G1 H1 l1 w1 v rv
      obtain ⟨a, vs, rfl, ha, hr⟩ := lst_sq rv e1
      have q1 := q0 ι1 G1 H1 l1 w1
      dsimp only at q1
      rw [e2] at q1
      exact ⟨a, vs, rfl, w1.sqL ha, (Post.at q1 w1) _ (pair_wk (walk_enum.mono (fun H' z => sqL_later ha z) fun _ _ _ _ _ _ y => y) (by rw [enumL_length, hr.length]) (enum_r hr))⟩
    cases d with
    | lst l => exact .inl (lists l rfl rfl)
    | scr l => exact .inl (lists l rfl rfl)
    | tup l =>
      refine .inr ⟨env, ι, m, G, w, rr, ?_⟩
      rw [ef]
      intro ι1 G1 H1 l1 w1 v rv
      obtain ⟨a, vs, rfl, ha, hr⟩ := tup_sq rv rfl
      have q1 : Post L _ ι1 G1 H1 ((pure (enumL 0 l) : M (List D)) m1) _ := q0 ι1 G1 H1 l1 w1
      exact ⟨a, vs, rfl, w1.sqT ha, (Post.at q1 w1) _ (pair_wk (walk_enumT.mono (fun H' z => sqT_later ha z) fun _ _ _ _ _ _ y => y) (by rw [enumL_length, hr.length]) (enum_r hr))⟩
    | _ =>
      refine .inl ⟨env, ι, m, G, w, rr, ?_⟩
      rw [ef]
      exact fun ι1 G1 H1 l1 w1 v rv => (q0 ι1 G1 H1 l1 w1).elim
end

/-! ### for -/
def forD : List D → (D → Env → M Env) → (Env → M Out) → Env → M Out
  | [], _, _ => fun env => pure (.nx env)
  | d :: ds, g, b => fun env => do
    let env1 ← noX (g d env)
    let o ← b env1
    match o with
      | .nx e => forD ds g b e
      | .cnt e => forD ds g b e
      | .brk e => pure (.nx e)
      | o => pure o
theorem ss_for {tg iter : Expr} {body : List Stmt} {own : List Nat} {fi : Env → M (List D)} {g : D → Env → M Env} {fb : Env → M Out} {pos : Pos} (hp : PassesOwn (model X.prog X.w) X.A X.env X.xe) (hc : X.calm = true) (hi : SI X L Wx tg iter fi) (hg : SG X L own tg g) (hb : SSs X L Wx body fb)
    (hs : ∀ x, foldedSetIterable iter X.env x = pure x) : SS X L Wx (.For tg iter body [] pos) (fun env => exB env (fi env) fun l => forD l g fb env) := by
  obtain ⟨wi, pi, hi⟩ := hi
  obtain ⟨tG, pg, hg⟩ := hg
  obtain ⟨tb, pb, hb⟩ := hb
  refine ⟨_, ps_for hp hc pi pg pb hs, fun Z σ H env ι m G w rr q => ?_⟩
  refine hi σ H _ env ι m G w rr (Post.imp (post_exB q rr) fun l m1 ι1 G1 H1 l1 w1 q1 J wk => ?_)
  obtain ⟨Y, wk, hY⟩ := wk
  refine for_it wk (D := Z) (fun i σ H => ∃ env ι m G, W L ι m G H ∧ RepE L G ι σ env ∧ GLe G1 G ∧ ι1 <+: ι ∧ PS1 L Wx Z ι G H (forD (l.drop i) g fb env m)) ⟨env, ι1, m1, G1, w1, rr.le l1, .refl G1, List.prefix_refl _, q1⟩ ?_ ?_ ?_
  · rintro i σ' H' _ ⟨env', ι', m', G', w', _, g', p', _⟩
    exact ⟨ι', m', G', w', g', p'⟩
  · rintro i x σ2 H2 H3 hi ⟨env2, ι2, m2, G2, w2, rr2, g2, p2, q2⟩ y
    obtain ⟨G3, d, l3, w3, hd, rd⟩ := hY i H2 x H3 y ι2 m2 G2 w2 g2 p2
    have e1 : l.drop i = d :: l.drop (i + 1) := by
      obtain ⟨hi', e⟩ := List.getElem?_eq_some_iff.mp hd
      rw [List.drop_eq_getElem_cons hi', e]
    rw [e1] at q2
    have q3 := Post.later q2 l3
    refine hg x d σ2 H3 _ env2 ι2 m2 G3 w3 rd (rr2.le l3) (Post.imp (post_noX (Post.bind q3)) fun env4 m4 ι4 G4 H4 l4 w4 q4 σ4 rr4 _ => ?_)
    refine hb _ σ4 H4 env4 ι4 m4 G4 w4 rr4 (Post.imp (Post.bind q4) fun o m5 ι5 G5 H5 l5 w5 q5 => ?_)
    have gg : GLe G1 G5 := (g2.trans l3.g).trans (l4.g.trans l5.g)
    have pp : ι1 <+: ι5 := (p2.trans l3.pre).trans (l4.pre.trans l5.pre)
    cases o with
    | nx e => exact fun σ5 rr5 => ⟨e, ι5, m5, G5, w5, rr5, gg, pp, q5⟩
    | cnt e => exact fun σ5 rr5 => ⟨e, ι5, m5, G5, w5, rr5, gg, pp, q5⟩
    | brk e => exact Post.at (k := fun o _ ι' G' H' => OutOk L Wx Z ι' G' H' o) q5 w5
    | ret e => exact Post.at (k := fun o _ ι' G' H' => OutOk L Wx Z ι' G' H' o) q5 w5
    | exn z e => exact Post.at (k := fun o _ ι' G' H' => OutOk L Wx Z ι' G' H' o) q5 w5
  · rintro σ' H' ⟨env', ι', m', G', w', rr', g', p', q'⟩
    rw [List.drop_eq_nil_of_le (Nat.le_refl _)] at q'
    exact (Post.at (k := fun o _ ι' G' H' => OutOk L Wx Z ι' G' H' o) q' w') σ' rr'
end Eng

set_option maxRecDepth 100000
set_option maxHeartbeats 4000000
namespace Eng
open PySem PySem.Spec PyProof.Rows L2
variable {L : Lk} {X : Cx} {E : XK} {Wx : WX}

/-! ### list comprehensions -/
theorem bind_as {α β γ : Type} (x : M α) (f : α → M β) (g : β → M γ) : (x >>= f) >>= g = x >>= fun a => f a >>= g := by
  funext m
  show M.bind (M.bind x f) g m = M.bind x (fun a => M.bind (f a) g) m
  unfold M.bind
  cases x m <;> rfl
theorem pure_bd {α β : Type} (a : α) (f : α → M β) : (pure a : M α) >>= f = f a := rfl
def wipeE (env : Env) : List Nat → Env
  | [] => env
  | v :: vs => (wipeE env vs).set v none
theorem RepE.wipe {G : Hp} {ι : List Addr} {σ : L2.St} {env : Env} (h : RepE L G ι σ env) : ∀ vs, RepE L G ι (wipe σ vs) (wipeE env vs)
  | [] => h
  | v :: vs => by
    unfold L2.wipe wipeE
    exact RepE.none (h.wipe vs) v Option.none
theorem wipe_in {vs : List Nat} : ∀ {us : List Nat} {σ : L2.St}, (∀ u ∈ us, u ∈ vs) → wipe (wipe σ us) vs = wipe σ vs
  | [], _, _ => rfl
  | u :: us, σ, h => by
    show wipe ((wipe σ us).set u none) vs = _
    rw [wipe_set (h u List.mem_cons_self), wipe_in fun x hx => h x (List.mem_cons_of_mem _ hx)]
def lcA (g : D → Env → M Env) (t : Env → M Bool) (e : Env → M D) (env0 : Env) : List D → List D → M (List D)
  | [], acc => pure acc
  | d :: ds, acc => do
    let env1 ← noX (g d env0)
    let b ← noX (t env1)
    if b then (do
      let y ← noX (e env1)
      lcA g t e env0 ds (acc ++ [y])) else lcA g t e env0 ds acc
def lcD (c : Bool) (g : D → Env → M Env) (t : Env → M Bool) (e : Env → M D) (env0 : Env) (l : List D) : M D :=
  if l.length < 1000000 then (do
    let r ← lcA g t e env0 l []
    mkNew c (.lst r)) else M.fail
theorem big_ok {n : Nat} (h : n < 1000000) : n < sizeLine := Nat.lt_of_lt_of_le h (by decide)
theorem re_lc {c : Bool} {wi : TI} {fi : Env → M (List D)} {g : D → Env → M Env} {t : Env → M Bool} {e : Env → M D} {vs : List Nat} (hi : RI L Wx wi fi) :
    RE L Wx (tLc wi (cG L vs g) (cT L WF t) (cE L WF e) vs) (fun env => do let l ← fi env; lcD c g t e (wipeE env vs) l) := by
  intro σ H Q env ι m G w rr q
  refine hi σ H _ env ι m G w rr (Post.imp (Post.bind q) fun l m1 ι1 G1 H1 l1 w1 q1 J wk => ?_)
  intro Da hD
  unfold lcD at q1
  by_cases hl : l.length < 1000000
  case neg => rw [if_neg hl] at q1; exact q1.elim
  rw [if_pos hl] at q1
  obtain ⟨Y, wk, hY⟩ := wk
  have f1 := w1.fresh hD
  have rw1 := (rr.le l1).wipe vs
  generalize wipeE env vs = env0 at q1 rw1
  refine lc_it wk (fun i H => ∃ dacc acc ι m G, H Da = some (.lst acc) ∧ Da ∉ ι ∧ G Da = none ∧ W L ι m G H ∧ RepL L G ι acc dacc ∧ acc.length ≤ i ∧ GLe G1 G ∧ ι1 <+: ι ∧ Le ι1 G1 H1 ι G H ∧
    PV L (fun c d H => Wx c d σ H) ι1 G1 H1 ((lcA g t e env0 (l.drop i) dacc >>= fun r => mkNew c (.lst r)) m) Q) ⟨[], [], ι1, m1, G1, upd_same, f1.1, f1.2, w1.beside f1.1 f1.2, .nil, Nat.le_refl _, .refl G1, List.prefix_refl _, Le.new hD, q1⟩ ?_ ?_ ?_
  · rintro i H' _ ⟨dacc, acc, ι', m', G', _, _, _, w', _, _, g', p', _⟩
    exact ⟨ι', m', G', w', g', p'⟩
  · rintro i x H2 H3 hi ⟨dacc, acc, ι2, m2, G2, a1, a2, a3, w2, ra, al, g2, p2, b2, q2⟩ y
    obtain ⟨G3, d, l3, w3, hd, rd⟩ := hY i H2 x H3 y ι2 m2 G2 w2 g2 p2
    have e1 : l.drop i = d :: l.drop (i + 1) := by
      obtain ⟨hi', e⟩ := List.getElem?_eq_some_iff.mp hd
      rw [List.drop_eq_getElem_cons hi', e]
    rw [e1] at q2
    unfold lcA at q2
    rw [bind_as] at q2
    have b3 := b2.trans l3
    have keep : ∀ {ι' : List Addr} {G' H' : Hp}, Le ι2 G2 H2 ι' G' H' → H' Da = some (.lst acc) ∧ Da ∉ ι' ∧ G' Da = none := fun {ι' G' H'} le =>
      ⟨le.fr Da _ a1 a2, (fun z => by have := le.nw Da z a2; rw [a1] at this; cases this), (le.gn Da (by rw [a1]; simp) a2).trans a3⟩
    refine ⟨d, env0, ι2, m2, G3, w3, rd, rw1.mono (g2.trans l3.g) p2, Post.imp (Post.later (post_noX (Post.bind0 q2)) b3) fun env4 m4 ι4 G4 H4 l4 w4 q4 σ4 rr4 e4 => ?_⟩
    refine ⟨e4.trans (wipe_in fun _ h => h), ?_⟩
    rw [bind_as] at q4
    have b4 := b3.trans l4
    refine ⟨env4, ι4, m4, G4, w4, rr4, Post.imp (Post.later (post_noX (Post.bind0 q4)) b4) fun b m5 ι5 G5 H5 l5 w5 q5 => ?_⟩
    have b5 := b4.trans l5
    cases b with
    | false =>
      rw [if_neg Bool.false_ne_true] at q5
      dsimp only
      rw [if_neg Bool.false_ne_true]
      obtain ⟨k1, k2, k3⟩ := keep ((l3.trans l4).trans l5)
      exact ⟨dacc, acc, ι5, m5, G5, k1, k2, k3, w5, ra.mono ((l3.g.trans l4.g).trans l5.g) ((l3.pre.trans l4.pre).trans l5.pre), Nat.le_succ_of_le al, g2.trans ((l3.g.trans l4.g).trans l5.g), p2.trans ((l3.pre.trans l4.pre).trans l5.pre), b5, q5⟩
    | true =>
      rw [if_pos rfl] at q5
      dsimp only
      rw [if_pos rfl]
      rw [bind_as] at q5
      refine ⟨env4, ι5, m5, G5, w5, rr4.le l5, Post.imp (Post.later (post_noX (Post.bind0 q5)) b5) fun dy m6 ι6 G6 H6 l6 w6 q6 y ry => ?_⟩
      have lo := ((l3.trans l4).trans l5).trans l6
      obtain ⟨k1, k2, k3⟩ := keep lo
      refine ⟨acc, k1, big_ok (Nat.lt_of_le_of_lt al (Nat.lt_trans hi hl)), dacc ++ [dy], acc ++ [y], ι6, m6, G6, upd_same, k2, k3, w6.beside k2 k3, (ra.mono lo.g lo.pre).append (.cons ry .nil), ?_, g2.trans lo.g, p2.trans lo.pre, (b5.trans l6).over hD, q6⟩
      rw [List.length_append]
      exact Nat.succ_le_succ al
  · rintro H' ⟨dacc, acc, ι', m', G', k1, k2, k3, w', ra, _, _, _, b', q'⟩
    rw [List.drop_eq_nil_of_le (Nat.le_refl _)] at q'
    exact place q' b' w' trivial hD k1 k2 k3 ra
structure SPT (X : Cx) (L : Lk) (Wx : WX) (ifs : List Expr) (f : Env → M Bool) : Prop where
  ex : PTs X ifs (cT L Wx f)
theorem spt_nil : SPT X L Wx [] (fun _ => pure true) := ⟨⟨fun pins s σ H Q I ⟨env, ι, m, G, w, rr, q⟩ => pts_nil.run pins s σ H Q I (Post.at q w)⟩⟩
theorem spt_one {c : Expr} {f : Env → M Bool} (h : ST X L Wx c f) : SPT X L Wx [c] f := ⟨pts_one h.pt⟩
section
variable {c : Bool} {elt tg iter : Expr} {ifs : List Expr} {scope : Scope} {own : List (Str × Nat)} {pos : Pos} {fi : Env → M (List D)} {g : D → Env → M Env} {t : Env → M Bool} {e : Env → M D}
theorem se_lc (hc : X.calm = true) (hN : X.N.Nodup) (hi : SI X L Wx tg iter fi) (ok : BlkOk X.N X.env.scope scope own)
    (hb : ∀ (s : Shared) (H : Hp) (C : Addr) (cl : List (Str × Addr)) (fp : List Addr), SG (X.blk s H scope (compEnvC scope cl C X.env) fp) L (own.map (·.2)) tg g ∧ SPT (X.blk s H scope (compEnvC scope cl C X.env) fp) L WF ifs t ∧ SE (X.blk s H scope (compEnvC scope cl C X.env) fp) L WF elt e)
    (hs : ∀ x, foldedSetIterable iter X.env x = pure x) : SE X L Wx (.ListComp elt [⟨tg, iter, ifs, 0⟩] scope pos) (fun env => do let l ← fi env; lcD c g t e (wipeE env (own.map (·.2))) l) := by
  obtain ⟨wi, pi, hi⟩ := hi
  exact ⟨_, pe_lc hc hN pi ok (fun s H C cl fp => (hb s H C cl fp).1.pg) (fun s H C cl fp => (hb s H C cl fp).2.1.ex) (fun s H C cl fp => (hb s H C cl fp).2.2.pe) hs, re_lc hi⟩
/-- x = [..] on one line -/
theorem ss_setLc {i : Nat} {y : Str} {py spos : Pos} (hc : X.calm = true) (hN : X.N.Nodup) (hy : X.N[i]? = some y) (hyl : X.env.scope.names.lookup y = some .local) (hsw : swapsWith (.ListComp elt [⟨tg, iter, ifs, 0⟩] scope pos) (some (.Name y py)) spos.line X.env = pure true) (hi : SI X L Wx tg iter fi) (ok : BlkOk X.N X.env.scope scope own)
    (hb : ∀ (s : Shared) (H : Hp) (C : Addr) (cl : List (Str × Addr)) (fp : List Addr), SG (X.blk s H scope (compEnvC scope cl C X.env) fp) L (own.map (·.2)) tg g ∧ SPT (X.blk s H scope (compEnvC scope cl C X.env) fp) L WF ifs t ∧ SE (X.blk s H scope (compEnvC scope cl C X.env) fp) L WF elt e)
    (hs : ∀ x, foldedSetIterable iter X.env x = pure x) : SS X L Wx (.Assign [.Name y py] (.ListComp elt [⟨tg, iter, ifs, 0⟩] scope pos) spos) (fun env => exB env (do let l ← fi env; lcD c g t e (wipeE env (own.map (·.2))) l) fun d => pure (.nx (env.set i (some d)))) := by
  obtain ⟨wi, pi, hi⟩ := hi
  refine ⟨_, ps_setLc hc hN hy hyl hsw pi ok (fun s H C cl fp => (hb s H C cl fp).1.pg) (fun s H C cl fp => (hb s H C cl fp).2.1.ex) (fun s H C cl fp => (hb s H C cl fp).2.2.pe) hs, fun Z σ H env ι m G w rr q => ?_⟩
  exact re_lc (c := c) hi σ H _ env ι m G w rr (Post.imp (post_exB q rr) fun da m1 ι1 G1 H1 l1 w1 q1 x rx => (Post.at q1 w1) _ ((rr.le l1).set i rx))
end
end Eng

set_option maxRecDepth 100000
set_option maxHeartbeats 4000000
namespace Eng
open PySem PySem.Spec PyProof.Rows L2
variable {L : Lk} {X : Cx} {E : XK} {Wx : WX}

/-! ### defs -/
structure Df (P : Program) (w : World) (K : PySem.W.Frag) (mg : Str → Option Value) (base : Heap) (L : Lk) (k : Nat) (f : Addr) (fd : FuncData) (ps : List Str) (g : List D → M D) : Prop where
  go : ∀ (A : Around) (outer : List PySem.Env) (s : Shared) (H : Hp) (args : Args) (us : List Value) (vs : List V) (ds : List D) (ι : List Addr) (m : Mem) (G : Hp) (Q : VK) (E : XK), Room k A → A.guards = some [] → Env0 P w K mg base A outer s H → BindsTo s fd args (ps.zip us) →
    Vals vs us → vs.length = ps.length → Eng.W L ι m G H → RepL L G ι vs ds → PV L E ι G H (g ds m) Q → codeAny (model P w) A (.call (.ref f) args) (CR (L2N.CX P w) outer P w H s Q E) s
theorem Df.mono {P : Program} {w : World} {K : PySem.W.Frag} {mg : Str → Option Value} {base : Heap} {j k : Nat} {f : Addr} {fd : FuncData} {ps : List Str} {g : List D → M D} (F : Df P w K mg base L j f fd ps g) (h : j ≤ k) : Df P w K mg base L k f fd ps g :=
  ⟨fun A outer s H args us vs ds ι m G Q E hr => F.go A outer s H args us vs ds ι m G Q E (hr.mono h)⟩
def startE (n : Nat) (ds : List D) : Env := ds.map some ++ List.replicate (n - ds.length) none
def callB (n : Nat) (body : Env → M Out) (ds : List D) : M D := fun m => match body (startE n ds) m with
  | .ok (.ret d) m' => .ok d m'
  | .ok (.nx _) m' => .ok .non m'
  | .ok (.exn x _) m' => .exn x m'
  | _ => .bad
theorem start_rep {G : Hp} {ι : List Addr} {N : List Str} : ∀ {vs : List V} {ds : List D}, RepL L G ι vs ds → RepE L G ι (L2.start N vs) (startE N.length ds) := by
  intro vs ds r
  have hl := r.length
  refine ⟨by unfold L2.start startE; simp [hl], fun i d e => ?_⟩
  unfold startE at e
  unfold L2.start
  by_cases hi : i < ds.length
  · rw [List.getElem?_append_left (by simpa using hi), List.getElem?_map] at e
    rw [List.getElem?_append_left (by simpa [hl] using hi), List.getElem?_map]
    cases q : ds[i]? with
    | none => rw [q] at e; cases e
    | some d' =>
      rw [q] at e; cases e
      obtain ⟨v, h1, h2⟩ := r.get q
      exact ⟨v, by rw [h1]; rfl, h2⟩
  · rw [List.getElem?_append_right (by simpa using hi), List.getElem?_replicate] at e
    split at e <;> cases e
theorem post_callB {n : Nat} {body : Env → M Out} {ds : List D} {ι : List Addr} {G H : Hp} {m : Mem} {Q : VK} (h : PV L E ι G H (callB n body ds m) Q) :
    PS1 L (fun c d _ H => E c d H) { nx := fun _ H' => Q .non H', rt := Q } ι G H (body (startE n ds) m) := by
  unfold callB at h
  cases e : body (startE n ds) m with
  | bad => rw [e] at h; exact h
  | exn x m' => rw [e] at h; exact h.elim
  | ok o m' =>
    rw [e] at h
    cases o with
    | ret d => exact fun ι' G' H' l w v r => h ι' G' H' l w v r
    | nx env => exact fun ι' G' H' l w σ rr => h ι' G' H' l w .non .non
    | exn x env => exact fun ι' G' H' l w σ c d rr xr => h ι' G' H' c d l w xr
    | brk env => exact h.elim
    | cnt env => exact h.elim
/-- what is known of a context -/
structure Good (P : Program) (w : World) (K : PySem.W.Frag) (mg : Str → Option Value) (base : Heap) (N : List Str) (sc : Scope) (fn : Str → Bool) (k : Nat) (Wx : WX) (X : Cx) : Prop where
  hP : X.prog = P
  hw : X.w = w
  hK : X.K = K
  hmg : X.mg = mg
  hb : X.base = base
  hN : X.N = N
  nd : N.Nodup
  hsc : X.env.scope = sc
  hfn : X.fn = fn
  hr : Room k X.A
  hg : X.A.guards = some []
  calm : X.calm = true
  tk : L2N.Takes X Wx
  po : PassesOwn (model X.prog X.w) X.A X.env X.xe
/-- it stands in the frame of a def -/
structure Top (X : Cx) (q : Str) (cd : Value) : Prop where
  hq : X.env.qual = q ++ ".<locals>."
  hc : X.env.code = cd
  hs : X.stack = X.env :: X.outer
  hf : X.env.frame = some X.env.locals
section
variable {P : Program} {w : World} {K : PySem.W.Frag} {mg : Str → Option Value} {base : Heap}
theorem df_of {x qual : Str} {st : Stmt} {f : Addr} {fd : FuncData} {N ps : List Str} {k : Nat} {body : Env → M Out} {sc : Scope} (F : Fun K x qual st f fd) (S : FnScope N ps (defScope st)) (hsc : defScope st = sc)
    (hb : ∀ (X : Cx) (Wx : WX), Good P w K mg base N sc (fun _ => true) k Wx X → Top X qual fd.code → SSs X L Wx (defBody st) body) : Df P w K mg base L (k + 1) f fd ps (callB N.length body) := by
  obtain ⟨oc, od, kV, doc, pm, an, cdv, ct, osl, rfl, lk, hcd⟩ := F.ex
  refine ⟨fun A outer s H args us vs ds ι m G Q E hr hgd e0 bnd r hl wm rl hq => ?_⟩
  have kx : K.In s.heap := e0.mod.kin.keeps fun b o e => (e0.bs b o e).1
  have noLim : s.heap.NoLimit := e0.mod.nolimit.keeps fun b o e => (e0.bs b o e).1
  have kinds : ∀ y ∈ ps.zip us, (defScope st).names.lookup y.1 = some .local ∨ ((defScope st).names.lookup y.1 = some .cell ∧ ((cellsFrom (s.heap.objs.size + 1) (defScope st).names []).lookup y.1).isSome = true) := fun y hy => by
    obtain ⟨n, v⟩ := y
    rcases S.par n (List.of_mem_zip hy).1 with z | z
    · exact .inl z
    · exact .inr ⟨z, PySem.W.cellsFrom_some _ _ _ (.inl z)⟩
  refine codeAny_call_function hr.depth (kx _ _ lk) rfl S.co S.gen rfl (PySem.W.codeRec_of kx hcd) (bnd _ _ _ _ ?_)
  refine wpAny_newFunctionEnv_cells S.kind kinds fun env hE s1 cs => ?_
  subst hE
  refine ⟨noLim.keeps cs.toInCall.keep, codeAny_func ?_⟩
  have gd : Good P w K mg base N sc (fun _ => true) k (fun c d _ H => E c d H) (cxOf (L2N.CX P w) P w K mg base N qual (defScope st) f cdv A outer s H E) :=
    ⟨rfl, rfl, rfl, rfl, rfl, rfl, S.nd, hsc, rfl, hr.deeper _, hgd, rfl, L2N.takes_of rfl rfl rfl rfl, passes_of rfl⟩
  have I : Inv (cxOf (L2N.CX P w) P w K mg base N qual (defScope st) f cdv A outer s H E) [] (L2.start N vs) H s1 := inv_start S hr.hd e0 hl r cs
  obtain ⟨t, pt, rs⟩ := hb _ _ gd ⟨rfl, rfl, rfl, rfl⟩
  have q2 := rs _ (L2.start N vs) H (startE N.length ds) ι m G wm (start_rep rl) (post_callB hq)
  refine wpAny_mono (pt.run [] s1 _ H _ I q2) (fun fl s' hs => ?_) fun e s' hs => hs
  cases fl with
  | ret u =>
    obtain ⟨v, σ', H', J, rv, z⟩ := hs
    exact ⟨v, H', J.os, J.bare, J.base, J.hok, rv, z⟩
  | next =>
    obtain ⟨σ', H', J, z⟩ := hs
    exact ⟨V.non, H', J.os, J.bare, J.base, J.hok, rfl, z⟩
  | brk =>
    obtain ⟨_, _, _, z⟩ := hs
    exact z.elim
  | cont =>
    obtain ⟨_, _, _, z⟩ := hs
    exact z.elim
end

/-! ### calls -/
section
variable {k : Nat} {f C : Addr} {fd : FuncData} {ps : List Str} {g : List D → M D} {x mn : Str} {p pos apos : Pos} {e o : Expr} {es : List Expr} {fs : Env → M (List D)} {fo : Env → M D}
theorem run_df {pins : List (Addr × Obj)} {σ : L2.St} {H : Hp} {s : Shared} {us : List Value} {vs : List V} {ds : List D} {ι : List Addr} {m : Mem} {G : Hp} {Q : VK} (F : Df X.prog X.w X.K X.mg X.base L k f fd ps g) (hr : Room k X.A) (hg : X.A.guards = some []) (hb : Binds X.K fd ps []) (tk : L2N.Takes X Wx)
    (I : Inv X pins σ H s) (r : Vals vs us) (hl : vs.length = ps.length) (wm : W L ι m G H) (rl : RepL L G ι vs ds) (q : PV L (fun c d H => Wx c d σ H) ι G H (g ds m) Q) : wpAny (model X.prog X.w) X.A (call (.ref f) us) (EP X pins σ Q) X.xe s := by
  have hb' := hb s us I.kIn (by rw [List.append_nil, ← r.length]; exact hl)
  rw [List.append_nil] at hb'
  refine wpAny_call (codeAny_mono (F.go X.A X.stack s H ⟨us, []⟩ us vs ds ι m G Q _ hr hg I.env0 hb' r hl wm rl q) fun res s' hq => ?_)
  cases res with
  | error e => exact L2N.passAt tk σ pins H s e s' I hq
  | ok fl =>
    cases fl with
    | ret u => exact I.after hq
    | next => exact hq.elim
    | brk => exact hq.elim
    | cont => exact hq.elim
/-- the arguments' values, their number told -/
theorem sa_run {Q : VK} {σ : L2.St} {H : Hp} {env : Env} {ι : List Addr} {m : Mem} {G : Hp} {h : List D → M D} (hA : SA X L Wx es fs) (w : W L ι m G H) (rr : RepE L G ι σ env) (q : PV L (fun c d H => Wx c d σ H) ι G H ((fs env >>= h) m) Q) :
    ∃ t, PA X es t ∧ t σ H (fun vs H1 => ∃ l m1 ι1 G1, vs.length = es.length ∧ Le ι G H ι1 G1 H1 ∧ W L ι1 m1 G1 H1 ∧ RepL L G1 ι1 vs l ∧ PV L (fun c d H => Wx c d σ H) ι1 G1 H1 (h l m1) Q) := by
  obtain ⟨⟨t, p, ha⟩, hl, _, _⟩ := hA
  refine ⟨t, p, ?_⟩
  have q0 := Post.bind q
  refine ha σ H _ env ι m G w rr ?_
  cases ef : fs env m with
  | bad => rw [ef] at q0; exact q0
  | exn y m1 => rw [ef] at q0; exact q0
  | ok l m1 =>
    rw [ef] at q0
    exact fun ι1 G1 H1 l1 w1 vs rv => ⟨l, m1, ι1, G1, by rw [rv.length, hl env m l m1 ef], l1, w1, rv, q0 ι1 G1 H1 l1 w1⟩
theorem se_call (F : Df X.prog X.w X.K X.mg X.base L k f fd ps g) (hr : Room k X.A) (hg : X.A.guards = some []) (hgl : Gl X x) (hm : X.mg x = some (.ref f)) (hk : PySem.W.keepIn X.K (.ref f) = true) (hb : Binds X.K fd ps []) (tk : L2N.Takes X Wx) (ha : SA X L Wx (e :: es) fs) (hl : (e :: es).length = ps.length)
    (hdb : (x == ("__debug__" : Str)) = false) : SE X L Wx (.Call (.Name x p) (e :: es) [] pos) (fun env => do let l ← fs env; g l) := by
  refine ⟨cE L Wx _, ⟨fun pins s σ H Q I ⟨env, ι, m, G, w, rr, q⟩ => ?_⟩, re_c⟩
  obtain ⟨t, pa, ht⟩ := sa_run ha w rr q
  have hst := ha.star e es rfl
  have hpl : (backTo pos (starEach es X.env)).any (·.1) = false := by
    have := ha.plain pos
    rw [hst] at this
    exact (Bool.or_eq_false_iff.mp this).2
  refine wpAny_Call_Name_kw (ld_glob I hgl hm ?_ hdb)
  refine PySem.W.callWith_K (h₀ := X.base) I.ok.mod.kin hk (thn (pa.run pos pins s σ H _ I ht) fun us s1 hh => ?_) hst hpl
  obtain ⟨vs, H1, I1, r, l, m1, ι1, G1, n, _, w1, rl, q1⟩ := hh
  exact ⟨I1.kIn, run_df F hr hg hb tk I1 r (n.trans hl) w1 rl q1⟩
theorem se_call0 (F : Df X.prog X.w X.K X.mg X.base L k f fd [] g) (hr : Room k X.A) (hg : X.A.guards = some []) (hgl : Gl X x) (hm : X.mg x = some (.ref f)) (hk : PySem.W.keepIn X.K (.ref f) = true) (hb : Binds X.K fd [] []) (tk : L2N.Takes X Wx)
    (hdb : (x == ("__debug__" : Str)) = false) : SE X L Wx (.Call (.Name x p) [] [] pos) (fun env => g []) := by
  refine ⟨cE L Wx _, ⟨fun pins s σ H Q I ⟨env, ι, m, G, w, rr, q⟩ => ?_⟩, re_c⟩
  refine wpAny_Call_Name_kw (ld_glob I hgl hm ?_ hdb)
  exact PySem.W.callWith_K0 I.kIn hk (run_df (us := []) (vs := []) F hr hg hb tk I .nil rfl w .nil q)

/-! a method -/
def insC (m : Mem) (d : D) (c : Nat) (mn : Str) : Bool := match insV m d with
  | some (c', fs, _) => c' == c && !(fs.contains mn)
  | none => false
theorem zip_no {mn : Str} : ∀ {fs : List Str} {us : List V}, fs.contains mn = false → (fs.zip us).lookup mn = none
  | [], _, _ => rfl
  | f :: fs, [], _ => rfl
  | f :: fs, u :: us, h => by
    rw [List.contains_cons, Bool.or_eq_false_iff] at h
    rw [List.zip_cons_cons, List.lookup_cons, h.1]
    exact zip_no h.2
theorem insC_ok {ι : List Addr} {G H : Hp} {m : Mem} {v : V} {d : D} {c : Nat} (w : W L ι m G H) (r : Rep L G ι v d) (h : insC m d c mn = true) : ∃ a dx fs, v = .ref a ∧ H a = some (.ins (L.cA c) dx fs) ∧ fs.lookup mn = none := by
  unfold insC at h
  cases e : insV m d with
  | none => rw [e] at h; cases h
  | some t =>
    obtain ⟨c', fs, vs⟩ := t
    rw [e] at h
    obtain ⟨h1, h2⟩ := Bool.and_eq_true_iff.mp h
    have h1 := beq_iff_eq.mp h1
    subst h1
    obtain ⟨a, dx, us, rfl, h3, _, _⟩ := view_ins w r e
    exact ⟨a, dx, _, rfl, h3, zip_no (by simpa using h2)⟩
def methD (c : Nat) (mn : Str) (d : D) (k : M D) : M D := fun m => if insC m d c mn then k m else .bad
theorem se_meth {c : Nat} {pl : Sem Bool} (ho : SE X L Wx o fo) (hc : Cls X.K (L.cA c)) (hmt : Meth X.K (L.cA c) mn f) (F : Df X.prog X.w X.K X.mg X.base L k f fd ps g) (hr : Room k X.A) (hg : X.A.guards = some []) (hb : Binds X.K fd ps []) (tk : L2N.Takes X Wx) (ha : SA X L Wx (e :: es) fs) (hl : (e :: es).length + 1 = ps.length)
    (ht : eval (.Call (.Attribute o mn apos) (e :: es) [] pos) X.env = (do
      let ov ← eval o X.env
      standAt apos.atName
      let (f, first) ← holding [ov] (getMethod ov mn pl)
      callWith pos f first (backTo pos (starEach (e :: es) X.env)) (backToKw pos (keywordEach [] X.env)))) :
    SE X L Wx (.Call (.Attribute o mn apos) (e :: es) [] pos) (fun env => do let d ← fo env; methD c mn d (do let l ← fs env; g (d :: l))) := by
  refine ⟨cE L Wx _, ⟨fun pins s σ H Q I ⟨env, ι, m, G, w, rr, q⟩ => ?_⟩, re_c⟩
  have hst := ha.star e es rfl
  have hpl : (backTo pos (starEach es X.env)).any (·.1) = false := by
    have := ha.plain pos
    rw [hst] at this
    exact (Bool.or_eq_false_iff.mp this).2
  refine PySem.W.methodCall_KW (pl := pl) (thn (ho.pe.run pins s σ H _ I ⟨env, ι, m, G, w, rr, Post.imp (Post.bind q) fun d m1 ι1 G1 H1 l1 w1 q1 v rv => (⟨d, m1, ι1, G1, l1, w1, rv, q1⟩ : ∃ d m1 ι1 G1, Le ι G H ι1 G1 H1 ∧ W L ι1 m1 G1 H1 ∧ Rep L G1 ι1 v d ∧
    PV L (fun c d H => Wx c d σ H) ι1 G1 H1 (methD c mn d (do let l ← fs env; g (d :: l)) m1) Q)⟩) fun u s1 hh => ?_) ht
  obtain ⟨v, H1, I1, ru, d, m1, ι1, G1, l1, w1, rv, q1⟩ := hh
  unfold methD at q1
  by_cases hi : insC m1 d c mn = true
  case neg => rw [if_neg hi] at q1; exact q1.elim
  rw [if_pos hi] at q1
  obtain ⟨a, dx, fs', rfl, h1, h2⟩ := insC_ok w1 rv hi
  obtain rfl : u = Value.ref a := ru
  obtain ⟨t, pa, h3⟩ := sa_run ha w1 (rr.le l1) q1
  refine getmeth_ok I1 h1 hc hmt h2 ?_
  refine PySem.W.callWith_K (first := [.ref a]) (h₀ := X.base) I.ok.mod.kin hmt.kp (thn (pa.run pos pins s1 σ H1 _ I1 h3) fun us s2 hh2 => ?_) hst hpl
  obtain ⟨vs, H2, I2, r, l, m2, ι2, G2, n, l2, w2, rl, q2⟩ := hh2
  exact ⟨I2.kIn, run_df (us := .ref a :: us) (vs := .ref a :: vs) F hr hg hb tk I2 (.cons rfl r) (by rw [List.length_cons, n]; exact hl) w2 (.cons (rv.le l2) rl) q2⟩
theorem se_meth0 {c : Nat} {pl : Sem Bool} (ho : SE X L Wx o fo) (hc : Cls X.K (L.cA c)) (hmt : Meth X.K (L.cA c) mn f) (F : Df X.prog X.w X.K X.mg X.base L k f fd ps g) (hr : Room k X.A) (hg : X.A.guards = some []) (hb : Binds X.K fd ps []) (tk : L2N.Takes X Wx) (hl : 1 = ps.length)
    (ht : eval (.Call (.Attribute o mn apos) [] [] pos) X.env = (do
      let ov ← eval o X.env
      standAt apos.atName
      let (f, first) ← holding [ov] (getMethod ov mn pl)
      callWith pos f first (backTo pos (starEach [] X.env)) (backToKw pos (keywordEach [] X.env)))) :
    SE X L Wx (.Call (.Attribute o mn apos) [] [] pos) (fun env => do let d ← fo env; methD c mn d (g [d])) := by
  refine ⟨cE L Wx _, ⟨fun pins s σ H Q I ⟨env, ι, m, G, w, rr, q⟩ => ?_⟩, re_c⟩
  refine PySem.W.methodCall_KW (pl := pl) (thn (ho.pe.run pins s σ H _ I ⟨env, ι, m, G, w, rr, Post.imp (Post.bind q) fun d m1 ι1 G1 H1 l1 w1 q1 v rv => (⟨d, m1, ι1, G1, l1, w1, rv, q1⟩ : ∃ d m1 ι1 G1, Le ι G H ι1 G1 H1 ∧ W L ι1 m1 G1 H1 ∧ Rep L G1 ι1 v d ∧
    PV L (fun c d H => Wx c d σ H) ι1 G1 H1 (methD c mn d (g [d]) m1) Q)⟩) fun u s1 hh => ?_) ht
  obtain ⟨v, H1, I1, ru, d, m1, ι1, G1, l1, w1, rv, q1⟩ := hh
  unfold methD at q1
  by_cases hi : insC m1 d c mn = true
  case neg => rw [if_neg hi] at q1; exact q1.elim
  rw [if_pos hi] at q1
  obtain ⟨a, dx, fs', rfl, h1, h2⟩ := insC_ok w1 rv hi
  obtain rfl : u = Value.ref a := ru
  refine getmeth_ok I1 h1 hc hmt h2 ?_
  exact PySem.W.callWith_K0 (first := [.ref a]) I1.kIn hmt.kp (run_df (us := [.ref a]) (vs := [.ref a]) F hr hg hb tk I1 (.cons rfl .nil) hl w1 (.cons rv .nil) q1)

/-! a new instance -/
def mkI (c : Nat) (fr : Bool) (g : List D → M D) (l : List D) : M D := fun m => match g (.ref m.length :: l) (m ++ [.ins c [] []]) with
  | .ok .non m' => if fr then (match m'[m.length]? with
      | some (.ins c' fs vs) => .ok (.ins c' fs vs) (m'.set m.length .dead)
      | _ => .bad) else .ok (.ref m.length) m'
  | .exn x m' => .exn x m'
  | _ => .bad
theorem run_mkI {c : Nat} {fr : Bool} {pins : List (Addr × Obj)} {σ : L2.St} {H : Hp} {s : Shared} {us : List Value} {vs : List V} {ds : List D} {ι : List Addr} {m : Mem} {G : Hp} {Q : VK} (M : Mk X.K (L.cA c) f) (F : Df X.prog X.w X.K X.mg X.base L k f fd ps g) (hr : Room (k + 1) X.A) (hg : X.A.guards = some []) (hb : Binds X.K fd ps []) (tk : L2N.Takes X Wx)
    (I : Inv X pins σ H s) (r : Vals vs us) (hl : vs.length + 1 = ps.length) (wm : W L ι m G H) (rl : RepL L G ι vs ds) (q : PV L (fun c d H => Wx c d σ H) ι G H (mkI c fr g ds m) Q) : wpAny (model X.prog X.w) X.A (call (.ref (L.cA c)) us) (EP X pins σ Q) X.xe s := by
  have I2 := Inv.made (C := L.cA c) I
  have n1 : H (s.heap.objs.size + 1) = none := I.hok.fresh (Nat.le_succ _)
  have n2 : H s.heap.objs.size = none := I.hok.fresh (Nat.le_refl _)
  have n3 : s.heap.objs.size ≠ s.heap.objs.size + 1 := Nat.ne_of_lt (Nat.lt_succ_self _)
  generalize hxa : s.heap.objs.size + 1 = xa at *
  generalize hda : s.heap.objs.size = da at *
  have f2 := wm.fresh n2
  have f1 := wm.fresh n1
  have w2 : W L ι m G (upd (upd H da (.own xa)) xa (.ins (L.cA c) da [])) := (wm.beside f2.1 f2.2).beside f1.1 f1.2
  have w3 : W L (ι ++ [xa]) (m ++ [.ins c [] []]) G (upd (upd H da (.own xa)) xa (.ins (L.cA c) da [])) := w2.alloc f1.1 f1.2 upd_same ⟨rfl, [], rfl, rfl, .nil⟩
  have l3 : Le ι G H (ι ++ [xa]) G (upd (upd H da (.own xa)) xa (.ins (L.cA c) da [])) := ((Le.new n2).trans (Le.new (by rw [upd_ne (Ne.symm n3)]; exact n1))).alloc n1
  have hix : (ι ++ [xa])[m.length]? = some xa := by
    rw [List.getElem?_append_right (by rw [wm.len]; exact Nat.le_refl _), wm.len, Nat.sub_self]
    rfl
  have r2 : Vals (V.ref xa :: vs) (Value.ref xa :: us) := .cons rfl r
  have hb' := hb _ (Value.ref xa :: us) I2.kIn (by rw [List.append_nil, ← r2.length]; exact hl)
  rw [List.append_nil] at hb'
  have q2 : PV L (fun c d H => Wx c d σ H) (ι ++ [xa]) G (upd (upd H da (.own xa)) xa (.ins (L.cA c) da [])) (g (.ref m.length :: ds) (m ++ [.ins c [] []])) (fun v H' => v = .non ∧ Q (.ref xa) H') := by
    unfold mkI at q
    cases e : g (.ref m.length :: ds) (m ++ [.ins c [] []]) with
    | bad => rw [e] at q; exact q
    | exn y m' => rw [e] at q; exact Post.later (r := .exn y m') (k := fun d _ ι' G' H' => ∀ v, Rep L G' ι' v d → Q v H') q l3
    | ok d m' =>
      rw [e] at q
      cases d with
      | non =>
        intro ι' G' H' l w' v rv
        refine ⟨by cases rv; rfl, ?_⟩
        have lw := l3.trans l
        have hk : ι'[m.length]? = some xa := pre_get l.pre hix
        cases fr with
        | false =>
          have q' : PV L (fun c d H => Wx c d σ H) ι G H (.ok (.ref m.length) m') Q := q
          exact q' ι' G' H' lw w' _ (.ref hk)
        | true =>
          have q' : PV L (fun c d H => Wx c d σ H) ι G H (match m'[m.length]? with
            | some (.ins c' fs vs) => .ok (.ins c' fs vs) (m'.set m.length .dead)
            | _ => .bad) Q := q
          cases e2 : m'[m.length]? with
          | none => rw [e2] at q'; exact q'.elim
          | some ob =>
            rw [e2] at q'
            cases ob with
            | ins c' fs vs' =>
              obtain ⟨u, h1, h2⟩ := w'.cell _ _ _ hk e2 trivial
              cases u <;> try exact h2.elim
              obtain ⟨rfl, us', rfl, hl', rl'⟩ := h2
              have gn := w'.out _ _ _ hk e2 trivial
              have hmem : xa ∈ ι' := List.mem_of_getElem? hk
              exact q' ι' _ H' (lw.trans (Le.kill hmem gn)) (w'.kill hk e2 trivial h1) _ (.ins upd_same hl' (rl'.mono (upd_gle gn) (List.prefix_refl _)))
            | _ => exact q'.elim
      | _ => exact q.elim
  subst hda
  subst hxa
  refine wpAny_call (make_map (f := f) I.kIn M.makes M.init (beq_iff_eq.mp M.fn) (codeAny_mono (F.go _ X.stack _ _ ⟨Value.ref (s.heap.objs.size + 1) :: us, []⟩ (Value.ref (s.heap.objs.size + 1) :: us) _ _ _ _ _ _ _ (hr.make (L.cA c) us []) ?_ (I2.env0.make (L.cA c) us []) hb' r2 (by rw [List.length_cons]; exact hl) w3 (.cons (.ref hix) (rl.le l3)) q2) fun res s' hq => ?_))
  · simp only [Around.under, Code.guards, Code.isGuard, guardIds, hg]
    rfl
  · cases res with
    | error e => exact L2N.passAt tk σ pins _ _ e s' I2 hq
    | ok fl =>
      cases fl with
      | ret u =>
        obtain ⟨v, H', I3, rv, ev, q3⟩ := I2.after hq
        subst ev
        exact ⟨rv, ⟨V.ref (s.heap.objs.size + 1), H', I3, rfl, q3⟩⟩
      | next => exact hq.elim
      | brk => exact hq.elim
      | cont => exact hq.elim
theorem se_make {c : Nat} {fr : Bool} (M : Mk X.K (L.cA c) f) (F : Df X.prog X.w X.K X.mg X.base L k f fd ps g) (hr : Room (k + 1) X.A) (hg : X.A.guards = some []) (hgl : Gl X x) (hm : X.mg x = some (.ref (L.cA c))) (hb : Binds X.K fd ps []) (tk : L2N.Takes X Wx) (ha : SA X L Wx (e :: es) fs) (hl : (e :: es).length + 1 = ps.length)
    (hdb : (x == ("__debug__" : Str)) = false) : SE X L Wx (.Call (.Name x p) (e :: es) [] pos) (fun env => do let l ← fs env; mkI c fr g l) := by
  refine ⟨cE L Wx _, ⟨fun pins s σ H Q I ⟨env, ι, m, G, w, rr, q⟩ => ?_⟩, re_c⟩
  obtain ⟨t, pa, ht⟩ := sa_run ha w rr q
  have hst := ha.star e es rfl
  have hpl : (backTo pos (starEach es X.env)).any (·.1) = false := by
    have := ha.plain pos
    rw [hst] at this
    exact (Bool.or_eq_false_iff.mp this).2
  refine wpAny_Call_Name_kw (ld_glob I hgl hm ?_ hdb)
  refine PySem.W.callWith_K (h₀ := X.base) I.ok.mod.kin M.kp (thn (pa.run pos pins s σ H _ I ht) fun us s1 hh => ?_) hst hpl
  obtain ⟨vs, H1, I1, r, l, m1, ι1, G1, n, _, w1, rl, q1⟩ := hh
  exact ⟨I1.kIn, run_mkI M F hr hg hb tk I1 r (by rw [n]; exact hl) w1 rl q1⟩
theorem se_make0 {c : Nat} {fr : Bool} (M : Mk X.K (L.cA c) f) (F : Df X.prog X.w X.K X.mg X.base L k f fd ps g) (hr : Room (k + 1) X.A) (hg : X.A.guards = some []) (hgl : Gl X x) (hm : X.mg x = some (.ref (L.cA c))) (hb : Binds X.K fd ps []) (tk : L2N.Takes X Wx) (hl : 1 = ps.length)
    (hdb : (x == ("__debug__" : Str)) = false) : SE X L Wx (.Call (.Name x p) [] [] pos) (fun env => mkI c fr g []) := by
  refine ⟨cE L Wx _, ⟨fun pins s σ H Q I ⟨env, ι, m, G, w, rr, q⟩ => ?_⟩, re_c⟩
  refine wpAny_Call_Name_kw (ld_glob I hgl hm ?_ hdb)
  exact PySem.W.callWith_K0 I.kIn M.kp (run_mkI (us := []) (vs := []) M F hr hg hb tk I .nil hl w .nil q)
end
end Eng

set_option maxRecDepth 100000
set_option maxHeartbeats 4000000
namespace Eng
open PySem PySem.Spec PyProof.Rows L2
/-! ### super().__init__(x); self.f = x in an own error over ValueError -/
/-- the written part's word on such an __init__ -/
structure SupC (prog : Program) (K : PySem.W.Frag) (mg : Str → Option Value) (C f : Addr) (fd : FuncData) (a1 a2 fl : Str) : Prop where
  ox : OexC K C
  lk : ∃ oc od osl, K.lookup f = some ⟨oc, od, .func fd, osl⟩
  fn : ∃ (name qual : Str) (params : Arguments) (scope : Scope) (dV kV doc pm ct : Value) (an : Option Addr) (cc cda : Addr) (ar : PySem.Arg) (p0 p1 p2 p3 p4 p5 p6 p7 p8 p9 : Pos) (vs : Array Value) (file : Str) (tf : Tok) (cd : ClassData) (q1 q2 : Value) (q3 q4 : Option Addr) (q5 q6 : Array (Option Value)),
    fd = PySem.W.ksFn name qual params [.Expr (.Call (.Attribute (.Call (.Name "super" p0) [] [] p1) "__init__" p2) [.Name a2 p3] [] p4) p5, .Assign [.Attribute (.Name a1 p6) fl p7] (.Name a2 p8) p9] scope dV kV doc pm an (.ref cda) ct cc ∧
    PySem.W.codeIn K (.ref cda) qual = true ∧ K.lookup cda = some ⟨q1, q3, .fields vs, q5⟩ ∧ vs[2]? = some (.str file tf) ∧ ((prog.main.file : Str) == file) = true ∧ K.lookup cc = some ⟨q2, q4, .cell (some (.ref C)), q6⟩ ∧
    PySem.W.clsIn K C = some cd ∧ PySem.W.alongIn K "__init__" ((cd.mro.dropWhile (· != .ref C)).drop 1) = some (some (.builtin "ValueError.__init__")) ∧
    (params.posonlyargs ++ params.args).head? = some ar ∧ ar.arg = a1 ∧ scope.kind = .function ∧ scope.isCoroutine = false ∧ scope.isGenerator = false ∧ (∀ x ∈ scope.names, x.2 ≠ .cell) ∧ scope.names.lookup a1 = some .local ∧ scope.names.lookup a2 = some .local ∧
    scope.names.lookup ("super" : Str) = some .globalImplicit ∧ scope.names.lookup ("__class__" : Str) = some .free ∧
    (∀ L, swapsWith (.Call (.Attribute (.Call (.Name "super" p0) [] [] p1) "__init__" p2) [.Name a2 p3] [] p4) none p5.line (PySem.W.ksEnv qual scope L f (.ref cda) cc) = pure false) ∧
    (∀ L, swapsWith (.Name a2 p8) (some (.Attribute (.Name a1 p6) fl p7)) p9.line (PySem.W.ksEnv qual scope L f (.ref cda) cc) = pure false) ∧
    ∃ pl : Sem Bool, ∀ L, eval (.Call (.Attribute (.Call (.Name "super" p0) [] [] p1) "__init__" p2) [.Name a2 p3] [] p4) (PySem.W.ksEnv qual scope L f (.ref cda) cc) = (do
      let ov ← attributeBase (.Call (.Name "super" p0) [] [] p1) "__init__" (PySem.W.ksEnv qual scope L f (.ref cda) cc) (eval (.Call (.Name "super" p0) [] [] p1) (PySem.W.ksEnv qual scope L f (.ref cda) cc))
      standAt p2.atName
      let (f', first) ← holding [ov] (getMethod ov "__init__" pl)
      callWith p4 f' first (backTo p4 (starEach [.Name a2 p3] (PySem.W.ksEnv qual scope L f (.ref cda) cc))) [])
  self : PySem.W.mroIn K C (.ref C) = some true
  sub : PySem.W.subIn K (.ref C) (.type "ValueError") = some true
  noSup : mg "super" = none
  stat : PySem.W.nsIn K cStatics "thirdparty.any" = some none
  top : (prog.main.scope.names.lookup ("super" : Str)).isSome = false
  noF : PySem.W.findIn K (.ref C) fl = some none
  ne : a1 ≠ a2
  d1 : (a1 == ("__debug__" : Str)) = false
  d2 : (a2 == ("__debug__" : Str)) = false
section
open PySem.W
variable {prog : Program} {w : World} {A : Around} {E : Value → Shared → Prop} {hh : Heap} {g : Array GenState} {d : Drawn} {tk : Nat} {os : OsState}
theorem call_mw {u x C t0 N : Addr} {nm q : Str} {bs bm : List Value} {sn : List Str} {sub : List Value} {ab : Bool} {col : Option Bool} {dd : Option Addr} {k0 k1 k2 k3 k5 : Option Value} {rest : List Value} {Q : Value → Shared → Prop} (hu : hh.get? u = some (kxs_mw "ValueError.__init__" x)) (hC : hh.get? C = some (excClassObj nm q C N bs bm true sn sub ab col dd k0 k1 k2 k3 k5 "ValueError.__new__"))
    (he : hh.get? x = some (PySem.HandSPX.excO C t0)) (hz : rest.length ≤ sizeLine)
    (hQ : ∀ h' t1, (∀ b o, b ≠ x → hh.get? b = some o → h'.get? b = some o) → h'.get? x = some (PySem.HandSPX.excO C t1) → Q .none ⟨h', g, d, tk, os⟩) : wpAny (model prog w) A (call (.ref u) rest) Q E ⟨hh, g, d, tk, os⟩ := by
  have FB := F.excBase_ValueError
  refine wpAny_call (codeAny_of_tree ?_)
  show wpAny _ A.in1 (callAny (.ref u) ⟨rest, []⟩) _ _ _
  simp only [callAny]
  refine wpAny_bind (wpAny_load hu ?_)
  simp only [kxs_mw, show (Value.type "method-wrapper" == Value.type "method" || Value.type "method-wrapper" == Value.type "builtin_function_or_method" || Value.type "method-wrapper" == Value.type "method-wrapper") = true by decide, if_true]
  refine KFB.if_so (by decide) ?_
  refine wpAny_bind (check_bound_init FB.toExcCallFacts hC he rfl ?_)
  refine wpAny_bind (wpAny_pure (wpAny_pure ⟨plainId_quiet FB.init.plain _, codeAny_builtin FB.initEntry ?_⟩))
  exact exc_init_tree (cls := .ref C) (t0 := t0) (dv := none) (c2 := .none) (c3 := .none) (b4 := .bool false) he hz fun h' k1 k2 _ => hQ h' _ k1 k2
end
def spSup (K : PySem.W.Frag) (C : Addr) (fl : Str) : Sp := fun vs H Q _ => ∃ a y, vs = [.ref a, y] ∧ H a = some (exo a C none) ∧ ∀ dx, H dx = none → dx ≠ a → Q .non (upd (upd H dx (exd dx [(fl, y)])) a (exo a C (some dx)))
theorem sup_ok {P : Program} {w : World} {K : PySem.W.Frag} {mg : Str → Option Value} {base : Heap} {C f : Addr} {fd : FuncData} {a1 a2 fl : Str} {CX : CXT} (S : SupC P K mg C f fd a1 a2 fl) : FnOk P w K mg base CX 1 f fd [a1, a2] (spSup K C fl) := by
  refine ⟨fun vs H Q E ⟨_, _, e, _⟩ => by rw [e]; rfl, fun A outer s H args us vs Q E hr e0 hb r hsp => ?_⟩
  obtain ⟨a, y, rfl, ha, hq⟩ := hsp
  obtain ⟨oc, od, osl, lk⟩ := S.lk
  obtain ⟨name, qual, params, scope, dV, kV, doc, pm, ct, an, cc, cda, ar, p0, p1, p2, p3, p4, p5, p6, p7, p8, p9, tvs, file, tf, cd, q1, q2, q3, q4, q5, q6, rfl, hcd, hcode, hvs, hfile, hcell, hcls, hal, hhd, rfl, hkf, hco, hgen, hnc, hl1, hl2, hsu, hcl, hsx, hsw, pl, hev⟩ := S.fn
  obtain ⟨nm, q, N, bs, bm, sn, sub, ab, col, dd, k0, k1, k2, k3, k5, hC, hbm⟩ := S.ox.cls
  have kx : K.In s.heap := e0.mod.kin.keeps fun b o e => (e0.bs b o e).1
  have noLim : s.heap.NoLimit := e0.mod.nolimit.keeps fun b o e => (e0.bs b o e).1
  obtain ⟨t1, hobj⟩ := exo_at e0.hok ha
  obtain ⟨u1, u2, rfl, r1, r2⟩ : ∃ u1 u2, us = [u1, u2] ∧ RelV (.ref a) u1 ∧ RelV y u2 := by
    cases r with
    | cons x z =>
      cases z with
      | cons x' z' =>
        cases z'
        exact ⟨_, _, rfl, x, x'⟩
  obtain rfl : u1 = Value.ref a := r1
  have alt : a < s.heap.objs.size := Heap.lt_size hobj
  refine PySem.ks_codeAny_call_defAt (fd := PySem.W.ksFn name qual params _ scope dV kV doc pm an (.ref cda) ct cc) (body := _) hr.depth (kx _ _ lk) rfl noLim (PySem.W.codeRec_of kx hcd) rfl hb hnc (fun x hx => ?_) (fun h0 hns hk0 => ?_) hco hgen hkf
  · rcases List.mem_cons.mp hx with z | z
    · rw [z]; exact hl1
    · rw [List.mem_singleton.mp z]; exact hl2
  have lf : ∀ {h : Heap}, (∀ b o, s.heap.get? b = some o → h.get? b = some o) → K.In h := fun k => kx.keeps k
  have m1 : ([(ar.arg, Value.ref a), (a2, u2)] : List (Str × Value)).reverse.lookup ar.arg = some (.ref a) := by
    show List.lookup ar.arg [(a2, u2), (ar.arg, Value.ref a)] = _
    rw [List.lookup_cons, show (ar.arg == a2) = false from beq_eq_false_iff_ne.mpr S.ne, List.lookup_cons, beq_self_eq_true]
  have m2 : ([(ar.arg, Value.ref a), (a2, u2)] : List (Str × Value)).reverse.lookup a2 = some u2 := by
    show List.lookup a2 [(a2, u2), (ar.arg, Value.ref a)] = _
    rw [List.lookup_cons, beq_self_eq_true]
  have hz : ([ar.arg, a2].zip [Value.ref a, u2]) = [(ar.arg, Value.ref a), (a2, u2)] := rfl
  rw [hz] at hns
  have I0 : PySem.W.InstAt h0 a _ C none := ⟨hk0 _ _ hobj, rfl, rfl, trivial⟩
  obtain ⟨oD, hD1, hD2⟩ : ∃ oD, h0.get? C = some oD ∧ oD.data = .cls cd := by
    have X := lf hk0
    unfold PySem.W.clsIn at hcls
    split at hcls
    · rename_i c' d' cd' sl ho
      cases hcls
      exact ⟨_, X _ _ ho, rfl⟩
    · cases hcls
  obtain ⟨mb, hb1, hb2⟩ := e0.mod.blt
  have kb : ∀ b o, base.get? b = some o → h0.get? b = some o := fun b o e => hk0 b o (e0.bs b o e).1
  show PySem.wpAt (model P w) (A.deeper (PySem.W.ksEnv qual scope s.heap.objs.size f (.ref cda) cc)) (.func _ (PySem.W.ksEnv qual scope s.heap.objs.size f (.ref cda) cc)) (execs _ (PySem.W.ksEnv qual scope s.heap.objs.size f (.ref cda) cc)) _ _ _
  refine PySem.ks_wpAt_execs_cons (PySem.ks_wpAt_Expr_any (PySem.ks_wpAt_MethodCall (pl := pl) ?_ (hev _)) (by simp [interactive, hkf]) (hsx _))
  · refine PySem.ks_wpAt_super_base (env := PySem.W.ksEnv qual scope s.heap.objs.size f (.ref cda) cc) hsu hcl (by decide +kernel) rfl (lf hk0 _ _ lk) rfl hhd rfl (lf hk0 _ _ hcode) rfl hvs hfile S.top ?_
    refine PySem.W.ks_loadName_global hkf hsu (Calls.loadGlobal_builtin (env := PySem.W.ksEnv qual scope s.heap.objs.size f (.ref cda) cc) (e0.mod.glob.keeps kb) S.noSup (hb1.keeps kb) ((hb2 _ (by decide)).trans (by decide +kernel : bootBuiltins "super" = some (.type "super"))) ⟨rfl, ?_⟩)
    refine wpAny_loadName_free hkf hcl rfl ⟨_, lf hk0 _ _ hcell, rfl⟩ ?_
    refine wpAny_loadName_local hkf hl1 hns m1 ?_
    refine PySem.ks_wpAny_isType_cls hD1 hD2 ⟨rfl, ?_⟩
    refine PySem.ks_wpAny_call_super hD1 hD2 I0.at_ I0.cls (fun c e => nomatch e) (PySem.W.looks_mroIn (lf hk0) S.self) (fun h1 hso hk1 => ?_)
    dsimp only
    have hk2 : ∀ b o, s.heap.get? b = some o → h1.get? b = some o := fun b o e => hk1 b o (hk0 b o e)
    have I1 : PySem.W.InstAt h1 a _ C none := ⟨hk2 _ _ hobj, rfl, rfl, trivial⟩
    refine PySem.W.kxs_getMethod PySem.W.kxs_ValueError hso (PySem.W.looks_opaque (lf hk2) S.stat) (l₀ := cd.mro) (fun A Q E s k q => wpAny_bind ((PySem.W.looks_clsIn (lf hk2) hcls) A _ E s k (wpAny_pure q))) rfl (lf hk2) hal (I1.type.andThen (PySem.W.looks_subIn (lf hk2) S.sub)) (PySem.W.ks_ne (lf hk2) I1 hcls) (by decide +kernel) ?_
    have hk3 : ∀ b o, s.heap.get? b = some o → (h1.push (PySem.W.kxs_mw "ValueError.__init__" a)).get? b = some o := fun b o e => Heap.get?_push_of_some _ (hk2 b o e)
    have hmw : (h1.push (PySem.W.kxs_mw "ValueError.__init__" a)).get? h1.objs.size = some (PySem.W.kxs_mw "ValueError.__init__" a) := Heap.get?_push_size _ rfl
    have hns3 : (h1.push (PySem.W.kxs_mw "ValueError.__init__" a)).Ns s.heap.objs.size (fun x => ([(ar.arg, Value.ref a), (a2, u2)] : List (Str × Value)).reverse.lookup x) := hns.keeps fun b o e => Heap.get?_push_of_some _ (hk1 b o e)
    refine PySem.W.kxs_callWith (i := "ValueError.__init__") (x := a) rfl (Calls.evalArgs_plain (Calls.spliced_cons (wpAny_Name (wpAny_loadName_local hkf hl2 hns3 m2 (Calls.spliced_nil ⟨hmw, ?_⟩)) S.d2)))
    refine call_mw hmw ((lf hk3) _ _ hC) (hk3 _ _ hobj) (by show 1 ≤ sizeLine; decide) fun h4 t2 hk4 hx4 => ?_
    have hk5 : ∀ b o, b ≠ a → s.heap.get? b = some o → h4.get? b = some o := fun b o n e => hk4 b o n (hk3 b o e)
    have aC : a ≠ C := PySem.W.ks_ne (lf hk2) I1 hcls
    have lt : a ≠ s.heap.objs.size := Nat.ne_of_lt alt
    have hns4 : h4.Ns s.heap.objs.size (fun x => ([(ar.arg, Value.ref a), (a2, u2)] : List (Str × Value)).reverse.lookup x) := by
      obtain ⟨oL, es, ep, z1, z2⟩ := hns3
      exact ⟨oL, es, ep, hk4 _ _ (Ne.symm lt) z1, z2⟩
    have noK : K.lookup a = none := by
      cases z : K.lookup a with
      | none => rfl
      | some ob =>
        have z2 := (e0.bs a ob (e0.mod.kin a ob z)).2
        rw [ha] at z2
        cases z2
    have K4 : K.In h4 := fun b o e => hk5 b o (fun z => by rw [z, noK] at e; cases e) (kx b o e)
    refine PySem.ks_wpAt_execs_cons (PySem.ks_wpAt_Assign_Attr ?_ (hsw _))
    refine wpAt_of_wpAny (wpAny_Name (wpAny_loadName_local hkf hl2 hns4 m2 ?_) S.d2)
    refine wpAny_Name (wpAny_loadName_local hkf hl1 hns4 m1 ?_) S.d1
    have hcl2 : PySem.W.clsIn K C = some { name := nm, bases := bs, mro := .ref C :: bm, ns := N, qualname := q, hasDict := true, slotNames := sn, subclasses := sub, abstract := ab, collection := col, hasDel := false } := by
      unfold PySem.W.clsIn
      rw [hC] <;> rfl
    refine PySem.W.set_plain K4 (ox := PySem.HandSPX.excO C t2) (od := none) ⟨hx4, rfl, rfl, trivial⟩ S.ox.sa ?_
    refine PySem.HandSPX.exc_osa K4 hx4 hcl2 (show PySem.HandSPX.refsVE (.ref C :: bm) = true from hbm) rfl S.noF (fun h' tk' dx k dn dne hx hn => ?_)
    have big : s.heap.objs.size ≤ dx := by
      have z0 : h4.objs.size ≤ dx := dn
      have z2 : s.heap.objs.size < h4.objs.size := by
        obtain ⟨oL, es, ep, z1, z2⟩ := hns4
        exact Heap.lt_size z1
      exact Nat.le_trans (Nat.le_of_lt z2) z0
    have hnd : H dx = none := e0.hok.fresh big
    have kk : ∀ b o, b ≠ a → s.heap.get? b = some o → h'.get? b = some o := fun b o n e => k b o n (hk5 b o n e)
    have nd : ∀ {b : Addr} {o : Obj}, s.heap.get? b = some o → b ≠ dx := fun {b o} q => Nat.ne_of_lt (Nat.lt_of_lt_of_le (Heap.lt_size q) big)
    have na : ∀ {b : Addr}, H b = none → b ≠ a := fun {b} n z => by
      rw [z, ha] at n
      cases n
    refine wpAt_of_wpAny (wpAny_execs_nil ?_)
    show CE outer P w H s Q .none _
    refine ⟨.non, _, rfl, e0.bare, ?_, ?_, rfl, hq dx hnd dne⟩
    · exact {
        keep := fun b o q n _ _ => kk b o (na n) q
        slot := fun b o q n _ _ => ⟨o.slots, kk b o (na n) q⟩
        free := fun b o q n _ => by
          rw [upd_ne (na n), upd_ne (nd q)]
          exact n
        there := fun b o q _ => by
          by_cases hb : b = a
          · exact ⟨_, by rw [hb]; exact hx⟩
          · exact ⟨o, kk b o hb q⟩
        tups := fun b xs q => by
          rw [upd_ne (at_ne ha q exo_tup), upd_ne (ne_of_none q hnd)]
          exact q
        frzs := fun b o v q => by
          rw [upd_ne (at_ne ha q exo_frz), upd_ne (ne_of_none q hnd)]
          exact q
        tbls := fun b ps q => ⟨#[], by
          rw [upd_ne (at_ne ha q exo_tbl), upd_ne (ne_of_none q hnd), q]
          simp⟩ }
    · intro b o q
      by_cases hb : b = a
      · subst hb
        rw [upd_same] at q
        cases q
        exact exo_ok hx
      · rw [upd_ne hb] at q
        by_cases hd : b = dx
        · subst hd
          rw [upd_same] at q
          cases q
          exact exd_ok hn (relO_put (fs := []) r2 fun g => True.intro)
        · rw [upd_ne hd] at q
          refine (e0.hok b o q).stay (fun c v hc z => kk c v ?_ z) (fun c hc => ?_) fun c xs hc => ?_
          · rcases hc with hc | hc
            · rw [hc]
              exact hb
            · exact at_ne ha hc exo_own
          · rw [upd_ne (at_ne ha hc exo_own), upd_ne (ne_of_none hc hnd)]
            exact hc
          · rw [upd_ne (at_ne ha hc exo_tup), upd_ne (ne_of_none hc hnd)]
            exact hc
end Eng

set_option maxRecDepth 100000
set_option maxHeartbeats 4000000
namespace Eng
open PySem PySem.Spec PyProof.Rows L2
variable {L : Lk} {X : Cx} {E : XK} {Wx : WX}

/-! ### raise -/
section
variable {x : Str} {C f : Addr} {bmB : List Value} {B newId initId : String} {p pos : Pos} {e : Expr} {es : List Expr} {ta : TA} {fd : FuncData} {a1 a2 fl : Str}
/-- C() of a class without __init__ -/
theorem pmk_0 (F : ExcBaseFacts B newId initId bmB) (q : PySem.W.excIn X.K C bmB newId = true) (gC : X.mg x = some (.ref C)) (kC : PySem.W.keepIn X.K (.ref C) = true) (r : Raises X (.ref C)) (hg : Gl X x) (hdb : (x == ("__debug__" : Str)) = false) :
    L2N.PMk X (.Call (.Name x p) [] [] pos) (fun _ H Q => Q (.ref C) none H) := by
  intro pins s σ H Q I h
  refine wpAny_Call_Name_kw (ld_glob I hg gC ?_ hdb)
  refine PySem.W.callWith_K0 I.kIn kC ?_
  show wpAny _ _ (call (.ref C) []) _ _ _
  obtain ⟨bm, N, nm, qn, bs, hdct, sn, sub, ab, col, dd, k0, k1, k2, k3, k5, mN, hC, hN, hni, T⟩ := exc_obj I.kIn q
  refine wpAny_call_exc_subT F T hC hN hni (fun h' e hm => ?_) (by show 0 ≤ sizeLine; decide)
  exact L2N.mk_of I hm r h (I.hok.gone hm.new)
/-- C(e) of a class with super().__init__(..); self.f = .. -/
theorem pmk_1 (S : SupC X.prog X.K X.mg C f fd a1 a2 fl) (iC : PySem.W.findIn X.K (.ref C) "__init__" = some (some (.ref f))) (tI : PySem.W.typeIn X.K (.ref f) = some (.type "function")) (hr : Room 2 X.A) (hb : Binds X.K fd [a1, a2] []) (hg : Gl X x) (hm : X.mg x = some (.ref C)) (ha : PA X [e] ta)
    (hdb : (x == ("__debug__" : Str)) = false) (he : starEach [e] X.env = (false, eval e X.env) :: starEach [] X.env) :
    L2N.PMk X (.Call (.Name x p) [e] [] pos) (fun σ H Q => ta σ H fun vs H1 => ∃ y, vs = [y] ∧ ∀ dd, H1 dd = none → Q (.ref C) (some dd) (upd H1 dd (.xd [(fl, y)]))) := by
  intro pins s σ H Q I h
  obtain ⟨nm, q, N, bs, bm, sn, sub, ab, col, dd, k0, k1, k2, k3, k5, hC, hbm⟩ := S.ox.cls
  refine wpAny_Call_Name_kw (ld_glob I hg hm ?_ hdb)
  refine PySem.W.callWith_K (h₀ := X.base) I.ok.mod.kin S.ox.kC (thn (ha.run pos pins s σ H _ I h) fun us s1 hh => ?_) he rfl
  obtain ⟨vs, H1, I1, r1, y, rfl, q1⟩ := hh
  refine ⟨I1.kIn, ?_⟩
  obtain ⟨u, rfl, ru⟩ : ∃ u, us = [u] ∧ RelV y u := by
    cases r1 with
    | cons a b =>
      cases b
      exact ⟨_, rfl, a⟩
  show wpAny _ _ (call (.ref C) [u]) _ _ _
  obtain ⟨hp, g, dr, tk, os⟩ := s1
  have sz1 : hp.objs.size ≤ hp.objs.size + 1 := Nat.le_succ _
  have na : H1 (hp.objs.size + 1) = none := I1.hok.fresh sz1
  have kk : ∀ b o, hp.get? b = some o → ((hp.push (PySem.W.kdv_tup [u])).push (PySem.HandSPX.excO C hp.objs.size)).get? b = some o := fun b o z => Heap.get?_push_of_some _ (Heap.get?_push_of_some _ z)
  have hget : ((hp.push (PySem.W.kdv_tup [u])).push (PySem.HandSPX.excO C hp.objs.size)).get? (hp.objs.size + 1) = some (PySem.HandSPX.excO C hp.objs.size) := by heap_get
  have I2 : Inv X pins σ (upd H1 (hp.objs.size + 1) (exo (hp.objs.size + 1) C none)) ⟨(hp.push (PySem.W.kdv_tup [u])).push (PySem.HandSPX.excO C hp.objs.size), g, dr, tk, os⟩ :=
    I1.laid (t' := tk) (a := hp.objs.size + 1) (o := exo (hp.objs.size + 1) C none) (h' := (hp.push (PySem.W.kdv_tup [u])).push (PySem.HandSPX.excO C hp.objs.size)) kk sz1 (exo_ok hget)
  have b2 := hb _ [Value.ref (hp.objs.size + 1), u] I2.kIn rfl
  rw [List.append_nil] at b2
  have F1 : FnOk X.prog X.w X.K X.mg X.base CX0 1 f fd [a1, a2] (spSup X.K C fl) := sup_ok S
  have sp : spSup X.K C fl [V.ref (hp.objs.size + 1), y] (upd H1 (hp.objs.size + 1) (exo (hp.objs.size + 1) C none)) (fun v H2 => v = .non ∧ ∃ dx, H1 dx = none ∧ dx ≠ hp.objs.size + 1 ∧ H2 = upd (upd (upd H1 (hp.objs.size + 1) (exo (hp.objs.size + 1) C none)) dx (exd dx [(fl, y)])) (hp.objs.size + 1) (exo (hp.objs.size + 1) C (some dx))) (fun _ _ _ => False) :=
    ⟨hp.objs.size + 1, y, rfl, upd_same, fun dx hd ne => ⟨rfl, dx, by rw [upd_ne ne] at hd; exact hd, ne, rfl⟩⟩
  refine wpAny_call (PySem.HandSPX.call_own F.excBase_ValueError (fun Y => PySem.HandSPX.refsVE_contains Y bm hbm) (I1.kIn _ _ hC) (PySem.W.looks_findIn I1.kIn iC) (fun self => PySem.W.bind_fn I1.kIn self tI) (by show 1 ≤ sizeLine; decide)
    (codeAny_mono (F1.run _ X.stack _ _ ⟨[Value.ref (hp.objs.size + 1), u], []⟩ [Value.ref (hp.objs.size + 1), u] _ _ (fun _ _ _ => False) (hr.make C [u] []) (I2.env0.make C [u] []) b2 (.cons (show RelV (V.ref (hp.objs.size + 1)) _ from rfl) (.cons ru .nil)) sp) fun r s' hq' => ?_))
  cases r with
  | error er => exact hq'.elim
  | ok fl' =>
    cases fl' with
    | ret u' =>
      obtain ⟨v, H2, os2, bare2, un2, hok2, rv, ev, dx, hd1, ne, rfl⟩ := hq'
      subst ev
      obtain ⟨h2, g2, d2, t2, os'⟩ := s'
      obtain ⟨t0, G, J, kG, ge, hoe, nn⟩ := mk_end0 (d2 := d2) (t2 := t2) (fs := [(fl, y)]) (d := dx) I1 sz1 kk un2 hok2 os2 bare2 upd_same (by rw [upd_ne ne, upd_same]) hd1
      have eH : upd (del (upd (upd (upd H1 (hp.objs.size + 1) (exo (hp.objs.size + 1) C none)) dx (exd dx [(fl, y)])) (hp.objs.size + 1) (exo (hp.objs.size + 1) C (some dx))) (hp.objs.size + 1)) dx (.xd [(fl, y)]) = upd H1 dx (.xd [(fl, y)]) := by
        funext b
        by_cases hb : b = dx
        · rw [hb, upd_same, upd_same]
        · rw [upd_ne hb, upd_ne hb]
          by_cases hc : b = hp.objs.size + 1
          · rw [hc, del_same, na]
          · rw [del_ne hc, upd_ne hc, upd_ne hb, upd_ne hc]
      rw [eH] at J nn
      refine ⟨rv, ⟨hp.objs.size + 1, _, _, ⟨G, g2, d2, t2, os'⟩, _, .ref C, some dx, rfl, J, kG, ge, hoe, ⟨rfl, rfl, fun vs hv => ?_⟩, rfl, rfl, nn, rfl, bare2, raises_own S.ox.exC S.ox.tyC, q1 dx hd1⟩⟩
      cases hv
      rfl
    | next => exact hq'.elim
    | brk => exact hq'.elim
    | cont => exact hq'.elim
theorem ss_raise0 {c : Nat} (F : ExcBaseFacts B newId initId bmB) (q : PySem.W.excIn X.K (L.cA c) bmB newId = true) (gC : X.mg x = some (.ref (L.cA c))) (kC : PySem.W.keepIn X.K (.ref (L.cA c)) = true) (r : Raises X (.ref (L.cA c))) (hg : Gl X x) (hdb : (x == ("__debug__" : Str)) = false) (hc : X.calm = true) (tk : L2N.Takes X Wx) {rpos : Pos} :
    SS X L Wx (.Raise (some (.Call (.Name x p) [] [] pos)) none rpos) (fun env => pure (.exn ⟨c, none⟩ env)) :=
  ⟨_, L2N.ps_raise hc tk (pmk_0 F q gC kC r hg hdb), fun Z σ H env ι m G w rr h => (Post.at h w) σ _ _ rr ⟨rfl, rfl⟩⟩
theorem ss_raise1 {c : Nat} {fe : Env → M D} (S : SupC X.prog X.K X.mg (L.cA c) f fd a1 a2 (L.xf c)) (iC : PySem.W.findIn X.K (.ref (L.cA c)) "__init__" = some (some (.ref f))) (tI : PySem.W.typeIn X.K (.ref f) = some (.type "function")) (hr : Room 2 X.A) (hb : Binds X.K fd [a1, a2] []) (hg : Gl X x) (hm : X.mg x = some (.ref (L.cA c))) (ha : SE X L Wx e fe)
    (hdb : (x == ("__debug__" : Str)) = false) (he : starEach [e] X.env = (false, eval e X.env) :: starEach [] X.env) (hc : X.calm = true) (tk : L2N.Takes X Wx) {rpos : Pos} :
    SS X L Wx (.Raise (some (.Call (.Name x p) [e] [] pos)) none rpos) (fun env => exB env (fe env) fun d => pure (.exn ⟨c, some d⟩ env)) := by
  have pa : PA X [e] (tCons (cE L Wx fe) tNil) := pa_cons ha.pe pa_nil he
  refine ⟨_, L2N.ps_raise hc tk (pmk_1 S iC tI hr hb hg hm pa hdb he), fun Z σ H env ι m G w rr h => ?_⟩
  refine ⟨env, ι, m, G, w, rr, Post.imp (post_exB h rr) fun d m1 ι1 G1 H1 l1 w1 q1 y ry => ⟨y, rfl, fun dd hd => ?_⟩⟩
  have fr := w1.fresh hd
  exact (q1 ι1 G1 (upd H1 dd _) (Le.new hd) (w1.beside fr.1 fr.2)) σ _ _ ((rr.le l1)) ⟨rfl, dd, y, rfl, upd_same, fr.1, fr.2, ry⟩
end
end Eng

set_option maxRecDepth 100000
set_option maxHeartbeats 4000000
namespace Eng
open PySem PySem.Spec PyProof.Rows L2 HotX

/-! ### within an except suite -/
section
variable {prog : Program} {w : World} {A : Around} {E : Value → Shared → Prop} {s : Shared}
theorem list_end_hot {it l x1 : Addr} {i : Nat} {its : Array Value} {Q : Option Value → Shared → Prop} (hot : HotAt A x1 s.heap) (hit : s.heap.IsListIter it l i) (hl : s.heap.IsList l its) (hx : its[i]? = none) (ne : x1 ≠ it)
    (hQ : ∀ h', Heap.ExtBut it s.heap h' → Q none { s with heap := h' }) : wpAny (model prog w) A (pyNext (.ref it)) Q E s := by
  obtain ⟨o, ho, hc, hd⟩ := id hit
  obtain ⟨ol, hol, _, nl, hdl⟩ := hl
  obtain ⟨hh, o1, vs1, h1, d1, c1⟩ := hot
  unfold pyNext
  refine wpAny_bind (wpAny_attempt (wpAny_callSpecial?_slot (name := Str.ofString "__next__") hit.typeIs slot_listiter_next (wpAny_call_entry slot_listiter_next hit.typeIs entry_listiter_next ?_ (args_listiter_next _))))
  show wpAny _ _ (field (.ref it) 0 >>= _) _ _ s
  refine wpAny_bind (wpAny_field ho hd (x := .ref l) rfl ?_)
  show wpAny _ _ (if (Value.ref l == Value.none) = true then _ else _) _ _ s
  rw [if_neg (show ¬ ((Value.ref l == Value.none) = true) from Bool.false_ne_true)]
  show wpAny _ _ (field (.ref it) 1 >>= _) _ _ s
  refine wpAny_bind (wpAny_field ho hd (x := .int i 0) rfl ?_)
  show wpAny _ _ (seqItems? (.ref l) >>= _) _ _ s
  refine wpAny_bind (wpAny_seqItems hol hdl ?_)
  simp only [Int.toNat_natCast, hx]
  refine wpAny_bind (wpAny_rule (wpAny_bind (wpAny_setField ho hd (by simp) ?_)))
  show wpAny _ _ (newExc (.type "StopIteration") [] >>= _) _ _ _
  refine wpAny_bind ?_
  simp only [newExc, newTuple]
  refine wpAny_bind (wpAny_newObj_type ?_ (by size_fits))
  refine wpAny_bind (m := firstArgMember _ _) (wpAny_of_eq (a := Value.none) (by first | rfl | (simp only [firstArgMember]; rfl)) ?_)
  refine wpAny_newObj_type ?_ (by size_fits)
  have keep1 : ∀ b o, b ≠ it → s.heap.get? b = some o → (s.heap.update it (Obj.mapFields fun x => x.setIfInBounds 0 Value.none)).get? b = some o := fun b o nb e => (Heap.get?_update_ne _ _ _ _ nb).trans e
  refine raiseNew_hot ⟨hh, o1, vs1, Heap.get?_push_of_some _ (Heap.get?_push_of_some _ (keep1 _ _ ne h1)), d1, c1⟩ (Nat.ne_of_lt (Heap.lt_size (Heap.get?_push_of_some _ (keep1 _ _ ne h1)))) (Heap.get?_push_size _ rfl) rfl (by first | (simp; done) | (simp; omega) | (simp only [Array.size_append]; simp; omega)) ?_
  refine wpAny_bind (wpAny_isInstance (T := "StopIteration") (b := true) ⟨_, Heap.get?_update_self _ (Heap.get?_push_size _ rfl) rfl, rfl⟩ isSubtype_stop ?_)
  refine wpAny_pure (hQ _ fun b o nb e => ?_)
  have e1 := Heap.get?_push_of_some { cls := .type "tuple", data := .seq #[] } (keep1 b o nb e)
  rw [Heap.get?_update_other _ _ (Nat.ne_of_gt (Heap.lt_size e1))]
  exact Heap.get?_push_of_some _ e1
end

/-! any(xs) there -/
theorem walks_hot {prog : Program} {w : World} {A : Around} {x1 I ax : Addr} {o1 : Obj} {vs1 : Array Value} (hh : A.handled = some (.ref x1)) (d1 : o1.data = .fields vs1) (c1 : vs1[2]? = some .none) (n1 : ax ≠ I) (n2 : x1 ≠ I) (its : Array Value) :
    Walks prog w A I [I, ax, x1] [I] its.size (fun i v => its[i]? = some v) (fun i h => (h.IsListIter I ax i ∧ h.IsList ax its) ∧ h.get? x1 = some o1) where
  sub := fun b hb => by simp at hb; simp [hb]
  frame := fun _ _ _ st hk => ⟨⟨st.1.1.at fun o e => hk I (by simp) o e, st.1.2.at fun o e => hk ax (by simp) o e⟩, hk x1 (by simp) _ st.2⟩
  item := fun i s Q E hi st hQ => by
    refine wpAny_pyNext_list_item st.1.1 st.1.2 (x := its[i]) (by simp [hi]) fun h' hit' hs' => ?_
    exact hQ _ h' s.toks (by simp [hi]) ⟨⟨hit', st.1.2.extBut hs'.extBut n1⟩, hs'.extBut _ _ n2 st.2⟩ fun b o hb e => hs'.extBut b o (fun h => hb (by simp [h])) e
  done := fun s Q E st hQ => list_end_hot ⟨hh, o1, vs1, st.2, d1, c1⟩ st.1.1 st.1.2 (by simp) n2 fun h' he' => hQ h' s.toks fun b o hb e => he' b o (fun h => hb (by simp [h])) e
  self := fun _ _ _ _ st hQ => wpAny_pyIter_listiter st.1.1 hQ
theorem cr_anyH {X : Cx} (hc : L2H.HotC X) : CallR X (.builtin "any") (rAny X.K) := by
  intro pins s σ H vs us Q I r h
  obtain ⟨a, bs, rfl, hs, q⟩ := h
  obtain ⟨its, rv, hl, _⟩ := I.list hs
  obtain ⟨p, ⟨hh, v1, e1, c1⟩, hp⟩ := hc
  have hx1 := (I.pin p (List.mem_append_left _ hp)).1
  rw [Vals.ref1 r]
  have hb := rv.bls
  refine call_any_walk (iter_any hl.isList fun s₂ e2 st hne => ?_)
  subst e2
  have hx2 : (s.heap.push { cls := .type "list_iterator", data := .fields #[.ref a, .int 0 0] }).get? p.1 = some p.2 := Heap.get?_push_of_some _ hx1
  refine ⟨_, _, _, _, _, _, _, rfl, walks_hot (A := X.A.in1) hh e1 c1 hne (Nat.ne_of_lt (Heap.lt_size hx1)) its.toArray, ⟨st, hx2⟩, truth_bools hb, fun h' tk hk => ?_⟩
  refine ⟨.bl _, H, I.kept fun b o eo => hk b o (fun hmem => ?_) (Heap.get?_push_of_some _ eo), ?_, q⟩
  · rcases List.mem_cons.mp hmem with e1 | hmem
    · exact absurd (e1 ▸ Heap.lt_size eo) (Nat.lt_irrefl _)
    · cases hmem
  · show Value.bool _ = Value.bool _
    rw [← L2.any_range, hb, List.size_toArray, List.length_map]

/-! ### an exception's value: in a suite alone -/
variable {L : Lk} {X : Cx} {E : XK} {Wx : WX}
mutual
def NoX : D → Prop
  | .tup l => NoXs l
  | .lst l => NoXs l
  | .scr l => NoXs l
  | .dK _ l => NoXs l
  | .dT _ l => NoXs l
  | .ins _ _ l => NoXs l
  | .exc _ _ => False
  | _ => True
def NoXs : List D → Prop
  | [] => True
  | d :: ds => NoX d ∧ NoXs ds
end
def NoXo : Ob → Prop
  | .lst l => NoXs l
  | .dK _ l => NoXs l
  | .dT _ l => NoXs l
  | .ins _ _ l => NoXs l
  | .tbl _ => True
  | .dead => True
abbrev withX (L : Lk) (t : Option (Addr × Nat × Option Addr)) : Lk := { L with xa := t }
mutual
theorem Rep.toX {G : Hp} {ι : List Addr} {t : Option (Addr × Nat × Option Addr)} (h : L.xa = none) : ∀ {d : D} {v : V}, Rep L G ι v d → Rep (withX L t) G ι v d
  | .non, _, r => by cases r; exact .non
  | .bl _, _, r => by cases r; exact .bl _
  | .int _, _, r => by cases r; exact .int _
  | .str _, _, r => by cases r; exact .str _
  | .tup _, _, r => by cases r with | tup a b => exact .tup a (RepL.toX h b)
  | .lst _, _, r => by cases r with | lst a b => exact .lst a (RepL.toX h b)
  | .scr _, _, r => by cases r with | scr a b => exact .scr a (RepL.toX h b)
  | .dK _ _, _, r => by cases r with | dK a e b => exact .dK a e (RepL.toX h b)
  | .dT _ _, _, r => by cases r with | dT a e b => exact .dT a e (RepL.toX h b)
  | .ins _ _ _, _, r => by cases r with | ins a e b => exact .ins (L := withX L t) a e (RepL.toX h b)
  | .ref _, _, r => by cases r with | ref e => exact .ref e
  | .fn _, _, r => by cases r; exact .fn (L := withX L t) _
  | .exc _ _, _, r => by cases r with | exc e q b => rw [h] at e; cases e
theorem RepL.toX {G : Hp} {ι : List Addr} {t : Option (Addr × Nat × Option Addr)} (h : L.xa = none) : ∀ {ds : List D} {vs : List V}, RepL L G ι vs ds → RepL (withX L t) G ι vs ds
  | [], _, r => by cases r; exact .nil
  | _ :: _, _, r => by cases r with | cons a b => exact .cons (Rep.toX h a) (RepL.toX h b)
end
mutual
theorem Rep.noX {G : Hp} {ι : List Addr} (h : L.xa = none) : ∀ {d : D} {v : V}, Rep L G ι v d → NoX d
  | .non, _, r => trivial
  | .bl _, _, r => trivial
  | .int _, _, r => trivial
  | .str _, _, r => trivial
  | .tup _, _, r => by cases r with | tup a b => exact RepL.noX h b
  | .lst _, _, r => by cases r with | lst a b => exact RepL.noX h b
  | .scr _, _, r => by cases r with | scr a b => exact RepL.noX h b
  | .dK _ _, _, r => by cases r with | dK a e b => exact RepL.noX h b
  | .dT _ _, _, r => by cases r with | dT a e b => exact RepL.noX h b
  | .ins _ _ _, _, r => by cases r with | ins a e b => exact RepL.noX h b
  | .ref _, _, r => trivial
  | .fn _, _, r => trivial
  | .exc _ _, _, r => by cases r with | exc e q b => rw [h] at e; cases e
theorem RepL.noX {G : Hp} {ι : List Addr} (h : L.xa = none) : ∀ {ds : List D} {vs : List V}, RepL L G ι vs ds → NoXs ds
  | [], _, r => trivial
  | _ :: _, _, r => by cases r with | cons a b => exact ⟨Rep.noX h a, RepL.noX h b⟩
end
/-- all but exceptions' dicts is kept -/
def KeepX (G G' : Hp) : Prop := ∀ a u, G a = some u → (∀ fs, u ≠ .xd fs) → G' a = some u
theorem KeepX.rd {G G' : Hp} (k : KeepX G G') {a : Addr} {u : HO} (h : Rd G a u) (n : ∀ fs, u ≠ .xd fs) : Rd G' a u := by
  rcases h with h | ⟨o, h⟩
  · exact .inl (k a u h n)
  · exact .inr ⟨o, k a _ h fun fs e => by cases e⟩
theorem KeepX.sqL {K : PySem.W.Frag} {G G' : Hp} (k : KeepX G G') {a : Addr} {xs : List V} (h : SqL K G a xs) : SqL K G' a xs := h.elim (fun h => .inl (k.rd h fun fs e => by cases e)) .inr
mutual
theorem Rep.ofX {G G' : Hp} {ι : List Addr} {t : Option (Addr × Nat × Option Addr)} (k : KeepX G G') : ∀ {d : D} {v : V}, NoX d → Rep (withX L t) G ι v d → Rep L G' ι v d
  | .non, _, n, r => by cases r; exact .non
  | .bl _, _, n, r => by cases r; exact .bl _
  | .int _, _, n, r => by cases r; exact .int _
  | .str _, _, n, r => by cases r; exact .str _
  | .tup _, _, n, r => by cases r with | tup a b => exact .tup (k _ _ a fun fs e => by cases e) (RepL.ofX k n b)
  | .lst _, _, n, r => by cases r with | lst a b => exact .lst (k _ _ a fun fs e => by cases e) (RepL.ofX k n b)
  | .scr _, _, n, r => by cases r with | scr a b => exact .scr (k.sqL a) (RepL.ofX k n b)
  | .dK _ _, _, n, r => by cases r with | dK a e b => exact .dK (k.rd a fun fs e => by cases e) e (RepL.ofX k n b)
  | .dT _ _, _, n, r => by cases r with | dT a e b => exact .dT (k.rd a fun fs e => by cases e) e (RepL.ofX k n b)
  | .ins _ _ _, _, n, r => by cases r with | ins a e b => exact .ins (L := L) (k _ _ a fun fs e => by cases e) e (RepL.ofX k n b)
  | .ref _, _, n, r => by cases r with | ref e => exact .ref e
  | .fn j, _, n, r => by cases r; exact Rep.fn (L := L) j
  | .exc _ _, _, n, r => n.elim
theorem RepL.ofX {G G' : Hp} {ι : List Addr} {t : Option (Addr × Nat × Option Addr)} (k : KeepX G G') : ∀ {ds : List D} {vs : List V}, NoXs ds → RepL (withX L t) G ι vs ds → RepL L G' ι vs ds
  | [], _, n, r => by cases r; exact .nil
  | _ :: _, _, n, r => by cases r with | cons a b => exact .cons (Rep.ofX k n.1 a) (RepL.ofX k n.2 b)
end
section
variable {G H : Hp} {ι : List Addr} {m : Mem} {t : Option (Addr × Nat × Option Addr)} {u : HO} {o : Ob}
theorem ObRel.toX (h : L.xa = none) (r : ObRel L G ι u o) : ObRel (withX L t) G ι u o := by
  cases o with
  | lst l => cases u <;> first | exact RepL.toX h r | exact r.elim
  | dK ks l => cases u <;> first | (obtain ⟨vs, a, b, c⟩ := r; exact ⟨vs, a, b, RepL.toX h c⟩) | exact r.elim
  | dT ks l => cases u <;> first | (obtain ⟨vs, a, b, c⟩ := r; exact ⟨vs, a, b, RepL.toX h c⟩) | exact r.elim
  | ins c fs l => cases u <;> first | (obtain ⟨e, vs, a, b, c⟩ := r; exact ⟨e, vs, a, b, RepL.toX h c⟩) | exact r.elim
  | tbl q => cases u <;> first | exact r | exact r.elim
  | dead => cases u <;> trivial
theorem ObRel.noX (h : L.xa = none) (r : ObRel L G ι u o) : NoXo o := by
  cases o with
  | lst l => cases u <;> first | exact RepL.noX h r | exact r.elim
  | dK ks l => cases u <;> first | (obtain ⟨vs, a, b, c⟩ := r; exact RepL.noX h c) | exact r.elim
  | dT ks l => cases u <;> first | (obtain ⟨vs, a, b, c⟩ := r; exact RepL.noX h c) | exact r.elim
  | ins c fs l => cases u <;> first | (obtain ⟨e, vs, a, b, c⟩ := r; exact RepL.noX h c) | exact r.elim
  | tbl q => trivial
  | dead => trivial
theorem ObRel.ofX {G' : Hp} (k : KeepX G G') (n : NoXo o) (r : ObRel (withX L t) G ι u o) : ObRel L G' ι u o := by
  cases o with
  | lst l => cases u <;> first | exact RepL.ofX k n r | exact r.elim
  | dK ks l => cases u <;> first | (obtain ⟨vs, a, b, c⟩ := r; exact ⟨vs, a, b, RepL.ofX k n c⟩) | exact r.elim
  | dT ks l => cases u <;> first | (obtain ⟨vs, a, b, c⟩ := r; exact ⟨vs, a, b, RepL.ofX k n c⟩) | exact r.elim
  | ins c fs l => cases u <;> first | (obtain ⟨e, vs, a, b, c⟩ := r; exact ⟨e, vs, a, b, RepL.ofX k n c⟩) | exact r.elim
  | tbl q => cases u <;> first | exact ⟨r.1, fun pos cv z => let ⟨c, h1, h2⟩ := r.2 pos cv z; ⟨c, h1, k _ _ h2 fun fs e => by cases e⟩⟩ | exact r.elim
  | dead => cases u <;> trivial
theorem W.toX (h : L.xa = none) (w : W L ι m G H) : W (withX L t) ι m G H :=
  ⟨w.sub, w.nd, w.len, w.tr, w.out, fun k a o e1 e2 l => let ⟨u, h1, h2⟩ := w.cell k a o e1 e2 l; ⟨u, h1, h2.toX h⟩, w.lm⟩
theorem W.ofX {G' : Hp} (kx : KeepX G G') (sb : ∀ a u, G' a = some u → G a = some u) (n : ∀ (k : Nat) o, m[k]? = some o → Live o → NoXo o) (w : W (withX L t) ι m G H) (hm : L.lf.1 <+: ι ∧ GLe L.lf.2 G') : W L ι m G' H :=
  ⟨fun a u e => w.sub a u (sb a u e), w.nd, w.len, w.tr, (fun k a o e1 e2 l => by
    have z := w.out k a o e1 e2 l
    cases q : G' a with
    | none => rfl
    | some u => rw [sb a u q] at z; cases z), fun k a o e1 e2 l => let ⟨u, h1, h2⟩ := w.cell k a o e1 e2 l; ⟨u, h1, h2.ofX kx (n k o e2 l)⟩, hm⟩
theorem W.noX (h : L.xa = none) (w : W L ι m G H) (k : Nat) (o : Ob) (e : m[k]? = some o) (l : Live o) : NoXo o := by
  have hk : k < ι.length := by rw [w.len]; exact (List.getElem?_eq_some_iff.mp e).1
  obtain ⟨u, _, h2⟩ := w.cell k ι[k] o (List.getElem?_eq_getElem hk) e l
  exact h2.noX h
end
end Eng

set_option maxRecDepth 100000
set_option maxHeartbeats 4000000
namespace Eng
open PySem PySem.Spec PyProof.Rows L2 HotX
variable {L : Lk} {X : Cx} {E : XK} {Wx : WX}

/-! ### try .. except C as e -/
def Out.clr (i : Nat) : Out → Out
  | .nx e => .nx (e.set i none)
  | .brk e => .brk (e.set i none)
  | .cnt e => .cnt (e.set i none)
  | o => o
def envOk (i : Nat) (env1 e : Env) : Prop := ∀ (j : Nat) d, e[j]? = some (some d) → j ≠ i → env1[j]? = some (some d) ∨ NoX d
def OkX (i : Nat) (env1 : Env) (m1 : Mem) (o : Out) (m2 : Mem) : Prop := (m2 = m1 ∨ ∀ (k : Nat) o', m2[k]? = some o' → Live o' → NoXo o') ∧ match o with
  | .nx e => envOk i env1 e
  | .brk e => envOk i env1 e
  | .cnt e => envOk i env1 e
  | .ret d => NoX d
  | .exn _ _ => False
open Classical in
noncomputable def tryS (ok sb : Nat → Bool) (i : Nat) (body suite : Env → M Out) : Env → M Out := fun env m => match body env m with
  | .ok (.exn x env1) m1 => if ok x.cls = true then (if sb x.cls = true then (match suite (env1.set i (some (.exc x.cls x.arg.toList))) m1 with
      | .ok o m2 => if OkX i env1 m1 o m2 then .ok (o.clr i) m2 else .bad
      | _ => .bad) else .ok (.exn x env1) m1) else .bad
  | r => r
theorem repE_ofX {G G' : Hp} {ι : List Addr} {t : Option (Addr × Nat × Option Addr)} {σ : L2.St} {i : Nat} {env1 e : Env} (k : KeepX G G') (ok : envOk i env1 e) (n1 : ∀ (j : Nat) d, env1[j]? = some (some d) → NoX d) (r : RepE (withX L t) G ι σ e) : RepE L G' ι (σ.set i none) (e.set i none) := by
  refine ⟨by simp [r.len], fun j d h => ?_⟩
  by_cases hj : j = i
  · subst hj
    by_cases hl : j < e.length
    · rw [List.getElem?_set_self hl] at h; cases h
    · rw [List.getElem?_eq_none (by simpa using hl)] at h; cases h
  · rw [List.getElem?_set_ne (Ne.symm hj)] at h
    obtain ⟨v, h1, h2⟩ := r.get j d h
    refine ⟨v, by rw [List.getElem?_set_ne (Ne.symm hj)]; exact h1, ?_⟩
    rcases ok j d h hj with z | z
    · exact Rep.ofX k (n1 j d z) h2
    · exact Rep.ofX k z h2
theorem suite_end {ι ι2 : List Addr} {G G2 G' H H2 : Hp} {m1 m2 : Mem} {Z : Ends} {i : Nat} {env1 : Env} {o : Out} {t : Option (Addr × Nat × Option Addr)}
    (q : PS1 L Wx Z ι G H (@ite _ (OkX i env1 m1 o m2) (Classical.propDecidable _) (.ok (o.clr i) m2) .bad)) (l : Le ι G H ι2 G' H2) (w : W (withX L t) ι2 m2 G2 H2) (k : KeepX G2 G') (sb : ∀ a u, G' a = some u → G2 a = some u)
    (n1 : ∀ (j : Nat) d, env1[j]? = some (some d) → NoX d) (nm : ∀ (j : Nat) o, m1[j]? = some o → Live o → NoXo o) (hm0 : L.lf.1 <+: ι ∧ GLe L.lf.2 G) :
    OutOk (withX L t) WF { nx := fun σ' H' => Z.nx (σ'.set i none) H', rt := Z.rt, bk := fun σ' H' => Z.bk (σ'.set i none) H', ct := fun σ' H' => Z.ct (σ'.set i none) H' } ι2 G2 H2 o := by
  by_cases hx : OkX i env1 m1 o m2
  case neg => rw [if_neg hx] at q; exact q.elim
  rw [if_pos hx] at q
  obtain ⟨hm, ho⟩ := hx
  have w' : W L ι2 m2 G' H2 := w.ofX k sb (by
    rcases hm with z | z
    · rw [z]; exact nm
    · exact z) ⟨hm0.1.trans l.pre, hm0.2.trans l.g⟩
  have q2 := q ι2 G' H2 l w'
  cases o with
  | nx e => exact fun σ rr => q2 _ (repE_ofX k ho n1 rr)
  | brk e => exact fun σ rr => q2 _ (repE_ofX k ho n1 rr)
  | cnt e => exact fun σ rr => q2 _ (repE_ofX k ho n1 rr)
  | ret d => exact fun v r => q2 v (Rep.ofX k ho r)
  | exn y e => exact ho.elim
theorem Le.unx {ι1 ι2 : List Addr} {G1 G2 H1 H2 : Hp} {dd : Addr} {u : HO} (h : Le ι1 (upd G1 dd u) H1 ι2 G2 H2) (n : G1 dd = none) (nH : H1 dd ≠ none) (ni : dd ∉ ι1) : Le ι1 G1 H1 ι2 (del G2 dd) H2 := by
  have ne : ∀ {a : Addr} {v : HO}, G1 a = some v → a ≠ dd := fun {a v} e z => by rw [z, n] at e; cases e
  refine ⟨h.pre, ⟨fun a v r => ?_, fun a v e nd => ?_⟩, h.fr, fun a e1 e2 => ?_, h.nw⟩
  · have na : a ≠ dd := by
      rcases r with r | ⟨o, r⟩ <;> exact ne r
    have r2 : Rd (upd G1 dd u) a v := by
      rcases r with r | ⟨o, r⟩
      · exact .inl (by rw [upd_ne na]; exact r)
      · exact .inr ⟨o, by rw [upd_ne na]; exact r⟩
    rcases h.g.1 a v r2 with z | ⟨o, z⟩
    · exact .inl (by rw [del_ne na]; exact z)
    · exact .inr ⟨o, by rw [del_ne na]; exact z⟩
  · rw [del_ne (ne e)]
    exact h.g.2 a v (by rw [upd_ne (ne e)]; exact e) nd
  · by_cases na : a = dd
    · rw [na, del_same, n]
    · rw [del_ne na, h.gn a e1 e2, upd_ne na]
section
variable {x n : Str} {cv : Value} {i : Nat} {body suite : List Stmt} {b₀ : Stmt} {np pos pos' : Pos} {fb fs : Env → M Out} {ok sb : Nat → Bool}
theorem ss_try (hs : X.stack = X.env :: X.outer) (hf : X.env.frame = some X.env.locals) (hN : X.N.Nodup) (hi : X.N[i]? = some n) (hln : X.env.kindOf n = some .local) (hc : Names X x cv) (tk : L2N.Takes X Wx) (hxa : L.xa = none)
    (hex : ∀ c, ok c = true → PySem.W.exmOne X.K (.ref (L.cA c)) cv = some (sb c))
    (hb : ∀ (W : WX) (pn : List (Addr × Obj)) (xe : Value → Shared → Prop), L2N.Takes (X.tr pn xe) W → PassesOwn (model X.prog X.w) X.A X.env xe → SSs (X.tr pn xe) L W body fb)
    (hsu : ∀ (a : Addr) (oe : Obj) (c : Nat) (d : Option Addr) (pn : List (Addr × Obj)), ok c = true → L2N.Zn (.ref (L.cA c)) d oe → (∃ vs, oe.data = .fields vs) → SSs (X.suite a ((a, oe) :: pn)) (withX L (some (a, c, d))) WF (b₀ :: suite) fs) :
    SS X L Wx (.Try body [.ExceptHandler (some (.Name x np)) (some n) (b₀ :: suite) pos'] [] [] pos) (tryS ok sb i fb fs) := by
  refine ⟨_, L2N.ps_try_as (tb := fun W => cS L W fb) (ts := fun a cls d Z σ H => ∃ c, ok c = true ∧ cls = .ref (L.cA c) ∧ cS (withX L (some (a, c, d))) WF fs Z σ H) hs hf hN hi hln hc tk (fun W pn xe h1 h2 => (hb W pn xe h1 h2).pss) (fun a oe cls d pn hz hd => ?_), fun Z σ H env ι m G w rr q => ?_⟩
  · refine ⟨fun pins s σ H Z I ⟨c, hok, e, q⟩ => ?_⟩
    subst e
    exact (hsu a oe c d pn hok hz hd).pss.run pins s σ H Z I q
  · refine ⟨env, ι, m, G, w, rr, ?_⟩
    unfold tryS at q
    cases ef : fb env m with
    | bad => rw [ef] at q; exact q
    | exn y m1 => rw [ef] at q; exact q
    | ok o m1 =>
      rw [ef] at q
      cases o with
      | nx e => exact q
      | ret d => exact q
      | brk e => exact q
      | cnt e => exact q
      | exn y env1 =>
        intro ι1 G1 H1 l1 w1 σ1 cls d rr1 xr
        have q1 : PS1 L Wx Z ι G H (if ok y.cls = true then (if sb y.cls = true then (match fs (env1.set i (some (.exc y.cls y.arg.toList))) m1 with
          | .ok o m2 => @ite _ (OkX i env1 m1 o m2) (Classical.propDecidable _) (.ok (o.clr i) m2) .bad
          | _ => .bad) else .ok (.exn y env1) m1) else .bad) := q
        by_cases h1 : ok y.cls = true
        case neg => rw [if_neg h1] at q1; exact q1.elim
        rw [if_pos h1] at q1
        obtain ⟨hcls, harg⟩ := id xr
        refine ⟨sb y.cls, by rw [hcls]; exact hex _ h1, fun h2 a ha => ?_, fun h2 => ?_⟩
        · rw [if_pos h2] at q1
          refine ⟨y.cls, h1, hcls, ?_⟩
          have n1 : ∀ (j : Nat) d, env1[j]? = some (some d) → NoX d := fun j d e => by
            obtain ⟨v, _, r⟩ := rr1.get j d e
            exact r.noX hxa
          have nm := w1.noX hxa
          cases harg' : y.arg with
          | none =>
            rw [harg'] at harg q1
            subst harg
            refine ⟨_, ι1, m1, G1, w1.toX hxa, (RepE.set ⟨rr1.len, fun j d e => let ⟨v, z1, z2⟩ := rr1.get j d e; ⟨v, z1, z2.toX hxa⟩⟩ i (.exc (vs := []) (dd := none) rfl ⟨(fun p hp => by cases hp), fun _ => rfl⟩ .nil)), ?_⟩
            cases es : fs (env1.set i (some (.exc y.cls []))) m1 with
            | bad =>
              rw [show (Option.none : Option D).toList = [] from rfl, es] at q1
              exact q1.elim
            | exn z m2 =>
              rw [show (Option.none : Option D).toList = [] from rfl, es] at q1
              exact q1.elim
            | ok o m2 =>
              rw [show (Option.none : Option D).toList = [] from rfl, es] at q1
              exact fun ι2 G2 H2 l2 w2 => suite_end q1 (l1.trans l2) w2 (fun _ _ e _ => e) (fun _ _ e => e) n1 nm w.lm
          | some ar =>
            rw [harg'] at harg q1
            obtain ⟨dd, v, rfl, hH, ni, nG, rv⟩ := harg
            have w2 := w1.frz ni nG hH
            refine ⟨_, ι1, m1, upd G1 dd (.xd [(L.xf y.cls, v)]), w2.toX hxa, (RepE.set ⟨rr1.len, fun j d e => let ⟨v, z1, z2⟩ := rr1.get j d e; ⟨v, z1, (z2.mono (upd_gle nG) (List.prefix_refl _)).toX hxa⟩⟩ i (.exc (vs := [v]) (dd := some dd) (l := [ar]) rfl ⟨(fun p hp => by cases hp; exact upd_same), fun z => by cases z⟩ (.cons ((rv.mono (upd_gle nG) (List.prefix_refl _)).toX hxa) .nil))), ?_⟩
            cases es : fs (env1.set i (some (.exc y.cls [ar]))) m1 with
            | bad =>
              rw [show (some ar : Option D).toList = [ar] from rfl, es] at q1
              exact q1.elim
            | exn z m2 =>
              rw [show (some ar : Option D).toList = [ar] from rfl, es] at q1
              exact q1.elim
            | ok o m2 =>
              rw [show (some ar : Option D).toList = [ar] from rfl, es] at q1
              intro ι2 G2 H2 l2 w3
              have lu := l2.unx nG (by rw [hH]; simp) ni
              have hd : G2 dd = some (.xd [(L.xf y.cls, v)]) := l2.g.2 dd _ upd_same trivial
              refine suite_end q1 (l1.trans lu) w3 (fun a u e nx => ?_) (fun a u e => ?_) n1 nm w.lm
              · have na : a ≠ dd := fun z => by rw [z, hd] at e; cases e; exact nx _ rfl
                rw [del_ne na]; exact e
              · by_cases na : a = dd
                · rw [na, del_same] at e; cases e
                · rw [del_ne na] at e; exact e
        · rw [if_neg (by rw [h2]; exact Bool.false_ne_true)] at q1
          exact q1 ι1 G1 H1 l1 w1 σ1 cls d rr1 xr
end
end Eng

set_option maxRecDepth 100000
set_option maxHeartbeats 4000000
namespace Eng
open PySem PySem.Spec PyProof.Rows L2 HotX
variable {L : Lk} {X : Cx} {E : XK} {Wx : WX}

/-! ### isinstance(e, C), e.f of the exception that a suite holds -/
def rIsX (K : PySem.W.Frag) (C a : Addr) (dd : Option Addr) : List V → Hp → VK → Prop := fun xs H Q => ∃ (c : V) (cv : Value) (b : Bool), xs = [.ref a, c] ∧ (∀ u, RelV c u → u = cv) ∧ (∀ p, dd = some p → ∃ kvs, H p = some (.xd kvs)) ∧ PySem.W.kitOne K (.ref C) cv = some b ∧ Q (.bl b) H
theorem kit_exc {K : PySem.W.Frag} {x C : Addr} {ox : Obj} (T : ExcC K C) : PySem.W.KitX K (.ref x) (.ref C) (fun h => ∃ od, PySem.W.InstAt h x ox C od) where
  ty := fun _ _ _ ⟨_, I⟩ => I.type
  it := fun M h X _ => by
    obtain ⟨cd, hc, _⟩ := PySem.W.any_some T.hd
    unfold PySem.W.clsIn at hc
    split at hc
    · rename_i c' d' cd' sl' ho
      intro A' Q' E' s' k q
      unfold isType loadHead
      exact wpAny_bind (wpAny_loadPart (k _ _ (X _ _ ho)) (wpAny_pure q))
    · cases hc
  ne := (PySem.W.handS_kitx_exc (x := x) (ox := ox) T.hg T.hk T.hs T.hd T.ha T.hn T.ht T.hm).ne
  ca := fun X ⟨od, I⟩ k => PySem.W.kx_classE X I T.hg T.hk T.hs (PySem.W.findObj_dataE (by obtain ⟨cd, hc, _⟩ := PySem.W.any_some T.hd; rw [hc]; rfl) T.ha T.hn T.ht) T.hm k
theorem call_isX {a C : Addr} {dd : Option Addr} {oe : Obj} {pn : List (Addr × Obj)} (T : ExcC X.K C) (hz : Zc (.ref C) dd oe) (hf : ∃ vs, oe.data = .fields vs) : CallR (X.suite a ((a, oe) :: pn)) (.builtin "isinstance") (rIsX X.K C a dd) := by
  intro pins s σ H xs us Q I r h
  obtain ⟨c, cv, b, rfl, hcv, hd, e, q⟩ := h
  cases r with
  | cons rx rr =>
    cases rr with
    | cons rt rr =>
      cases rr
      cases rx
      have ec := hcv _ rt
      subst ec
      obtain ⟨hget, _⟩ := I.pin (a, oe) (List.mem_append.mpr (.inl List.mem_cons_self))
      obtain ⟨vs, hv⟩ := hf
      have J : ∃ od, PySem.W.InstAt s.heap a oe C od := by
        cases hdd : dd with
        | none => exact ⟨none, hget, hz.1, by unfold PySem.W.notCls; rw [hv] <;> rfl, by rw [hz.2, hdd]; trivial⟩
        | some p =>
          obtain ⟨kvs, hp⟩ := hd p hdd
          obtain ⟨mA, ⟨od, _, _, ho, _⟩, _⟩ := I.hok p _ hp
          exact ⟨some od, hget, hz.1, by unfold PySem.W.notCls; rw [hv] <;> rfl, by rw [hz.2, hdd]; exact ho⟩
      exact PySem.W.kia_one (kit_exc T) I.kIn J e (fun z => nomatch z) fun tk => ⟨.bl b, H, I.kept (t' := tk) fun _ _ z => z, rfl, q⟩
/-- ok: the classes of errors; sb: those below the one that is asked for -/
def isXD (ok sb : Nat → Bool) (d : D) : M D := match d with
  | .exc c _ => if ok c = true then pure (.bl (sb c)) else M.fail
  | _ => M.fail
theorem exc_at {G H : Hp} {ι : List Addr} {m : Mem} {v : V} {c0 c : Nat} {a : Addr} {d : Option Addr} {l : List D} (hx : L.xa = some (a, c0, d)) (w : W L ι m G H) (r : Rep L G ι v (.exc c l)) : v = .ref a ∧ c = c0 ∧ ∃ vs, (∀ p, d = some p → H p = some (.xd ([L.xf c].zip vs))) ∧ (d = none → l = []) ∧ RepL L G ι vs l := by
  cases r with
  | exc e q b =>
    rw [hx] at e
    cases e
    exact ⟨rfl, rfl, _, fun p hp => w.sub _ _ (q.1 p hp), q.2, b⟩
theorem se_isX {ok sb : Nat → Bool} {a : Addr} {c0 : Nat} {d : Option Addr} {oe : Obj} {pn : List (Addr × Obj)} {e c : Expr} {fe : Env → M D} {p pos : Pos} {cv : Value} {vc : V} (hK : X.K = L.K) (hxa : L.xa = some (a, c0, d)) (hz : L2N.Zn (.ref (L.cA c0)) d oe) (hf : ∃ vs, oe.data = .fields vs)
    (T : ∀ c, ok c = true → ExcC L.K (L.cA c) ∧ PySem.W.kitOne L.K (.ref (L.cA c)) cv = some (sb c)) (h0 : ok c0 = true) (hv : ∀ u, RelV vc u → u = cv) (hg : Gl X "isinstance") (hm : X.mg "isinstance" = none) (he : SE (X.suite a ((a, oe) :: pn)) L Wx e fe) (hc : PE (X.suite a ((a, oe) :: pn)) c (tC vc))
    (h1 : ∀ v pos, e ≠ .Starred v pos) (h2 : ∀ v pos, c ≠ .Starred v pos) : SE (X.suite a ((a, oe) :: pn)) L Wx (.Call (.Name "isinstance" p) [e, c] [] pos) (fun env => do let d ← fe env; isXD ok sb d) := by
  have s2 : starEach [c] (X.suite a ((a, oe) :: pn)).env = (false, eval c (X.suite a ((a, oe) :: pn)).env) :: starEach [] (X.suite a ((a, oe) :: pn)).env := by cases c <;> first | rfl | exact absurd rfl (h2 _ _)
  have s1 : starEach [e, c] (X.suite a ((a, oe) :: pn)).env = (false, eval e (X.suite a ((a, oe) :: pn)).env) :: starEach [c] (X.suite a ((a, oe) :: pn)).env := by cases e <;> first | rfl | exact absurd rfl (h1 _ _)
  have T0 : ExcC X.K (L.cA c0) := by rw [hK]; exact (T c0 h0).1
  refine ⟨_, pe_callB (call_isX T0 hz.zc hf) hg hm (by decide +kernel) (pa_cons he.pe (pa_cons hc pa_nil s2) s1) (by decide) (by decide) s1 (by rw [s2]; rfl), fun σ H Q env ι m G w rr q => ?_⟩
  refine ⟨env, ι, m, G, w, rr, Post.imp (Post.bind q) fun dv m1 ι1 G1 H1 l1 w1 q1 x rx => ?_⟩
  cases dv with
  | exc c l =>
    obtain ⟨rfl, rfl, vs, k1, k3, k2⟩ := exc_at hxa w1 rx
    have q2 : PV L _ ι1 G1 H1 ((if ok c = true then pure (.bl (sb c)) else M.fail : M D) m1) _ := q1
    rw [if_pos h0] at q2
    rw [hK]
    exact ⟨vc, cv, sb c, rfl, hv, fun p hp => ⟨_, k1 p hp⟩, (T c h0).2, (Post.at q2 w1) _ (.bl _)⟩
  | _ => exact q1.elim
/-- e.f -/
def xfD (ok : Nat → Bool) (d : D) : M D := match d with
  | .exc c [x] => if ok c = true then pure x else M.fail
  | _ => M.fail
theorem se_xf {ok : Nat → Bool} {a : Addr} {c0 : Nat} {d : Option Addr} {oe : Obj} {pn : List (Addr × Obj)} {e : Expr} {fe : Env → M D} {fl : Str} {pos : Pos} (hK : X.K = L.K) (hxa : L.xa = some (a, c0, d)) (hz : L2N.Zn (.ref (L.cA c0)) d oe) (hf : ∃ vs, oe.data = .fields vs)
    (T : ok c0 = true → XfC L.K (L.cA c0) ∧ PySem.W.findIn L.K (.ref (L.cA c0)) fl = some none ∧ L.xf c0 = fl) (he : SE (X.suite a ((a, oe) :: pn)) L Wx e fe) (hb : attributeBase e fl X.env (eval e X.env) = eval e X.env) :
    SE (X.suite a ((a, oe) :: pn)) L Wx (.Attribute e fl pos) (fun env => do let d ← fe env; xfD ok d) := by
  by_cases h0 : ok c0 = true
  case neg =>
    refine ⟨_, pe_fld he.pe hb, fun σ H Q env ι m G w rr q => ?_⟩
    refine ⟨env, ι, m, G, w, rr, Post.imp (Post.bind q) fun dv m1 ι1 G1 H1 l1 w1 q1 x rx => ?_⟩
    unfold xfD at q1
    split at q1
    · rename_i c y
      obtain ⟨_, rfl, _⟩ := exc_at hxa w1 rx
      rw [if_neg h0] at q1
      exact q1.elim
    · exact q1.elim
  obtain ⟨T1, T2, T3⟩ := T h0
  refine ⟨_, pe_xf (by rw [hK]; exact T1) (by rw [hK]; exact T2) hz.zc hf he.pe hb, fun σ H Q env ι m G w rr q => ?_⟩
  refine ⟨env, ι, m, G, w, rr, Post.imp (Post.bind q) fun dv m1 ι1 G1 H1 l1 w1 q1 x rx => ?_⟩
  unfold xfD at q1
  split at q1
  · rename_i c y
    obtain ⟨rfl, rfl, vs, k1, k3, k2⟩ := exc_at hxa w1 rx
    rw [if_pos h0] at q1
    cases k2 with
    | cons r t =>
      cases t
      cases hdd : d with
      | none => cases k3 hdd
      | some p =>
        exact ⟨rfl, rfl, p, _, _, rfl, k1 p hdd, by
          rw [← T3]
          show List.lookup _ [(_, _)] = _
          rw [List.lookup_cons, beq_self_eq_true], (Post.at q1 w1) _ r⟩
  · exact q1.elim
end Eng

set_option maxRecDepth 100000
set_option maxHeartbeats 4000000
namespace Eng
open PySem PySem.Spec PyProof.Rows L2
variable {L : Lk} {X : Cx} {E : XK} {Wx : WX}

/-! ### ==, != of instances with an own __eq__ -/
structure EqC (K : PySem.W.Frag) (C f : Addr) (n : Nat) (cA : Nat → Addr) : Prop where
  eq : PySem.W.findIn K (.ref C) "__eq__" = some (some (.ref f))
  fn : PySem.W.isFn K (.ref f) = true
  ne : PySem.W.findIn K (.ref C) "__ne__" = some (some (.builtin "object.__ne__"))
  ob : PySem.W.mroIn K C (.type "object") = some true
  nb : ∀ t ∈ bnames, PySem.W.notFirst K C (.type t) = true
  no : ∀ c, c < n → PySem.W.notFirst K C (.ref (cA c)) = true
section
open PySem.W
variable {prog : Program} {w : World} {A A₀ : Around} {E : Value → Shared → Prop} {s : Shared} {K : Frag} {x C D f : Addr} {h₀ : Heap} {m : Str → Option Value} {ox : Obj} {od : Option Obj} {b tb : Value}
theorem ifBound_b {M : Model} {name : Str} {id : String} {args : List Value} {Q : Option Value → Shared → Prop} (X : K.In s.heap) (I : InstAt s.heap x ox C od) (hs : findIn K (.ref C) name = some (some (.builtin id))) (hb : bindSpecial (.builtin id) (.ref x) = pure (.builtin id, [.ref x]))
    (h : wpAny M A (call (.builtin id) (.ref x :: args)) (fun v => Q (some v)) E s) : wpAny M A (callSpecialIfBound? (.ref x) name args) Q E s := by
  simp only [callSpecialIfBound?, bindSpecialIfBound?]
  refine wpAny_holding (wpAny_bind (wpAny_bind (wpAny_bind (I.type.here ((looks_findIn X hs).here ?_)))))
  simp only [hb]
  refine wpAny_bind (wpAny_askSetting (wpAny_ite ?_))
  have fin : wpAny M A (call (.builtin id) ([.ref x] ++ args) >>= fun v => pure (some v)) Q E s := wpAny_bind (wpAny_mono h (fun v s' h' => wpAny_pure h') fun _ _ h' => h')
  split
  · exact wpAny_bind (wpAny_pure (wpAny_pure fin))
  · exact wpAny_tryCatch (wpAny_bind (wpAny_pure (wpAny_pure fin)))
theorem rich_K {op : CmpOp} {Q : Value → Shared → Prop} (hu : A.units < cLine) (X : K.In s.heap) (I : InstAt s.heap x ox C od) (hb : Looks (model prog w) s.heap (typeOf b) tb) (hn : notFirst K C tb = true)
    (one : wpAny (model prog w) A (tryCompare (.ref x) (cmpInfo op).2.1 b) (fun r s' => ∃ v, r = some v ∧ Q v s') E s) : wpAny (model prog w) A (richCompare op (.ref x) b) Q E s := by
  unfold richCompare
  simp only [oneThing_ref]
  refine wpAny_holding (wpAny_bind (wpAny_cRoomFor hu ?_))
  refine wpAny_bind (I.type.here (wpAny_bind (hb.here ?_)))
  split
  · rename_i q
    have e : subIn K tb (.ref C) = some false := by
      rcases Bool.or_eq_true_iff.mp hn with e | e
      · rw [beq_iff_eq.mp e] at q
        simp at q
      · exact beq_iff_eq.mp e
    refine wpAny_bind ((looks_subIn X e).here ?_)
    simp only [Bool.false_eq_true, if_false]
    refine wpAny_bind (wpAny_mono one (fun r s' z => ?_) fun _ _ e => e)
    obtain ⟨v, rfl, hq⟩ := z
    exact wpAny_pure hq
  · refine wpAny_bind (wpAny_pure ?_)
    simp only [Bool.false_eq_true, if_false]
    refine wpAny_bind (wpAny_mono one (fun r s' z => ?_) fun _ _ e => e)
    obtain ⟨v, rfl, hq⟩ := z
    exact wpAny_pure hq
theorem objNe_K {Q : PySem.Fin → Shared → Prop} (hu : A.units < cLine) (X : K.In s.heap) (I : InstAt s.heap x ox C od) (hs : findIn K (.ref C) "__eq__" = some (some (.ref f))) (hf : isFn K (.ref f) = true)
    (hc : wpAny (model prog w) A (call (.ref f) [.ref x, b]) (fun v s' => ∃ k, v = .bool k ∧ Q (.done (.ret (.bool (!k)))) s') E s) : wpAny (model prog w) A (Builtin.«object.__ne__» ⟨[.ref x, b], []⟩) Q E s := by
  unfold Builtin.«object.__ne__»
  repeat (first
    | with_reducible refine wpAny_cRoomFor hu ?_
    | (refine wpAny_bind (m := callSpecialIfBound? (.ref x) (Str.ofString "__eq__") [b])
        (ifBound_K X I hs hf (wpAny_mono hc (fun r s' hr => by
          obtain ⟨k, rfl, hq⟩ := hr
          repeat (first | exact hq | exact wpAny_pure hq | exact wpAny_truthy_bool hq | (refine wpAny_bind (m := truthy (.bool _)) (wpAny_truthy_bool ?_)) | wp_step)) fun _ _ e => e)))
    | wp_step)
theorem eq_own {n : Nat} {cA : Nat → Addr} {Q : Value → Shared → Prop} (T : EqC K C f n cA) (hu : A.units < cLine) (X : K.In s.heap) (I : InstAt s.heap x ox C od) (hb : Looks (model prog w) s.heap (typeOf b) tb) (hn : notFirst K C tb = true)
    (h : wpAny (model prog w) A (call (.ref f) [.ref x, b]) (fun v s' => ∃ k, v = .bool k ∧ Q (.bool k) s') E s) : wpAny (model prog w) A (compareOp .Eq (.ref x) b) Q E s := by
  show wpAny _ _ (richCompare .Eq (.ref x) b) _ _ _
  refine rich_K hu X I hb hn ?_
  unfold tryCompare
  refine wpAny_bind (ifBound_K X I T.eq T.fn (wpAny_mono h (fun v s' hv => ?_) fun _ _ e => e))
  obtain ⟨k, rfl, q⟩ := hv
  exact wpAny_pure ⟨_, rfl, q⟩
theorem ne_own {n : Nat} {cA : Nat → Addr} {Q : Value → Shared → Prop} (T : EqC K C f n cA) (hu : A.units + 1 < cLine) (X : K.In s.heap) (I : InstAt s.heap x ox C od) (hb : Looks (model prog w) s.heap (typeOf b) tb) (hn : notFirst K C tb = true)
    (h : wpAny (model prog w) A.in1 (call (.ref f) [.ref x, b]) (fun v s' => ∃ k, v = .bool k ∧ Q (.bool (!k)) s') E s) : wpAny (model prog w) A (compareOp .NotEq (.ref x) b) Q E s := by
  show wpAny _ _ (richCompare .NotEq (.ref x) b) _ _ _
  refine rich_K (Nat.lt_of_succ_lt hu) X I hb hn ?_
  unfold tryCompare
  have sub : Looks (model prog w) s.heap (isInstance (.ref x) (.type "object")) true := I.type.andThen (looks_mroIn X T.ob)
  refine wpAny_bind (ifBound_b X I T.ne (F.cmp_object.ne.bind _) (wpAny_call (codeAny_call_builtin F.cmp_object.ne.plain F.cmpEntry_ne (check_slot F.cmpKind_ne F.cmpSplit_ne sub (F.cmpArgs_ne _ _) (objNe_K (A := A.in1) hu X I T.eq T.fn (wpAny_mono h (fun v s' hv => ?_) fun _ _ e => e))))))
  obtain ⟨k, rfl, q⟩ := hv
  first
    | exact ⟨k, rfl, wpAny_pure ⟨_, rfl, q⟩⟩
    | exact ⟨k, rfl, wpAny_pure (wpAny_pure ⟨_, rfl, q⟩)⟩
    | exact ⟨k, rfl, _, rfl, q⟩
end

theorem takesF : L2N.Takes X WF := fun u s' ⟨_, _, _, _, _, _, _, _, _, _, _, _, _, _, _, _, w⟩ => w.elim
def ownR (L : Lk) (c n : Nat) (g : List D → M D) (neg : Bool) : R2 := fun x y H Q => ∃ dx dy ι m G fs vs t, W L ι m G H ∧ Rep L G ι x dx ∧ Rep L G ι y dy ∧ insV m dx = some (c, fs, vs) ∧ tyOf m dy = some t ∧ tyB n t = true ∧
  PV L XF ι G H (g [dx, dy] m) (fun v H' => ∃ k, v = .bl k ∧ Q (.bl (k != neg)) H')
def ownD (c n : Nat) (g : List D → M D) (neg : Bool) (x y : D) : M D := fun m => match insV m x with
  | some (c', _, _) => if c' = c then (match tyOf m y with
    | some t => if tyB n t = true then (match g [x, y] m with
      | .ok (.bl k) m' => .ok (.bl (k != neg)) m'
      | _ => .bad) else .bad
    | none => .bad) else .bad
  | none => .bad
theorem so_own {c n : Nat} {g : List D → M D} {neg : Bool} : SO L (ownR L c n g neg) (ownD c n g neg) := by
  intro E ι m G H x y a b Q w rx ry q
  unfold ownD at q
  split at q
  · rename_i c' fs vs e
    split at q
    · rename_i hc
      subst hc
      split at q
      · rename_i t e2
        split at q
        · rename_i ht
          refine ⟨a, b, ι, m, G, fs, vs, t, w, rx, ry, e, e2, ht, ?_⟩
          cases eg : g [a, b] m with
          | bad => rw [eg] at q; exact q.elim
          | exn z m' => rw [eg] at q; exact q.elim
          | ok d m' =>
            rw [eg] at q
            cases d with
            | bl k =>
              intro ι' G' H' l w' v rv
              cases rv
              exact ⟨k, rfl, q ι' G' H' l w' _ (.bl _)⟩
            | _ => exact q.elim
        · exact q.elim
      · exact q.elim
    · exact q.elim
  · exact q.elim
section
variable {k c n : Nat} {f : Addr} {fd : FuncData} {ps : List Str} {g : List D → M D}
theorem run_dfA {A : Around} {pins : List (Addr × Obj)} {σ : L2.St} {H : Hp} {s : Shared} {us : List Value} {vs : List V} {ds : List D} {ι : List Addr} {m : Mem} {G : Hp} {Q : VK} (F : Df X.prog X.w X.K X.mg X.base L k f fd ps g) (hr : Room k A) (hg : A.guards = some []) (hb : Binds X.K fd ps []) (e0 : Env0 X.prog X.w X.K X.mg X.base A X.stack s H)
    (I : Inv X pins σ H s) (r : Vals vs us) (hl : vs.length = ps.length) (wm : W L ι m G H) (rl : RepL L G ι vs ds) (q : PV L XF ι G H (g ds m) Q) : wpAny (model X.prog X.w) A (call (.ref f) us) (EP X pins σ Q) X.xe s := by
  have hb' := hb s us I.kIn (by rw [List.append_nil, ← r.length]; exact hl)
  rw [List.append_nil] at hb'
  refine wpAny_call (codeAny_mono (F.go A X.stack s H ⟨us, []⟩ us vs ds ι m G Q XF hr hg e0 hb' r hl wm rl q) fun res s' hq => ?_)
  cases res with
  | error e => exact L2N.passAt (W := WF) takesF σ pins H s e s' I hq
  | ok fl =>
    cases fl with
    | ret u => exact I.after hq
    | next => exact hq.elim
    | brk => exact hq.elim
    | cont => exact hq.elim
theorem first_ok {K : PySem.W.Frag} {C : Addr} {t : Ty} (ok : LkOk L n) (T : EqC K C f n L.cA) (h : tyB n t = true) (hb : ∀ b, t = .bi b → b ∈ bnames) : PySem.W.notFirst K C (tyV L t) = true := by
  cases t with
  | bi b => exact T.nb b (hb b rfl)
  | own c => exact T.no c (of_decide_eq_true h)
theorem tyOf_names {m : Mem} {d : D} {b : String} (h : tyOf m d = some (.bi b)) : b ∈ bnames := by
  unfold tyOf at h
  split at h <;> try (first | (cases h; decide) | cases h)
  split at h <;> first | (cases h; decide) | cases h
theorem op_ownEq (ok : LkOk L n) (hK : X.K = L.K) (T : EqC X.K (L.cA c) f n L.cA) (F : Df X.prog X.w X.K X.mg X.base L k f fd ps g) (hr : Room k X.A) (hg : X.A.guards = some []) (hb : Binds X.K fd ps []) (hl : ps.length = 2) : OpR X (compareOp .Eq) (ownR L c n g false) := by
  intro pins s σ H x y v u Q I rx ry h
  obtain ⟨dx, dy, ι, m, G, fs, vs, t, w, r1, r2, e1, e2, e3, q⟩ := h
  obtain ⟨a, dxa, us, rfl, h1, _, _⟩ := view_ins w r1 e1
  obtain rfl : v = Value.ref a := rx
  obtain ⟨mA, J, _⟩ := ins_get I.hok h1
  obtain ⟨od, J, _⟩ := J.look
  have ty := tyx_of ok w r2 e2 (fun c' h => by subst h; exact of_decide_eq_true e3)
  rw [← hK] at ty
  obtain ⟨P, Z, p, _⟩ := kit_ofZ I ry ty
  refine eq_own T hr.units0 I.kIn J (Z.ty _ _ I.kIn p) (first_ok ok T e3 fun b hb => by subst hb; exact tyOf_names e2) ?_
  refine wpAny_mono (run_dfA (us := [.ref a, u]) (vs := [.ref a, y]) F hr hg hb I.env0 I (.cons rfl (.cons ry .nil)) (by rw [hl]; rfl) w (.cons r1 (.cons r2 .nil)) q) (fun v' s' z => ?_) fun _ _ z => z
  obtain ⟨z', H', I', rz, kk, rfl, qz⟩ := z
  obtain rfl : v' = Value.bool kk := rz
  exact ⟨kk, rfl, ⟨.bl kk, H', I', rfl, by rw [Bool.bne_false] at qz; exact qz⟩⟩
theorem op_ownNe (ok : LkOk L n) (hK : X.K = L.K) (T : EqC X.K (L.cA c) f n L.cA) (F : Df X.prog X.w X.K X.mg X.base L k f fd ps g) (hr : Room (k + 1) X.A) (hg : X.A.guards = some []) (hb : Binds X.K fd ps []) (hl : ps.length = 2) : OpR X (compareOp .NotEq) (ownR L c n g true) := by
  intro pins s σ H x y v u Q I rx ry h
  obtain ⟨dx, dy, ι, m, G, fs, vs, t, w, r1, r2, e1, e2, e3, q⟩ := h
  obtain ⟨a, dxa, us, rfl, h1, _, _⟩ := view_ins w r1 e1
  obtain rfl : v = Value.ref a := rx
  obtain ⟨mA, J, _⟩ := ins_get I.hok h1
  obtain ⟨od, J, _⟩ := J.look
  have ty := tyx_of ok w r2 e2 (fun c' h => by subst h; exact of_decide_eq_true e3)
  rw [← hK] at ty
  obtain ⟨P, Z, p, _⟩ := kit_ofZ I ry ty
  refine ne_own T (by have := hr.units; omega) I.kIn J (Z.ty _ _ I.kIn p) (first_ok ok T e3 fun b hb => by subst hb; exact tyOf_names e2) ?_
  refine wpAny_mono (run_dfA (A := X.A.in1) (us := [.ref a, u]) (vs := [.ref a, y]) F hr.in1 hg hb I.env0.in1 I (.cons rfl (.cons ry .nil)) (by rw [hl]; rfl) w (.cons r1 (.cons r2 .nil)) q) (fun v' s' z => ?_) fun _ _ z => z
  obtain ⟨z', H', I', rz, kk, rfl, qz⟩ := z
  obtain rfl : v' = Value.bool kk := rz
  exact ⟨kk, rfl, ⟨.bl (!kk), H', I', rfl, by rw [Bool.bne_true] at qz; exact qz⟩⟩
end
/-- data, or an instance on the left -/
def eqO (c n : Nat) (g : List D → M D) (neg : Bool) (f : D → D → M D) (x y : D) : M D := fun m => match insV m x with
  | some _ => ownD c n g neg x y m
  | none => f x y m
theorem so_eqO {c n : Nat} {g : List D → M D} {neg : Bool} {r : R2} {f : D → D → M D} (h : SO L r f) : SO L (fun x y H Q => ownR L c n g neg x y H Q ∨ r x y H Q) (eqO c n g neg f) := by
  intro E ι m G H x y a b Q w rx ry q
  unfold eqO at q
  split at q
  · exact .inl (so_own E ι m G H x y a b Q w rx ry q)
  · exact .inr (h E ι m G H x y a b Q w rx ry q)
end Eng

set_option maxRecDepth 100000
set_option maxHeartbeats 4000000
namespace Eng
open PySem PySem.Spec PyProof.Rows L2
variable {L : Lk} {X : Cx} {E : XK} {Wx : WX}

/-! ### stores -/
def putV {κ α : Type} [DecidableEq κ] : List κ → List α → κ → α → List α
  | k :: ks, v :: vs, x, y => (if k = x then y else v) :: putV ks vs x y
  | _, _, _, _ => []
def putKL {κ α : Type} [DecidableEq κ] (ks : List κ) (vs : List α) (x : κ) (y : α) : List κ × List α := if x ∈ ks then (ks, putV ks vs x y) else (ks ++ [x], vs ++ [y])
theorem putV_length {κ α : Type} [DecidableEq κ] {x : κ} {y : α} : ∀ {ks : List κ} {vs : List α}, ks.length = vs.length → (putV ks vs x y).length = vs.length
  | [], [], _ => rfl
  | [], _ :: _, h => by cases h
  | _ :: _, [], h => by cases h
  | k :: ks, v :: vs, h => by unfold putV; rw [List.length_cons, List.length_cons, putV_length (by simpa using h)]
theorem zip_snoc {κ α : Type} {x : κ} {y : α} : ∀ {ks : List κ} {vs : List α}, ks.length = vs.length → ks.zip vs ++ [(x, y)] = (ks ++ [x]).zip (vs ++ [y])
  | [], [], _ => rfl
  | [], _ :: _, h => by cases h
  | _ :: _, [], h => by cases h
  | k :: ks, v :: vs, h => by rw [List.zip_cons_cons, List.cons_append, zip_snoc (by simpa using h), List.cons_append, List.cons_append, List.zip_cons_cons]
theorem putK_zip {κ : Type} [DecidableEq κ] {x : κ} {y : V} {ks : List κ} {vs : List V} (hl : ks.length = vs.length) : putK (ks.zip vs) x y = (putKL ks vs x y).1.zip (putKL ks vs x y).2 := by
  have e1 : ∀ {ks : List κ} {vs : List V}, ks.length = vs.length → ((ks.zip vs).any fun kv => decide (kv.1 = x)) = decide (x ∈ ks) := by
    intro ks
    induction ks with
    | nil => intro vs h; simp
    | cons k ks ih =>
      intro vs h
      cases vs with
      | nil => cases h
      | cons v vs =>
        rw [List.zip_cons_cons, List.any_cons, ih (by simpa using h)]
        by_cases hk : k = x
        · simp [hk]
        · simp [hk, Ne.symm hk]
  have e2 : ∀ {ks : List κ} {vs : List V}, ks.length = vs.length → (ks.zip vs).map (fun kv => if kv.1 = x then (kv.1, y) else kv) = ks.zip (putV ks vs x y) := by
    intro ks
    induction ks with
    | nil => intro vs h; rfl
    | cons k ks ih =>
      intro vs h
      cases vs with
      | nil => cases h
      | cons v vs =>
        unfold putV
        rw [List.zip_cons_cons, List.map_cons, ih (by simpa using h), List.zip_cons_cons]
        by_cases hk : k = x
        · simp [hk]
        · simp [hk]
  unfold putK putKL
  rw [e1 hl]
  by_cases h : x ∈ ks
  · rw [if_pos (decide_eq_true h), if_pos h, e2 hl]
  · rw [if_neg (by simpa using h), if_neg h]
    exact zip_snoc hl
theorem putV_rep {κ : Type} [DecidableEq κ] {G : Hp} {ι : List Addr} {x : κ} {y : V} {d : D} (r : Rep L G ι y d) : ∀ {ks : List κ} {vs : List V} {ds : List D}, RepL L G ι vs ds → RepL L G ι (putV ks vs x y) (putV ks ds x d)
  | [], _, _, .nil => .nil
  | [], _, _, .cons _ _ => .nil
  | _ :: _, _, _, .nil => .nil
  | k :: ks, _, _, .cons a b => by
    unfold putV
    by_cases h : k = x
    · rw [if_pos h, if_pos h]; exact .cons r (putV_rep r b)
    · rw [if_neg h, if_neg h]; exact .cons a (putV_rep r b)
theorem putKL_rep {κ : Type} [DecidableEq κ] {G : Hp} {ι : List Addr} {x : κ} {y : V} {d : D} {ks : List κ} {vs : List V} {ds : List D} (hl : ks.length = ds.length) (r : Rep L G ι y d) (h : RepL L G ι vs ds) :
    (putKL ks vs x y).1 = (putKL ks ds x d).1 ∧ (putKL ks ds x d).1.length = (putKL ks ds x d).2.length ∧ RepL L G ι (putKL ks vs x y).2 (putKL ks ds x d).2 := by
  unfold putKL
  by_cases e : x ∈ ks
  · rw [if_pos e, if_pos e]
    exact ⟨rfl, by rw [putV_length hl]; exact hl, putV_rep r h⟩
  · rw [if_neg e, if_neg e]
    exact ⟨rfl, by rw [List.length_append, List.length_append, hl]; rfl, h.append (.cons r .nil)⟩
def keyT : D → Option (List Key)
  | .tup l => keysD l
  | _ => none
/-- o[i] = v -/
def setD (o i v : D) : M Unit := fun m => match o with
  | .ref k => match m[k]? with
    | some (.lst l) => match i with
      | .int z => match ixN l.length z with
        | some j => .ok () (m.set k (.lst (l.set j v)))
        | none => .bad
      | _ => .bad
    | some (.dK ks vs) => match keyD i with
      | some x => if ks.length < 1000000 then .ok () (m.set k (.dK (putKL ks vs x v).1 (putKL ks vs x v).2)) else .bad
      | none => .bad
    | some (.dT ks vs) => match keyT i with
      | some x => if ks.length < 1000000 then .ok () (m.set k (.dT (putKL ks vs x v).1 (putKL ks vs x v).2)) else .bad
      | none => .bad
    | _ => .bad
  | _ => .bad
theorem PSet.or {t t' : TSet} (h : PSet X t) (h' : PSet X t') : PSet X (fun o i v H Q => t o i v H Q ∨ t' o i v H Q) :=
  fun pins s σ H o i v ov iv u Q I ro ri rv q => q.elim (h pins s σ H o i v ov iv u Q I ro ri rv) (h' pins s σ H o i v ov iv u Q I ro ri rv)
def rSet : TSet := fun o i v H Q => rSetL o i v H Q ∨ rSetD o i v H Q
theorem set_rs {ι : List Addr} {G H : Hp} {m : Mem} {o i v : V} {d e x : D} {Q : Hp → Prop} (w : W L ι m G H) (r1 : Rep L G ι o d) (r2 : Rep L G ι i e) (r3 : Rep L G ι v x) (q : Post L E ι G H (setD d e x m) (fun _ _ _ _ H' => Q H')) : rSet o i v H Q := by
  unfold setD at q
  cases r1 with
  | ref hk =>
    rename_i a k
    dsimp only at q
    cases hm : m[k]? with
    | none => rw [hm] at q; exact q.elim
    | some ob =>
      rw [hm] at q
      have hmem := List.mem_of_getElem? hk
      cases ob with
      | lst l =>
        obtain ⟨u, h1, h2⟩ := w.cell _ _ _ hk hm trivial
        cases u <;> try exact h2.elim
        rename_i vs
        have h2 : RepL L G ι vs l := h2
        cases r2 with
        | int z =>
          dsimp only at q
          cases hj : ixN l.length z with
          | none => rw [hj] at q; exact q.elim
          | some j =>
            rw [hj] at q
            refine .inl ⟨a, vs, z, j, rfl, rfl, h1, by rw [h2.length]; exact hj, ?_⟩
            exact q ι G _ (Le.set hmem) (w.set hk hm trivial fun _ => h2.set r3 j)
        | _ => exact q.elim
      | dK ks ds =>
        obtain ⟨u, h1, h2⟩ := w.cell _ _ _ hk hm trivial
        cases u <;> try exact h2.elim
        obtain ⟨vs, rfl, hl, rl⟩ := h2
        dsimp only at q
        cases hx : keyD e with
        | none => rw [hx] at q; exact q.elim
        | some y =>
          rw [hx] at q
          dsimp only at q
          by_cases hb : ks.length < 1000000
          case neg => rw [if_neg hb] at q; exact q.elim
          rw [if_pos hb] at q
          have hz : (ks.zip vs).length < sizeLine := by
            rw [List.length_zip, rl.length, ← hl, Nat.min_self]
            exact big_ok hb
          refine .inr ⟨a, _, rfl, .inl ⟨_, y, h1, rep_key r2 hx, hz, rfl⟩, ?_⟩
          obtain ⟨e1, e2, e3⟩ := putKL_rep (x := y) hl r3 rl
          refine q ι G _ (Le.set hmem) (w.set hk hm trivial fun _ => ⟨_, ?_, e2, e3⟩)
          rw [putK_zip (by rw [rl.length]; exact hl), e1]
      | dT ks ds =>
        obtain ⟨u, h1, h2⟩ := w.cell _ _ _ hk hm trivial
        cases u <;> try exact h2.elim
        obtain ⟨vs, rfl, hl, rl⟩ := h2
        dsimp only at q
        cases hx : keyT e with
        | none => rw [hx] at q; exact q.elim
        | some y =>
          rw [hx] at q
          dsimp only at q
          by_cases hb : ks.length < 1000000
          case neg => rw [if_neg hb] at q; exact q.elim
          rw [if_pos hb] at q
          have hz : (ks.zip vs).length < sizeLine := by
            rw [List.length_zip, rl.length, ← hl, Nat.min_self]
            exact big_ok hb
          cases r2 with
          | tup h3 r4 =>
            have h3 := w.sub _ _ h3
            rw [rep_keys r4 hx] at h3
            refine .inr ⟨a, _, rfl, .inr ⟨_, y, _, h1, rfl, h3, hz, rfl⟩, ?_⟩
            obtain ⟨e1, e2, e3⟩ := putKL_rep (x := y) hl r3 rl
            refine q ι G _ (Le.set hmem) (w.set hk hm trivial fun _ => ⟨_, ?_, e2, e3⟩)
            rw [putK_zip (by rw [rl.length]; exact hl), e1]
          | _ => cases hx
      | _ => exact q.elim
  | _ => exact q.elim
/-- o[i] as a target -/
theorem sg_sub {own : List Nat} {o i : Expr} {fo fi : Env → M D} {pos : Pos} (hu : X.A.units + 1 < cLine) (ho : SE X L WF o fo) (hi : SE X L WF i fi)
    (ha : ∀ v, assign (.Subscript o i pos) X.env v = (do
      let ov ← holding [v] (eval o X.env)
      let iv ← holding [v, ov] (eval i X.env)
      standAt pos
      holding [v, ov, iv] (setItem ov iv v)
      release [v, ov, iv] [])) : SG X L own (.Subscript o i pos) (fun d env => do let x ← noX (fo env); let y ← noX (fi env); setD x y d; pure env) := by
  refine ⟨_, pg_sub (t := rSet) ho.pe hi.pe (PSet.or set_list (set_dict hu)) ha, fun v d σ H Q env ι m G w r rr q => ?_⟩
  refine ⟨env, ι, m, G, w, rr, Post.imp (post_noX (Post.bind q)) fun d1 m1 ι1 G1 H1 l1 w1 q1 x rx => ?_⟩
  refine ⟨env, ι1, m1, G1, w1, rr.le l1, Post.imp (post_noX (Post.bind q1)) fun d2 m2 ι2 G2 H2 l2 w2 q2 y ry => ?_⟩
  refine set_rs (E := XF) w2 (rx.le l2) ry ((r.le l1).le l2) (Post.imp (Post.bind q2) fun _ m3 ι3 G3 H3 l3 w3 q3 => ?_)
  exact (Post.at q3 w3) σ (((rr.le l1).le l2).le l3) rfl

/-! ### an attribute's store -/
def putFL : List Str → List D → Str → D → List Str × List D
  | [], _, f, d => ([f], [d])
  | _, [], f, d => ([f], [d])
  | g :: fs, v :: vs, f, d => if g = f then (g :: fs, d :: vs) else (g :: (putFL fs vs f d).1, v :: (putFL fs vs f d).2)
theorem putF_rep {G : Hp} {ι : List Addr} {f : Str} {y : V} {d : D} (r : Rep L G ι y d) : ∀ {fs : List Str} {vs : List V} {ds : List D}, fs.length = ds.length → RepL L G ι vs ds → ∃ us, putF f y (fs.zip vs) = (putFL fs ds f d).1.zip us ∧ (putFL fs ds f d).1.length = (putFL fs ds f d).2.length ∧ RepL L G ι us (putFL fs ds f d).2
  | [], _, _, hl, .nil => ⟨[y], rfl, rfl, .cons r .nil⟩
  | [], _, _, hl, .cons _ _ => by cases hl
  | _ :: _, _, _, hl, .nil => by cases hl
  | g :: fs, v :: vs, e :: ds, hl, .cons a b => by
    rw [List.zip_cons_cons]
    unfold putF putFL
    by_cases h : g = f
    · rw [if_pos h, if_pos h]
      exact ⟨y :: vs, rfl, by simpa using hl, .cons r b⟩
    · rw [if_neg h, if_neg h]
      obtain ⟨us, h1, h2, h3⟩ := putF_rep r (by simpa using hl) b
      exact ⟨v :: us, by rw [h1]; rfl, by simpa using h2, .cons a h3⟩
def setA (n : Nat) (fl : Nat → List Str) (f : Str) (o v : D) : M Unit := fun m => match o with
  | .ref k => match m[k]? with
    | some (.ins c fs vs) => if c < n ∧ f ∈ fl c ∧ fs.length < 1000 then .ok () (m.set k (.ins c (putFL fs vs f v).1 (putFL fs vs f v).2)) else .bad
    | _ => .bad
  | _ => .bad
theorem ss_setA {n : Nat} {fl : Nat → List Str} {o a : Expr} {fo fa : Env → M D} {f : Str} {pos pos' : Pos} (ok : LkOk L n) (fok : FlOk L n fl) (hK : X.K = L.K) (ho : SE X L Wx o fo) (ha : SE X L Wx a fa) (hs : swapsWith a (some (.Attribute o f pos')) pos.line X.env = pure false) :
    SS X L Wx (.Assign [.Attribute o f pos'] a pos) (fun env => exB env (do let v ← fa env; let x ← fo env; setA n fl f x v) fun _ => pure (.nx env)) := by
  refine ⟨_, ps_fld ho.pe ha.pe hs, fun Z σ H env ι m G w rr q => ?_⟩
  have q0 := post_exB q rr
  refine ⟨env, ι, m, G, w, rr, Post.imp (Post.bind q0) fun d m1 ι1 G1 H1 l1 w1 q1 y ry => ?_⟩
  refine ⟨env, ι1, m1, G1, w1, rr.le l1, Post.imp (Post.bind q1) fun d2 m2 ι2 G2 H2 l2 w2 q2 x rx => ?_⟩
  unfold setA at q2
  cases rx with
  | ref hk =>
    rename_i p k
    dsimp only at q2
    cases hm : m2[k]? with
    | none => rw [hm] at q2; exact q2.elim
    | some ob =>
      rw [hm] at q2
      cases ob with
      | ins c fs vs =>
        dsimp only at q2
        by_cases hc : c < n ∧ f ∈ fl c ∧ fs.length < 1000
        case neg => rw [if_neg hc] at q2; exact q2.elim
        rw [if_pos hc] at q2
        obtain ⟨u, h1, h2⟩ := w2.cell _ _ _ hk hm trivial
        cases u <;> try exact h2.elim
        rename_i C0 dx0 kvs0
        obtain ⟨rfl, us, rfl, hl, rl⟩ := h2
        obtain ⟨us', e1, e2, e3⟩ := putF_rep (f := f) (ry.le l2) hl rl
        rw [hK]
        refine ⟨p, _, _, _, rfl, h1, (ok.cls c hc.1).cl, fok.na c hc.1 f hc.2.1, by rw [List.length_zip, rl.length, ← hl, Nat.min_self]; exact hc.2.2, ?_⟩
        have l3 : Le ι2 G2 H2 ι2 G2 (upd H2 p (.ins (L.cA c) dx0 (putF f y (fs.zip us)))) := Le.set (List.mem_of_getElem? hk)
        have w3 := w2.set (u := .ins (L.cA c) dx0 (putF f y (fs.zip us))) hk hm trivial (o' := .ins c (putFL fs vs f d).1 (putFL fs vs f d).2) fun _ => ⟨rfl, us', e1, e2, e3⟩
        exact (Post.at (q2 _ _ _ l3 w3) w3) σ (((rr.le l1).le l2).le l3)
      | _ => exact q2.elim
  | _ => exact q2.elim

/-! ### methods of lists -/
def isL (m : Mem) (d : D) : Bool := match d with
  | .lst _ => true
  | .scr _ => true
  | .ref k => match m[k]? with
    | some (.lst _) => true
    | _ => false
  | _ => false
theorem isL_ok {ι : List Addr} {G H : Hp} {m : Mem} {v : V} {d : D} (w : W L ι m G H) (r : Rep L G ι v d) (h : isL m d = true) : L2.tyV L.K "list" v H := by
  unfold isL at h
  cases r with
  | lst a b => exact .inl ⟨rfl, _, .inl (Rd.of (w.sub _ _ a))⟩
  | scr a b => exact .inl ⟨rfl, _, w.sqL a⟩
  | ref hk =>
    dsimp only at h
    split at h
    · rename_i l hm
      obtain ⟨u, h1, h2⟩ := w.cell _ _ _ hk hm trivial
      cases u <;> first | exact .inl ⟨rfl, _, .inl (Rd.of h1)⟩ | exact h2.elim
    · cases h
  | _ => cases h
def lmD (d : D) (k : M D) : M D := fun m => if isL m d = true then k m else .bad
theorem se_lm {o e : Expr} {es : List Expr} {name : Str} {id : String} {apos cpos : Pos} {r : V → List V → Hp → VK → Prop} {fo : Env → M D} {fs : Env → M (List D)} {f : D → List D → M D} (hK : X.K = L.K) (slot : Slot "list" name id) (hty : typeOf (.builtin id) = pure (.type "method_descriptor")) (hm : MtR X id r) (hf : SM L r f)
    (ho : SE X L Wx o fo) (ha : SA X L Wx (e :: es) fs) (hbase : attributeBase o name X.env (eval o X.env) = eval o X.env)
    (hfew : ((backTo cpos (starEach (e :: es) X.env)).all (fun x => !x.1) && (backToKw cpos (keywordEach [] X.env)).all (fun x => x.1.isSome) && decide ((e :: es).length + ([] : List Keyword).length + (if ([] : List Keyword).isEmpty then 0 else 1) < 30)) = true) (hline : (apos.endLine == cpos.line) = true) :
    SE X L Wx (.Call (.Attribute o name apos) (e :: es) [] cpos) (fun env => do let d ← fo env; lmD d (do let l ← fs env; f d l)) := by
  obtain ⟨⟨t, pa, hr⟩, _, hs, hp⟩ := ha
  have h1 := hs e es rfl
  have h2 : (backTo cpos (starEach es X.env)).any (·.1) = false := by
    have := hp cpos
    rw [h1] at this
    exact (Bool.or_eq_false_iff.mp this).2
  refine ⟨_, pe_bm PySem.F.plainAttrs_list slot hty hm ho.pe pa hbase hfew hline h1 h2, fun σ H Q env ι m G w rr q => ?_⟩
  refine ⟨env, ι, m, G, w, rr, Post.imp (Post.bind q) fun d m1 ι1 G1 H1 l1 w1 q1 x rx => ?_⟩
  unfold lmD at q1
  by_cases hl : isL m1 d = true
  case neg => rw [if_neg hl] at q1; exact q1.elim
  rw [if_pos hl] at q1
  refine ⟨by rw [hK]; exact isL_ok w1 rx hl, ?_⟩
  exact hr σ H1 _ env ι1 m1 G1 w1 (rr.le l1) (Post.imp (Post.bind q1) fun l m2 ι2 G2 H2 l2 w2 q2 vs rv => hf _ ι2 m2 G2 H2 x vs d l Q w2 (rx.le l2) rv q2)
def appD (d : D) (l : List D) : M D := fun m => match cellL m d, l with
  | some (k, xs), [x] => if xs.length < 1000000 then .ok .non (m.set k (.lst (xs ++ [x]))) else .bad
  | _, _ => .bad
theorem sm_app : SM L rAppend appD := by
  intro E ι m G H o vs d a Q w r rl q
  unfold appD at q
  split at q
  · rename_i k xs x e
    obtain ⟨p, us, rfl, rfl, hk, hm, h1, r1⟩ := cell_list w r e
    split at q
    · rename_i hz
      cases rl with
      | cons r2 rn =>
        cases rn
        exact ⟨p, us, _, rfl, rfl, h1, by rw [r1.length]; exact big_ok hz, set_ok q w hk hm trivial (r1.append (.cons r2 .nil)) .non⟩
    · exact q.elim
  · exact q.elim
end Eng

set_option maxRecDepth 100000
set_option maxHeartbeats 4000000
namespace Eng
open PySem PySem.Spec PyProof.Rows L2
/-! ### the law's head -/
theorem rep_ints {L : Lk} {G : Hp} {ι : List Addr} : ∀ ns : List Int, RepL L G ι (ns.map V.int) (ns.map D.int)
  | [] => .nil
  | n :: ns => .cons (.int n) (rep_ints ns)
theorem gle_none {G : Hp} : GLe (fun _ => none) G := ⟨fun a u r => (by rcases r with r | ⟨o, r⟩ <;> cases r), fun a u e => (by cases e)⟩
theorem law_callG {P : Program} {w : World} {K : PySem.W.Frag} {mg mb : Str → Option Value} {k : Nat} {fa a : Addr} {fd : FuncData} {x : Str} {L : Lk} {g : List D → M D} {sB : Shared} {vs : List Value} {ns : List Int}
    (kIn : K.In sB.heap) (hGl : sB.heap.Ns mainGlobals mg) (hb : sB.heap.Ns builtinsNs mb) (hBm : ∀ x : Str, x ≠ "__name__" → mb x = bootBuiltins x) (hNo : sB.heap.NoLimit) (hg : sB.gens = #[])
    (ha : sB.heap.get? a = some { cls := .type "list", data := .seq vs.toArray }) (hi : IntsAre vs ns) (hl : ns.length ≤ sizeLine) (hr : Room k callerA)
    (F : ∀ base : Heap, K.In base → base.Ns mainGlobals mg → Df P w K mg base L k fa fd [x] g) (hLK : L.K = K) (hlf : L.lf = ([], fun _ => none)) (hbind : ∀ (s : Shared) (u : Value), BindsTo s fd ⟨[u], []⟩ [(x, u)])
    (hsp : ∃ m', g [.scr (ns.map D.int)] [] = .ok (.bl true) m') :
    codeAny (model P w) callerA (.call (.ref fa) ⟨[.ref a], []⟩) (fun r s' => r = .ok (.ret (.bool true)) ∧ OldK sB.heap s'.heap ∧ s'.os = sB.os ∧ AllBare s'.gens) sB := by
  have rvals := vals_ints hi
  have lenOf := hi.length
  -- from an abstract heap in which nothing but the script may be tracked
  have core : ∀ H : Hp, Only H → SqL K H a (ns.map V.int) → HOk P w H sB.heap → (∀ b, H b ≠ none → b = a) → (H a ≠ none → K.lookup a = none) →
      codeAny (model P w) callerA (.call (.ref fa) ⟨[.ref a], []⟩) (fun r s' => r = .ok (.ret (.bool true)) ∧ OldK sB.heap s'.heap ∧ s'.os = sB.os ∧ AllBare s'.gens) sB := by
    intro H only1 seqS okB atA noKa
    have ground : ∀ {b : Addr} {o : Obj}, sB.heap.get? b = some o → H b = none → (hidT sB.heap H).get? b = some o := fun e n => hidT_get e n
    have plainA : ∀ {b : Addr} {o : Obj} {es : Array DictEntry} {ep : Nat}, sB.heap.get? b = some o → o.data = .dict es ep → H b = none := fun {b o es ep} e d => by
      cases q : H b with
      | none => rfl
      | some u =>
        have e' : b = a := atA b (by rw [q]; simp)
        subst e'
        rw [ha] at e; cases e
        have d' : Data.seq vs.toArray _ = Data.dict es ep := d
        cases d'
    have nsG : ∀ {b : Addr} {m : Str → Option Value}, sB.heap.Ns b m → (hidT sB.heap H).Ns b m := fun {b m} ⟨o, es, ep, e, d, r⟩ => ⟨o, es, ep, ground e (plainA e d), d, r⟩
    have kGr : K.In (hidT sB.heap H) := fun b o e => ground (kIn b o e) (by
      cases q : H b with
      | none => rfl
      | some u =>
        have e' : b = a := atA b (by rw [q]; simp)
        subst e'
        rw [noKa (by rw [q]; simp)] at e; cases e)
    have modG : Mod K mg (hidT sB.heap H) := ⟨kGr, nsG hGl, ⟨mb, nsG hb, hBm⟩, let ⟨mc, h1, h2⟩ := hNo; ⟨mc, nsG h1, h2⟩⟩
    have e0 : Env0 P w K mg (hidT sB.heap H) callerA [] sB H := ⟨rfl, modG, fun b o e => of_hidT e, Nat.le_of_eq (hidT_size _ _), trivial, fun b hb => absurd (show b ∈ ([] : List Addr) from hb) (by simp), okB, .of_eq hg⟩
    obtain ⟨m', hm'⟩ := hsp
    have w0 : Eng.W L [] [] H H := ⟨fun _ _ e => e, List.nodup_nil, rfl, fun _ z => (by cases z), fun _ _ _ e => (by cases e), fun _ _ _ e => (by cases e), by rw [hlf]; exact ⟨List.nil_prefix, gle_none⟩⟩
    have rl : RepL L H [] [V.ref a] [D.scr (ns.map D.int)] := .cons (.scr (by rw [hLK]; exact seqS) (rep_ints ns)) .nil
    refine codeAny_mono ((F _ kGr (nsG hGl)).go callerA [] sB H ⟨[.ref a], []⟩ [.ref a] [.ref a] _ [] [] H (fun v _ => v = .bl true) (fun _ _ _ => False) hr rfl e0 (hbind sB (.ref a)) (.cons rfl .nil) rfl w0 rl (by
      rw [hm']
      exact fun ι' G' H' l w' v rvals => by cases rvals; rfl)) fun r s' h => ?_
    cases r with
    | error e =>
      obtain ⟨_, _, _, _, _, _, _, _, _, _, _, _, z⟩ := h
      exact z.elim
    | ok fl =>
      cases fl with
      | next => exact False.elim h
      | brk => exact False.elim h
      | cont => exact False.elim h
      | ret u =>
        obtain ⟨v, H', os, bare, un, okE, r', q⟩ := h
        have q' : v = .bl true := q
        subst q'
        obtain rfl : u = Value.bool true := r'
        refine ⟨rfl, OldK.of_keep fun b o e => ?_, os, bare⟩
        cases q : H b with
        | none => exact un.keep b o e q (by intro z; exact absurd (show b ∈ ([] : List Addr) from z) (by simp)) (by simp)
        | some u =>
          rcases only1 b with z | ⟨ob, xs, z⟩
          · rw [q] at z; cases z
          · have z2 := un.frzs b ob _ z
            obtain ⟨e1, _⟩ := okB b _ z
            obtain ⟨e2, _⟩ := okE b _ z2
            rw [e] at e1; cases e1
            exact e2
  cases hk : K.lookup a with
  | some o =>
    -- the script is one of the module's own objects
    have e := kIn a o hk
    rw [ha] at e
    cases e
    refine core (fun _ => none) (fun _ => .inl rfl) (.inr ⟨_, vs.toArray, _, hk, rfl, rfl, rfl, by rw [List.size_toArray, lenOf]; exact hl, by simpa using rvals⟩) (fun b u z => by have z' : (none : Option HO) = some u := z; cases z') (fun b z => absurd rfl z) fun z => absurd rfl z
  | none =>
    refine core (fun b => if b = a then some (.frz { cls := .type "list", data := .seq vs.toArray } (.lst (ns.map V.int))) else none) (fun b => ?_) (.inl (.inr ⟨{ cls := .type "list", data := .seq vs.toArray }, if_pos rfl⟩)) (fun b u z => ?_) (fun b z => ?_) fun _ => hk
    · by_cases hb : b = a
      · exact .inr ⟨_, _, if_pos hb⟩
      · exact .inl (if_neg hb)
    · by_cases hb : b = a
      · have z' := (if_pos hb).symm.trans z
        cases z'
        subst hb
        exact ⟨ha, by rw [List.length_map]; exact hl, vs, _, rvals, ha⟩
      · have z' := (if_neg hb).symm.trans z
        cases z'
    · by_cases hb : b = a
      · exact hb
      · exact absurd (if_neg hb) z

theorem walk_ofG {l : PySem.W.OpenLaw} {n k : Nat} {q : Program} {loose : List Str} {XP : (Str → Option Value) → Heap → Prop} {YP : World → Heap → Prop} {d : DefRec} {K : Params → PySem.W.Frag} {g : List D → M D} {x : Str}
    (hn : l.most = some n) (hn2 : n ≤ sizeLine) (hDe : d.params.defaults = []) (hr : Room k callerA)
    (hIn : ∀ (w : World) (h : Heap), YP w h → (K w.params).In h)
    (F : ∀ (w : World) (mg : Str → Option Value) (fa : Addr) (h : Heap), (K w.params).In h → h.Ns mainGlobals mg → mg d.name = some (.ref fa) →
      ∃ (fd : FuncData) (L : Lk), L.K = K w.params ∧ L.lf = ([], fun _ => none) ∧ (∀ (s : Shared) (u : Value), BindsTo s fd ⟨[u], []⟩ [(x, u)]) ∧
        ∀ base : Heap, (K w.params).In base → base.Ns mainGlobals mg → Df l.prog w (K w.params) mg base L k fa fd [x] g)
    (hsp : ∀ ns : List Int, ns.length ≤ n → ∃ m', g [.scr (ns.map D.int)] [] = .ok (.bl true) m') :
    PySem.W.WalkO q loose XP YP l.row.toRowW d [] (fun f vs => PySem.call f vs) := by
  refine Att.attach_call hn hDe fun w sA sB mg mb fa o pm cd doc a vs ns G Y ho hd hcd hmg hOb hAll hlen hg => ?_
  have kIn := hIn w _ Y
  obtain ⟨fd, L, hL, hlf, hb, hF⟩ := F w mg fa _ kIn G.T.g hmg
  exact law_callG kIn G.T.g G.T.b G.T.builtins G.T.nolimit hg hOb hAll (Nat.le_trans hlen hn2) hr hF hL hlf hb (hsp ns hlen)

end Eng

set_option maxRecDepth 100000
set_option maxHeartbeats 4000000
namespace Eng
open PySem PySem.Spec PyProof.Rows L2
variable {L : Lk} {X : Cx} {E : XK} {Wx : WX}

/-! ### a context told by tables -/
structure GoodB (K : PySem.W.Frag) (mg : Str → Option Value) (N : List Str) (sc : Scope) (fn : Str → Bool) (X : Cx) : Prop where
  hK : X.K = K
  hmg : X.mg = mg
  hN : X.N = N
  nd : N.Nodup
  hsc : X.env.scope = sc
  hfn : X.fn = fn
section
variable {P : Program} {w : World} {K : PySem.W.Frag} {mg : Str → Option Value} {base : Heap} {N : List Str} {sc : Scope} {fn : Str → Bool} {k : Nat}
theorem Good.b (g : Good P w K mg base N sc fn k Wx X) : GoodB K mg N sc fn X := ⟨g.hK, g.hmg, g.hN, g.nd, g.hsc, g.hfn⟩
theorem GoodB.suite (g : GoodB K mg N sc fn X) (a : Addr) (pn : List (Addr × Obj)) : GoodB K mg N sc fn (X.suite a pn) := ⟨g.hK, g.hmg, g.hN, g.nd, g.hsc, g.hfn⟩
theorem Good.tr (g : Good P w K mg base N sc fn k Wx X) {W : WX} {pn : List (Addr × Obj)} {xe : Value → Shared → Prop} (tk : L2N.Takes (X.tr pn xe) W) (po : PassesOwn (model X.prog X.w) X.A X.env xe) : Good P w K mg base N sc fn k W (X.tr pn xe) :=
  ⟨g.hP, g.hw, g.hK, g.hmg, g.hb, g.hN, g.nd, g.hsc, g.hfn, g.hr, g.hg, g.calm, tk, po⟩
theorem Good.blk (g : Good P w K mg base N sc fn k Wx X) (hk : sc.kind = .function) (s : Shared) (H : Hp) (scope : Scope) (C : Addr) (cl : List (Str × Addr)) (fp : List Addr) :
    Good P w K mg base N (relS scope sc) (fun x => scope.names.lookup x == some .cell) k WF (X.blk s H scope (compEnvC scope cl C X.env) fp) := by
  refine ⟨g.hP, g.hw, g.hK, g.hmg, g.hb, g.hN, g.nd, ?_, rfl, g.hr, g.hg, g.calm, takesF, PassesOwn.never⟩
  show relabel scope X.env = relS scope sc
  unfold relabel relS Env.kindOf
  rw [g.hsc]
theorem Good.mono {j : Nat} (g : Good P w K mg base N sc fn k Wx X) (h : j ≤ k) : Good P w K mg base N sc fn j Wx X :=
  ⟨g.hP, g.hw, g.hK, g.hmg, g.hb, g.hN, g.nd, g.hsc, g.hfn, g.hr.mono h, g.hg, g.calm, g.tk, g.po⟩
def visB (sc : Scope) (x : Str) : Bool := (match sc.names.lookup x with
  | some .local => true
  | some .cell => true
  | some .free => true
  | _ => false) && (!(x == ("__debug__" : Str)) && !(x == ("__classdict__" : Str)))
theorem visB_ok {x : Str} (h : visB sc x = true) : Vis sc x ∧ (x == ("__debug__" : Str)) = false ∧ (x == ("__classdict__" : Str)) = false := by
  unfold visB at h
  obtain ⟨h1, h2⟩ := Bool.and_eq_true_iff.mp h
  obtain ⟨h2, h3⟩ := Bool.and_eq_true_iff.mp h2
  refine ⟨?_, by simpa using h2, by simpa using h3⟩
  unfold Vis
  split at h1
  · rename_i e; exact .inl e
  · rename_i e; exact .inr (.inl e)
  · rename_i e; exact .inr (.inr e)
  · cases h1
theorem GoodB.name (g : GoodB K mg N sc fn X) (i : Nat) {x : Str} {pos : Pos} (h1 : N[i]? = some x) (h2 : visB sc x = true) : SE X L Wx (.Name x pos) (fun env => getE env i) := by
  obtain ⟨a, b, c⟩ := visB_ok h2
  exact se_var (by rw [g.hN]; exact h1) (by rw [g.hsc]; exact a) b c
def glB (sc : Scope) (x : Str) : Bool := (sc.names.lookup x == some .globalImplicit) && !(x == ("__debug__" : Str))
theorem GoodB.gl (g : GoodB K mg N sc fn X) {x : Str} (h : glB sc x = true) : Gl X x := by
  obtain ⟨h1, _⟩ := Bool.and_eq_true_iff.mp h
  show X.env.scope.names.lookup x = _
  rw [g.hsc]
  exact of_decide_eq_true (by simpa using h1)
theorem glB_db {x : Str} (h : glB sc x = true) : (x == ("__debug__" : Str)) = false := by
  obtain ⟨_, h2⟩ := Bool.and_eq_true_iff.mp h
  simpa using h2
/-- a local: or a cell of the def's own -/
def locB (sc : Scope) (fn : Str → Bool) (x : Str) : Bool := match sc.names.lookup x with
  | some .local => true
  | some .cell => fn x
  | _ => false
theorem locB_ok {x : Str} (h : locB sc fn x = true) : L2.Loc sc x ∧ (fn x = true ∨ sc.names.lookup x = some .local) := by
  unfold locB at h
  unfold L2.Loc
  split at h
  · rename_i e; exact ⟨.inl e, .inr e⟩
  · rename_i e; exact ⟨.inr e, .inl h⟩
  · cases h
theorem GoodB.set (g : GoodB K mg N sc fn X) (i : Nat) {x : Str} {a : Expr} {fa : Env → M D} {pos pos' : Pos} (h1 : N[i]? = some x) (h2 : locB sc fn x = true) (ha : SE X L Wx a fa) (hs : swapsWith a (some (.Name x pos')) pos.line X.env = pure false) :
    SS X L Wx (.Assign [.Name x pos'] a pos) (fun env => exB env (fa env) fun d => pure (.nx (env.set i (some d)))) := by
  obtain ⟨a1, a2⟩ := locB_ok h2
  exact ss_set (by rw [g.hN]; exact g.nd) (by rw [g.hN]; exact h1) (by rw [g.hsc]; exact a1) (by rw [g.hfn, g.hsc]; exact a2) ha hs
theorem GoodB.tgt (g : GoodB K mg N sc fn X) (i : Nat) {x : Str} {own : List Nat} {pos : Pos} (h1 : N[i]? = some x) (h2 : locB sc fn x = true) (h3 : i ∈ own) : SG X L own (.Name x pos) (fun d env => pure (env.set i (some d))) := by
  obtain ⟨a1, a2⟩ := locB_ok h2
  exact sg_name (by rw [g.hN]; exact g.nd) (by rw [g.hN]; exact h1) (by rw [g.hsc]; exact a1) (by rw [g.hfn, g.hsc]; exact a2) h3
def blkB (N : List Str) (sc scope : Scope) (own : List (Str × Nat)) : Bool := decide (scope.kind = .function) && (scope.names.all (fun y => decide (scope.names.lookup y.1 = some y.2)) && (own.all (fun p => decide (N[p.2]? = some p.1)) &&
  (scope.names.all (fun y => !decide (y.2 = .free) || (decide (sc.names.lookup y.1 = some .cell) || decide (sc.names.lookup y.1 = some .free))) && scope.names.all (fun y => !(decide (y.2 = .local) || decide (y.2 = .cell)) || (decide (y.1 ∈ own.map (·.1)) || decide (y.1 ∉ N))))))
theorem GoodB.blkOk (g : GoodB K mg N sc fn X) {scope : Scope} {own : List (Str × Nat)} (h : blkB N sc scope own = true) : BlkOk X.N X.env.scope scope own := by
  rw [g.hN, g.hsc]
  unfold blkB at h
  simp only [Bool.and_eq_true, decide_eq_true_eq, List.all_eq_true, Bool.or_eq_true, Bool.not_eq_true', decide_eq_false_iff_not] at h
  obtain ⟨h1, h2, h3, h4, h5⟩ := h
  refine ⟨h1, h2, h3, fun y hy e => (h4 y hy).resolve_left fun z => z e, fun y hy e => ?_⟩
  rcases h5 y hy with z | z
  · simp only [Bool.or_eq_false_iff, decide_eq_false_iff_not] at z
    rcases e with e | e
    · exact absurd e z.1
    · exact absurd e z.2
  · exact z
/-- an env with this scope and nothing else -/
def envS (sc : Scope) : PySem.Env := { scope := sc, locals := 0, globals := 0, cells := [], qual := "", func := none, code := .none, frame := none, builtins := 0 }
theorem GoodB.sw (g : GoodB K mg N sc fn X) {a : Expr} {t : Option Expr} {line : Nat} {r : Sem Bool} (h : swapsWith a t line (envS sc) = r) : swapsWith a t line X.env = r := by
  rw [← h]
  unfold swapsWith Env.kindOf Env.blockKind
  rw [g.hsc]
  rfl
theorem GoodB.swS (g : GoodB K mg N sc fn X) {ts : List Expr} {a : Expr} {r : Sem (Option (List Str))} (h : swappedStores ts a (envS sc) = r) : swappedStores ts a X.env = r := by
  rw [← h]
  unfold swappedStores Env.kindOf Env.blockKind
  rw [g.hsc]
  rfl
theorem GoodB.kind (g : GoodB K mg N sc fn X) {x : Str} {y : NameKind} (h : sc.names.lookup x = some y) : X.env.kindOf x = some y := by
  unfold Env.kindOf
  rw [g.hsc]
  exact h
theorem GoodB.lk (g : GoodB K mg N sc fn X) {x : Str} {y : NameKind} (h : sc.names.lookup x = some y) : X.env.scope.names.lookup x = some y := by
  rw [g.hsc]
  exact h
end
end Eng

set_option maxRecDepth 100000
set_option maxHeartbeats 4000000
namespace Eng
open PySem PySem.Spec PyProof.Rows L2
variable {L : Lk} {X : Cx} {E : XK} {Wx : WX}

/-! ### the rules in short -/
structure Q1 (X : Cx) (L : Lk) : Prop where
  hK : X.K = L.K
  hu : X.A.units + 130 < cLine
theorem Good.q {P : Program} {w : World} {K : PySem.W.Frag} {mg : Str → Option Value} {base : Heap} {N : List Str} {sc : Scope} {fn : Str → Bool} {k : Nat} (g : Good P w K mg base N sc fn k Wx X) (hL : L.K = K) : Q1 X L :=
  ⟨by rw [g.hK, hL], by have := g.hr.un; omega⟩
theorem Q1.suite (q : Q1 X L) (a : Addr) (pn : List (Addr × Obj)) : Q1 (X.suite a pn) L := ⟨q.hK, q.hu⟩
theorem Q1.withX (q : Q1 X L) (t : Option (Addr × Nat × Option Addr)) : Q1 X (withX L t) := ⟨q.hK, q.hu⟩
def on1 (f : D → M D) : List D → M D
  | [d] => f d
  | _ => M.fail
def on2 (f : D → D → M D) : List D → M D
  | [d, e] => f d e
  | _ => M.fail
theorem sc1 {r : List V → Hp → VK → Prop} {f : D → M D} (h : SC L r (fun l => match l with
    | [d] => f d
    | _ => M.fail)) : SC L r (on1 f) := fun E ι m G H x a Q w ra q => h E ι m G H x a Q w ra (by
  match a, q with
  | [d], q => exact q
  | [], q => exact q
  | _ :: _ :: _, q => exact q)
theorem sc2 {r : List V → Hp → VK → Prop} {f : D → D → M D} (h : SC L r (fun l => match l with
    | [d, e] => f d e
    | _ => M.fail)) : SC L r (on2 f) := fun E ι m G H x a Q w ra q => h E ι m G H x a Q w ra (by
  match a, q with
  | [d, e], q => exact q
  | [], q => exact q
  | [_], q => exact q
  | _ :: _ :: _ :: _, q => exact q)
section
variable {a b : Expr} {fa fb : Env → M D} {pos : Pos}
theorem w_add (c : Bool) (q : Q1 X L) (ha : SE X L Wx a fa) (hb : SE X L Wx b fb) : SE X L Wx (.BinOp a .Add b pos) (fun env => do let x ← fa env; let y ← fb env; dAdd c x y) := se_op op_addA (by rw [q.hK]; exact so_add) ha hb
theorem w_mul (c : Bool) (q : Q1 X L) (ha : SE X L Wx a fa) (hb : SE X L Wx b fb) : SE X L Wx (.BinOp a .Mult b pos) (fun env => do let x ← fa env; let y ← fb env; dMul c x y) := se_op op_mulA (by rw [q.hK]; exact so_mul) ha hb
theorem w_sub (ha : SE X L Wx a fa) (hb : SE X L Wx b fb) : SE X L Wx (.BinOp a .Sub b pos) (fun env => do let x ← fa env; let y ← fb env; dSub x y) := se_op op_sub so_sub ha hb
theorem w_div (ha : SE X L Wx a fa) (hb : SE X L Wx b fb) : SE X L Wx (.BinOp a .FloorDiv b pos) (fun env => do let x ← fa env; let y ← fb env; dDiv x y) := se_op op_fdiv so_div ha hb
theorem w_mod (ha : SE X L Wx a fa) (hb : SE X L Wx b fb) : SE X L Wx (.BinOp a .Mod b pos) (fun env => do let x ← fa env; let y ← fb env; dMod x y) := se_op op_mod so_mod ha hb
theorem w_pow (ha : SE X L Wx a fa) (hb : SE X L Wx b fb) : SE X L Wx (.BinOp a .Pow b pos) (fun env => do let x ← fa env; let y ← fb env; dPow x y) := se_op op_pow so_pow ha hb
end
/-- a comparison: what it does on data -/
structure CmpD (X : Cx) (L : Lk) (op : CmpOp) (f : D → D → M D) : Prop where
  ex : ∃ r, OpR X (compareOp op) r ∧ SO L r f
theorem c_eq (q : Q1 X L) : CmpD X L .Eq (dEq false) := ⟨_, op_eq.or <| op_eqD (Nat.lt_of_le_of_lt (Nat.add_le_add_left (by decide) _) q.hu), by rw [q.hK]; exact so_eq⟩
theorem c_ne (q : Q1 X L) : CmpD X L .NotEq (dEq true) := ⟨_, op_ne.or <| op_neD (Nat.lt_of_le_of_lt (Nat.add_le_add_left (by decide) _) q.hu), by rw [q.hK]; exact so_ne⟩
theorem u0 (q : Q1 X L) : X.A.units < cLine := by have := q.hu; omega
theorem c_lt (q : Q1 X L) : CmpD X L .Lt dLt := ⟨_, op_ltA (u0 q), by rw [q.hK]; exact so_cmp⟩
theorem c_le (q : Q1 X L) : CmpD X L .LtE dLe := ⟨_, op_leA (u0 q), by rw [q.hK]; exact so_cmp⟩
theorem c_gt : CmpD X L .Gt dGt := ⟨_, op_gtI, so_cmp0⟩
theorem c_ge (q : Q1 X L) : CmpD X L .GtE dGe := ⟨_, op_geA (u0 q), by rw [q.hK]; exact so_cmp⟩
theorem c_in (q : Q1 X L) : CmpD X L .In (dIn false) := ⟨_, op_inA (by have := q.hu; omega), by rw [q.hK]; exact so_in⟩
theorem c_notIn (q : Q1 X L) : CmpD X L .NotIn (dIn true) := ⟨_, op_notInA (by have := q.hu; omega), by rw [q.hK]; exact so_in⟩
section
variable {a b c : Expr} {fa fb fc : Env → M D} {pos : Pos} {f f' : D → D → M D} {op op' : CmpOp}
theorem w_cmp (h : CmpD X L op f) (ha : SE X L Wx a fa) (hb : SE X L Wx b fb) (hm : behindInMarks op b = false) : SE X L Wx (.Compare a [op] [b] pos) (fun env => do let x ← fa env; let y ← fb env; f x y) := by
  obtain ⟨r, h1, h2⟩ := h
  exact se_cmp h1 h2 ha hb hm
theorem t_cmp (h : CmpD X L op f) (ha : SE X L Wx a fa) (hb : SE X L Wx b fb) (hm : behindInMarks op b = false) : ST X L Wx (.Compare a [op] [b] pos) (fun env => do let z ← (do let x ← fa env; let y ← fb env; f x y); asB z) := by
  obtain ⟨r, h1, h2⟩ := h
  exact st_cmp h1 h2 ha hb hm
theorem w_chain (h : CmpD X L op f) (h' : CmpD X L op' f') (ha : SE X L Wx a fa) (hb : SE X L Wx b fb) (hc : SE X L Wx c fc) (hm : lastMarks [op, op'] [b, c] = false) :
    SE X L Wx (.Compare a [op, op'] [b, c] pos) (fun env => do let x ← fa env; let y ← fb env; let z ← f x y; let k ← asB z; if k then (do let u ← fc env; f' y u) else pure (.bl false)) := by
  obtain ⟨r, h1, h2⟩ := h
  obtain ⟨r', h3, h4⟩ := h'
  exact se_chain h1 h3 h2 h4 ha hb hc hm
theorem t_chain (h : CmpD X L op f) (h' : CmpD X L op' f') (ha : SE X L Wx a fa) (hb : SE X L Wx b fb) (hc : SE X L Wx c fc) (hm : lastMarks [op, op'] [b, c] = false) :
    ST X L Wx (.Compare a [op, op'] [b, c] pos) (fun env => do let v ← (do let x ← fa env; let y ← fb env; let z ← f x y; let k ← asB z; if k then (do let u ← fc env; f' y u) else pure (.bl false)); asB v) := by
  obtain ⟨r, h1, h2⟩ := h
  obtain ⟨r', h3, h4⟩ := h'
  exact st_chain h1 h3 h2 h4 ha hb hc hm
theorem c_own {k c n : Nat} {f : Addr} {fd : FuncData} {ps : List Str} {g : List D → M D} (q : Q1 X L) (ok : LkOk L n) (T : EqC X.K (L.cA c) f n L.cA) (F : Df X.prog X.w X.K X.mg X.base L k f fd ps g) (hr : Room k X.A) (hg : X.A.guards = some []) (hb : Binds X.K fd ps []) (hl : ps.length = 2) : CmpD X L .Eq (eqO c n g false (dEq false)) := by
  obtain ⟨r, h1, h2⟩ := c_eq q
  exact ⟨_, (op_ownEq ok q.hK T F hr hg hb hl).or h1, so_eqO h2⟩
theorem c_ownNe {k c n : Nat} {f : Addr} {fd : FuncData} {ps : List Str} {g : List D → M D} (q : Q1 X L) (ok : LkOk L n) (T : EqC X.K (L.cA c) f n L.cA) (F : Df X.prog X.w X.K X.mg X.base L k f fd ps g) (hr : Room (k + 1) X.A) (hg : X.A.guards = some []) (hb : Binds X.K fd ps []) (hl : ps.length = 2) : CmpD X L .NotEq (eqO c n g true (dEq true)) := by
  obtain ⟨r, h1, h2⟩ := c_ne q
  exact ⟨_, (op_ownNe ok q.hK T F hr hg hb hl).or h1, so_eqO h2⟩
end
section
variable {e : Expr} {es : List Expr} {g : Env → M (List D)} {p pos : Pos}
theorem b_len (q : Q1 X L) (hg : Gl X "len") (hm : X.mg "len" = none) (ha : SA X L Wx (e :: es) g) : SE X L Wx (.Call (.Name "len" p) (e :: es) [] pos) (fun env => do let l ← g env; bLen l) := se_callB call_lenA (by rw [q.hK]; exact sc_len) hg hm PySem.boot_len (by decide) (by decide) ha
theorem b_abs (hg : Gl X "abs") (hm : X.mg "abs" = none) (ha : SA X L Wx (e :: es) g) : SE X L Wx (.Call (.Name "abs" p) (e :: es) [] pos) (fun env => do let l ← g env; on1 absD l) := se_callB call_abs (sc1 sc_abs) hg hm (by decide +kernel) (by decide) (by decide) ha
theorem b_max2 (hc : X.calm = true) (hg : Gl X "max") (hm : X.mg "max" = none) (ha : SA X L Wx (e :: es) g) : SE X L Wx (.Call (.Name "max" p) (e :: es) [] pos) (fun env => do let l ← g env; on2 max2 l) := se_callB (call_max2 hc) (sc2 sc_max2) hg hm (by decide +kernel) (by decide) (by decide) ha
theorem b_min2 (hc : X.calm = true) (hg : Gl X "min") (hm : X.mg "min" = none) (ha : SA X L Wx (e :: es) g) : SE X L Wx (.Call (.Name "min" p) (e :: es) [] pos) (fun env => do let l ← g env; on2 min2 l) := se_callB (call_min2 hc) (sc2 sc_min2) hg hm (by decide +kernel) (by decide) (by decide) ha
theorem b_all (q : Q1 X L) (hc : X.calm = true) (hg : Gl X "all") (hm : X.mg "all" = none) (ha : SA X L Wx (e :: es) g) : SE X L Wx (.Call (.Name "all" p) (e :: es) [] pos) (fun env => do let l ← g env; on1 allD l) := se_callB (cr_all hc) (by rw [q.hK]; exact sc1 sc_all) hg hm (by decide +kernel) (by decide) (by decide) ha
theorem b_any (q : Q1 X L) (hc : X.calm = true) (hg : Gl X "any") (hm : X.mg "any" = none) (ha : SA X L Wx (e :: es) g) : SE X L Wx (.Call (.Name "any" p) (e :: es) [] pos) (fun env => do let l ← g env; on1 anyD l) := se_callB (cr_any hc) (by rw [q.hK]; exact sc1 sc_any) hg hm (by decide +kernel) (by decide) (by decide) ha
theorem b_anyH (q : Q1 X L) (hc : L2H.HotC X) (hg : Gl X "any") (hm : X.mg "any" = none) (ha : SA X L Wx (e :: es) g) : SE X L Wx (.Call (.Name "any" p) (e :: es) [] pos) (fun env => do let l ← g env; on1 anyD l) := se_callB (cr_anyH hc) (by rw [q.hK]; exact sc1 sc_any) hg hm (by decide +kernel) (by decide) (by decide) ha
theorem b_int (hg : Gl X "int") (hm : X.mg "int" = none) (ha : SA X L Wx (e :: es) g) : SE X L Wx (.Call (.Name "int" p) (e :: es) [] pos) (fun env => do let l ← g env; on1 intD l) := se_callT call_intA (sc1 sc_int) hg hm (by decide +kernel) (by decide) (by decide) ha
theorem b_str (hg : Gl X "str") (hm : X.mg "str" = none) (ha : SA X L Wx (e :: es) g) : SE X L Wx (.Call (.Name "str" p) (e :: es) [] pos) (fun env => do let l ← g env; on1 strD l) := se_callT call_str_int (sc1 sc_str) hg hm (by decide +kernel) (by decide) (by decide) ha
theorem b_tup (q : Q1 X L) (hg : Gl X "tuple") (hm : X.mg "tuple" = none) (ha : SA X L Wx (e :: es) g) : SE X L Wx (.Call (.Name "tuple" p) (e :: es) [] pos) (fun env => do let l ← g env; on1 tupD l) := se_callT call_tuple_of (by rw [q.hK]; exact sc1 sc_tup) hg hm (by decide +kernel) (by decide) (by decide) ha
theorem b_lst (c : Bool) (q : Q1 X L) (hg : Gl X "list") (hm : X.mg "list" = none) (ha : SA X L Wx (e :: es) g) : SE X L Wx (.Call (.Name "list" p) (e :: es) [] pos) (fun env => do let l ← g env; on1 (lstD c) l) := se_callT call_list_of (by rw [q.hK]; exact sc1 sc_lst) hg hm (by decide +kernel) (by decide) (by decide) ha
theorem b_sorted (c : Bool) (q : Q1 X L) (hg : Gl X "sorted") (hm : X.mg "sorted" = none) (ha : SA X L Wx (e :: es) g) : SE X L Wx (.Call (.Name "sorted" p) (e :: es) [] pos) (fun env => do let l ← g env; on1 (sortD c) l) := se_callB (call_sortD q.hK (by have := q.hu; omega)) (sc1 sc_sort) hg hm (by decide +kernel) (by decide) (by decide) ha
theorem b_repr (q : Q1 X L) (hgd : X.A.guards = some []) (hg : Gl X "repr") (hm : X.mg "repr" = none) (ha : SA X L Wx (e :: es) g) : SE X L Wx (.Call (.Name "repr" p) (e :: es) [] pos) (fun env => do let l ← g env; on1 reprD l) := se_callB (call_reprD hgd (by have := q.hu; omega)) (sc1 sc_repr) hg hm (by decide +kernel) (by decide) (by decide) ha
theorem m_app {o : Expr} {fo : Env → M D} {apos : Pos} (q : Q1 X L) (ho : SE X L Wx o fo) (ha : SA X L Wx (e :: es) g) (hbase : attributeBase o "append" X.env (eval o X.env) = eval o X.env)
    (hfew : ((backTo pos (starEach (e :: es) X.env)).all (fun x => !x.1) && (backToKw pos (keywordEach [] X.env)).all (fun x => x.1.isSome) && decide ((e :: es).length + ([] : List Keyword).length + (if ([] : List Keyword).isEmpty then 0 else 1) < 30)) = true) (hline : (apos.endLine == pos.line) = true) :
    SE X L Wx (.Call (.Attribute o "append" apos) (e :: es) [] pos) (fun env => do let d ← fo env; lmD d (do let l ← g env; appD d l)) := se_lm q.hK PySem.F.slot_list_append PySem.F.type_list_append mt_append sm_app ho ha hbase hfew hline
end
end Eng

set_option maxRecDepth 100000
set_option maxHeartbeats 4000000
namespace Eng
open PySem PySem.Spec PyProof.Rows L2
variable {L : Lk} {X : Cx} {E : XK} {Wx : WX}

/-! ### calls, raises, loops by a context's tables -/
section
variable {P : Program} {w : World} {K : PySem.W.Frag} {mg : Str → Option Value} {base : Heap} {N : List Str} {sc : Scope} {fn : Str → Bool} {k : Nat}
theorem Good.df (g : Good P w K mg base N sc fn k Wx X) {j : Nat} {f : Addr} {fd : FuncData} {ps : List Str} {h : List D → M D} (F : Df P w K mg base L j f fd ps h) : Df X.prog X.w X.K X.mg X.base L j f fd ps h := by
  rw [g.hP, g.hw, g.hK, g.hmg, g.hb]; exact F
theorem Good.m (g : Good P w K mg base N sc fn k Wx X) {x : Str} {o : Option Value} (h : mg x = o) : X.mg x = o := by rw [g.hmg]; exact h
theorem GoodB.m (g : GoodB K mg N sc fn X) {x : Str} {o : Option Value} (h : mg x = o) : X.mg x = o := by rw [g.hmg]; exact h
variable {j : Nat} {f : Addr} {fd : FuncData} {ps : List Str} {h : List D → M D} {x : Str} {p pos apos : Pos} {e o : Expr} {es : List Expr} {fs : Env → M (List D)} {fo fe : Env → M D}
/-- a def, as the text and the top tell of it -/
structure FnT (K : PySem.W.Frag) (mg : Str → Option Value) (x : Str) (f : Addr) (fd : FuncData) (ps : List Str) : Prop where
  m : mg x = some (.ref f)
  kp : PySem.W.keepIn K (.ref f) = true
  b : Binds K fd ps []
theorem Good.call (g : Good P w K mg base N sc fn k Wx X) (F : Df P w K mg base L j f fd ps h) (hj : j ≤ k) (T : FnT K mg x f fd ps) (hgl : glB sc x = true) (ha : SA X L Wx (e :: es) fs) (hl : (e :: es).length = ps.length) :
    SE X L Wx (.Call (.Name x p) (e :: es) [] pos) (fun env => do let l ← fs env; h l) :=
  se_call (g.df F) (g.hr.mono hj) g.hg (g.b.gl hgl) (g.m T.m) (by rw [g.hK]; exact T.kp) (by rw [g.hK]; exact T.b) g.tk ha hl (glB_db hgl)
theorem Good.call0 (g : Good P w K mg base N sc fn k Wx X) (F : Df P w K mg base L j f fd [] h) (hj : j ≤ k) (T : FnT K mg x f fd []) (hgl : glB sc x = true) : SE X L Wx (.Call (.Name x p) [] [] pos) (fun env => h []) :=
  se_call0 (g.df F) (g.hr.mono hj) g.hg (g.b.gl hgl) (g.m T.m) (by rw [g.hK]; exact T.kp) (by rw [g.hK]; exact T.b) g.tk (glB_db hgl)
/-- a plain class: its name, its making -/
structure ClT (K : PySem.W.Frag) (mg : Str → Option Value) (x : Str) (C f : Addr) (fd : FuncData) (ps : List Str) : Prop where
  m : mg x = some (.ref C)
  made : Mk K C f
  b : Binds K fd ps []
theorem Good.make (g : Good P w K mg base N sc fn k Wx X) {c : Nat} (fr : Bool) (F : Df P w K mg base L j f fd ps h) (hj : j + 1 ≤ k) (T : ClT K mg x (L.cA c) f fd ps) (hgl : glB sc x = true) (ha : SA X L Wx (e :: es) fs) (hl : (e :: es).length + 1 = ps.length) :
    SE X L Wx (.Call (.Name x p) (e :: es) [] pos) (fun env => do let l ← fs env; mkI c fr h l) :=
  se_make (by rw [g.hK]; exact T.made) (g.df F) (g.hr.mono hj) g.hg (g.b.gl hgl) (g.m T.m) (by rw [g.hK]; exact T.b) g.tk ha hl (glB_db hgl)
theorem Good.make0 (g : Good P w K mg base N sc fn k Wx X) {c : Nat} (fr : Bool) (F : Df P w K mg base L j f fd ps h) (hj : j + 1 ≤ k) (T : ClT K mg x (L.cA c) f fd ps) (hgl : glB sc x = true) (hl : 1 = ps.length) :
    SE X L Wx (.Call (.Name x p) [] [] pos) (fun env => mkI c fr h []) :=
  se_make0 (by rw [g.hK]; exact T.made) (g.df F) (g.hr.mono hj) g.hg (g.b.gl hgl) (g.m T.m) (by rw [g.hK]; exact T.b) g.tk hl (glB_db hgl)
/-- a method -/
structure MtT (K : PySem.W.Frag) (C : Addr) (mn : Str) (f : Addr) (fd : FuncData) (ps : List Str) : Prop where
  mt : Meth K C mn f
  b : Binds K fd ps []
theorem Good.meth (g : Good P w K mg base N sc fn k Wx X) {c n : Nat} {mn : Str} {pl : Sem Bool} (ho : SE X L Wx o fo) (hL : L.K = K) (ok : LkOk L n) (hc : c < n) (F : Df P w K mg base L j f fd ps h) (hj : j ≤ k) (T : MtT K (L.cA c) mn f fd ps) (ha : SA X L Wx (e :: es) fs) (hl : (e :: es).length + 1 = ps.length)
    (ht : eval (.Call (.Attribute o mn apos) (e :: es) [] pos) X.env = (do
      let ov ← eval o X.env
      standAt apos.atName
      let (f, first) ← holding [ov] (getMethod ov mn pl)
      callWith pos f first (backTo pos (starEach (e :: es) X.env)) (backToKw pos (keywordEach [] X.env)))) :
    SE X L Wx (.Call (.Attribute o mn apos) (e :: es) [] pos) (fun env => do let d ← fo env; methD c mn d (do let l ← fs env; h (d :: l))) :=
  se_meth ho (by rw [g.hK, ← hL]; exact (ok.cls c hc).cl) (by rw [g.hK]; exact T.mt) (g.df F) (g.hr.mono hj) g.hg (by rw [g.hK]; exact T.b) g.tk ha hl ht
theorem Good.meth0 (g : Good P w K mg base N sc fn k Wx X) {c n : Nat} {mn : Str} {pl : Sem Bool} (ho : SE X L Wx o fo) (hL : L.K = K) (ok : LkOk L n) (hc : c < n) (F : Df P w K mg base L j f fd ps h) (hj : j ≤ k) (T : MtT K (L.cA c) mn f fd ps) (hl : 1 = ps.length)
    (ht : eval (.Call (.Attribute o mn apos) [] [] pos) X.env = (do
      let ov ← eval o X.env
      standAt apos.atName
      let (f, first) ← holding [ov] (getMethod ov mn pl)
      callWith pos f first (backTo pos (starEach [] X.env)) (backToKw pos (keywordEach [] X.env)))) :
    SE X L Wx (.Call (.Attribute o mn apos) [] [] pos) (fun env => do let d ← fo env; methD c mn d (h [d])) :=
  se_meth0 ho (by rw [g.hK, ← hL]; exact (ok.cls c hc).cl) (by rw [g.hK]; exact T.mt) (g.df F) (g.hr.mono hj) g.hg (by rw [g.hK]; exact T.b) g.tk hl ht
/-- an own error without __init__ -/
structure X0T (K : PySem.W.Frag) (mg : Str → Option Value) (x : Str) (C : Addr) (bmB : List Value) : Prop where
  q : PySem.W.excIn K C bmB "ValueError.__new__" = true
  m : mg x = some (.ref C)
  kp : PySem.W.keepIn K (.ref C) = true
  s : PySem.W.subIn K (.ref C) (.type "BaseException") = some true
  t : PySem.W.typeIn K (.ref C) = some (.type "type")
theorem Good.raise0 (g : Good P w K mg base N sc fn k Wx X) {c : Nat} {bmB : List Value} {rpos : Pos} (F : ExcBaseFacts "ValueError" "ValueError.__new__" "ValueError.__init__" bmB) (T : X0T K mg x (L.cA c) bmB) (hgl : glB sc x = true) :
    SS X L Wx (.Raise (some (.Call (.Name x p) [] [] pos)) none rpos) (fun env => pure (.exn ⟨c, none⟩ env)) :=
  ss_raise0 F (by rw [g.hK]; exact T.q) (g.m T.m) (by rw [g.hK]; exact T.kp) (raises_own (by rw [g.hK]; exact T.s) (by rw [g.hK]; exact T.t)) (g.b.gl hgl) (glB_db hgl) g.calm g.tk
/-- an own error with super().__init__(x); self.f = x -/
structure X1T (P : Program) (K : PySem.W.Frag) (mg : Str → Option Value) (x : Str) (C f : Addr) (fd : FuncData) (a1 a2 fl : Str) : Prop where
  s : SupC P K mg C f fd a1 a2 fl
  i : PySem.W.findIn K (.ref C) "__init__" = some (some (.ref f))
  t : PySem.W.typeIn K (.ref f) = some (.type "function")
  b : Binds K fd [a1, a2] []
  m : mg x = some (.ref C)
theorem Good.raise1 (g : Good P w K mg base N sc fn k Wx X) {c : Nat} {a1 a2 : Str} {rpos : Pos} (T : X1T P K mg x (L.cA c) f fd a1 a2 (L.xf c)) (hk : 2 ≤ k) (hgl : glB sc x = true) (ha : SE X L Wx e fe) (he : starEach [e] X.env = (false, eval e X.env) :: starEach [] X.env) :
    SS X L Wx (.Raise (some (.Call (.Name x p) [e] [] pos)) none rpos) (fun env => exB env (fe env) fun d => pure (.exn ⟨c, some d⟩ env)) :=
  ss_raise1 (by rw [g.hP, g.hK, g.hmg]; exact T.s) (by rw [g.hK]; exact T.i) (by rw [g.hK]; exact T.t) (g.hr.mono hk) (by rw [g.hK]; exact T.b) (g.b.gl hgl) (g.m T.m) ha (glB_db hgl) he g.calm g.tk
theorem Good.for_ (g : Good P w K mg base N sc fn k Wx X) {tg iter : Expr} {body : List Stmt} {own : List Nat} {fi : Env → M (List D)} {gt : D → Env → M Env} {fb : Env → M Out} (hi : SI X L Wx tg iter fi) (hg : SG X L own tg gt) (hb : SSs X L Wx body fb)
    (hs : ∀ x, foldedSetIterable iter X.env x = pure x) : SS X L Wx (.For tg iter body [] pos) (fun env => exB env (fi env) fun l => forD l gt fb env) := ss_for g.po g.calm hi hg hb hs
theorem Good.while_ (g : Good P w K mg base N sc fn k Wx X) {a : Expr} {body : List Stmt} {ga : Env → M Bool} {fb : Env → M Out} (n : Nat) (hc : ST X L Wx a ga) (hb : SSs X L Wx body fb) : SS X L Wx (.While a body [] pos) (whileS n ga fb) := ss_while n g.po hc hb
theorem Good.tup (g : Good P w K mg base N sc fn k Wx X) {es : List Expr} {kk n : Nat} {own : List Nat} {gt : List D → Env → M Env} (hh : SGs X L own es gt) (hn : (assignEach es X.env).length = n) (hst : (assignEach es X.env).findIdx? (·.1) = none) :
    SG X L own (.Tuple es kk pos) (fun d env => match viewT d with
      | some l => if l.length = n then gt l env else M.fail
      | none => M.fail) := sg_tup g.calm hh hn hst
theorem Good.par (g : Good P w K mg base N sc fn k Wx X) (i i' : Nat) {x y : Str} {a b : Expr} {px py pt : Pos} {kt k2 pt2} (h1 : N[i]? = some x) (h2 : N[i']? = some y) (hij : i ≠ i') (hx : sc.names.lookup x = some .local) (hy : sc.names.lookup y = some .local) (ha : SA X L Wx [a, b] fs)
    (hw : swappedStores [.Tuple [.Name x px, .Name y py] kt pt] (.Tuple [a, b] k2 pt2) (envS sc) = pure (some [x, y])) : SS X L Wx (.Assign [.Tuple [.Name x px, .Name y py] kt pt] (.Tuple [a, b] k2 pt2) pos) (fun env => exB env (fs env) fun l => match l with
      | [d, e] => pure (.nx ((env.set i (some d)).set i' (some e)))
      | _ => M.fail) :=
  ss_par g.calm (by rw [g.hN]; exact g.nd) (by rw [g.hN]; exact h1) (by rw [g.hN]; exact h2) hij (g.b.lk hx) (g.b.lk hy) ha (g.b.swS hw) rfl
theorem Good.par3 (g : Good P w K mg base N sc fn k Wx X) (i i' l : Nat) {x y z : Str} {a b c : Expr} {px py pz pt : Pos} {kt k2 pt2} (h1 : N[i]? = some x) (h2 : N[i']? = some y) (h3 : N[l]? = some z) (hij : i ≠ i') (hil : i ≠ l) (hjl : i' ≠ l) (hx : sc.names.lookup x = some .local) (hy : sc.names.lookup y = some .local) (hz : sc.names.lookup z = some .local) (ha : SA X L Wx [a, b, c] fs)
    (hw : swappedStores [.Tuple [.Name x px, .Name y py, .Name z pz] kt pt] (.Tuple [a, b, c] k2 pt2) (envS sc) = pure (some [x, y, z])) : SS X L Wx (.Assign [.Tuple [.Name x px, .Name y py, .Name z pz] kt pt] (.Tuple [a, b, c] k2 pt2) pos) (fun env => exB env (fs env) fun r => match r with
      | [d, e, f] => pure (.nx (((env.set i (some d)).set i' (some e)).set l (some f)))
      | _ => M.fail) :=
  ss_par3 g.calm (by rw [g.hN]; exact g.nd) (by rw [g.hN]; exact h1) (by rw [g.hN]; exact h2) (by rw [g.hN]; exact h3) hij hil hjl (g.b.lk hx) (g.b.lk hy) (g.b.lk hz) ha (g.b.swS hw) rfl
theorem Good.lc (g : Good P w K mg base N sc fn k Wx X) {c : Bool} {elt tg iter : Expr} {ifs : List Expr} {scope : Scope} (own : List (Str × Nat)) {fi : Env → M (List D)} {gt : D → Env → M Env} {t : Env → M Bool} {e : Env → M D} (hk : sc.kind = .function) (hi : SI X L Wx tg iter fi) (ok : blkB N sc scope own = true)
    (hb : ∀ Y : Cx, Good P w K mg base N (relS scope sc) (fun x => scope.names.lookup x == some .cell) k WF Y → SG Y L (own.map (·.2)) tg gt ∧ SPT Y L WF ifs t ∧ SE Y L WF elt e)
    (hs : ∀ x, foldedSetIterable iter X.env x = pure x) : SE X L Wx (.ListComp elt [⟨tg, iter, ifs, 0⟩] scope pos) (fun env => do let l ← fi env; lcD c gt t e (wipeE env (own.map (·.2))) l) :=
  se_lc g.calm (by rw [g.hN]; exact g.nd) hi (g.b.blkOk ok) (fun s H C cl fp => hb _ (g.blk hk s H scope C cl fp)) hs
theorem Good.setLc (g : Good P w K mg base N sc fn k Wx X) {c : Bool} {elt tg iter : Expr} {ifs : List Expr} {scope : Scope} (own : List (Str × Nat)) {fi : Env → M (List D)} {gt : D → Env → M Env} {t : Env → M Bool} {e : Env → M D} (i : Nat) {y : Str} {py spos : Pos} (h1 : N[i]? = some y) (h2 : sc.names.lookup y = some .local)
    (hsw : swapsWith (.ListComp elt [⟨tg, iter, ifs, 0⟩] scope pos) (some (.Name y py)) spos.line (envS sc) = pure true) (hk : sc.kind = .function) (hi : SI X L Wx tg iter fi) (ok : blkB N sc scope own = true)
    (hb : ∀ Y : Cx, Good P w K mg base N (relS scope sc) (fun x => scope.names.lookup x == some .cell) k WF Y → SG Y L (own.map (·.2)) tg gt ∧ SPT Y L WF ifs t ∧ SE Y L WF elt e)
    (hs : ∀ x, foldedSetIterable iter X.env x = pure x) : SS X L Wx (.Assign [.Name y py] (.ListComp elt [⟨tg, iter, ifs, 0⟩] scope pos) spos) (fun env => exB env (do let l ← fi env; lcD c gt t e (wipeE env (own.map (·.2))) l) fun d => pure (.nx (env.set i (some d)))) :=
  ss_setLc g.calm (by rw [g.hN]; exact g.nd) (by rw [g.hN]; exact h1) (g.b.lk h2) (g.b.sw hsw) hi (g.b.blkOk ok) (fun s H C cl fp => hb _ (g.blk hk s H scope C cl fp)) hs
/-- a constant of the module -/
theorem GoodB.con (g : GoodB K mg N sc fn X) {x : Str} {i : Int} {t : Tok} {pos : Pos} (h : mg x = some (.int i t)) (hgl : glB sc x = true) : SE X L Wx (.Name x pos) (fun _ => pure (.int i)) :=
  se_c (pe_glob (v := .int i) (g.gl hgl) (g.m h) ⟨t, rfl⟩ (glB_db hgl)) fun _ _ => .int i
end
end Eng

set_option maxRecDepth 100000
set_option maxHeartbeats 4000000
namespace Eng
open PySem PySem.Spec PyProof.Rows L2
variable {L : Lk} {X : Cx} {E : XK} {Wx : WX}
theorem hot_of {a : Addr} {oe : Obj} {pn : List (Addr × Obj)} {cls : Value} {d : Option Addr} (hz : L2N.Zn cls d oe) (hf : ∃ vs, oe.data = .fields vs) : L2H.HotC (X.suite a ((a, oe) :: pn)) := by
  obtain ⟨vs, hv⟩ := hf
  exact ⟨(a, oe), ⟨rfl, vs, hv, hz.2.2 vs hv⟩, List.mem_cons_self⟩
/-- dict(pairs), the keys tuples, each once -/
def pairsT : List D → Option (List (List Key) × List D)
  | [] => some ([], [])
  | .tup [k, v] :: r => match keyT k, pairsT r with
    | some x, some (ks, vs) => some (x :: ks, v :: vs)
    | _, _ => none
  | _ => none
def dctT (c : Bool) (d : D) : M D := fun m => match (viewL m d).bind pairsT with
  | some (ks, vs) => if ks.Nodup ∧ ks.length < 1000000 then mkNew c (.dT ks vs) m else .bad
  | none => .bad
theorem storedAllH_new {K : Type} [DecidableEq K] : ∀ (ps xs : List (K × Addr × Value)), ((xs ++ ps).map (·.1)).Nodup → storedAllH xs ps = xs ++ ps
  | [], xs, _ => by show xs = _; simp
  | p :: ps, xs, h => by
    show storedAllH (storedH xs p.1 p.2.1 p.2.2) ps = _
    have hn : atKey xs p.1 = none := atKey_none_of_get fun j q e => by
      have m : (p.1, q) ∈ xs := List.mem_of_getElem? e
      rw [List.map_append, List.nodup_append] at h
      exact h.2.2 p.1 (List.mem_map.mpr ⟨_, m, rfl⟩) p.1 (List.mem_map.mpr ⟨p, List.mem_cons_self, rfl⟩) rfl
    rw [storedH_new hn, storedAllH_new ps (xs ++ [(p.1, p.2.1, p.2.2)]) (by rw [List.append_assoc]; exact h), List.append_assoc]
    rfl
section
variable {pins : List (Addr × Obj)} {σ : L2.St} {H : Hp} {s : Shared} {ι : List Addr} {G : Hp} {m : Mem}
theorem pairs_read (I : Inv X pins σ H s) (w : W L ι m G H) : ∀ {l : List D} {vs : List V} {us : List Value} {ks : List (List Key)} {ds : List D}, RepL L G ι vs l → Vals vs us → pairsT l = some (ks, ds) →
    ∃ (ts : List Addr) (xs : List (List Key × Addr × Value)) (ws : List V), us = ts.map Value.ref ∧ ts.length = xs.length ∧ KT H (ks.zip ws) xs ∧ ks.length = ws.length ∧ RepL L G ι ws ds ∧ xs.map (·.1) = ks ∧
      ∀ (j : Nat) (x : List Key × Addr × Value), xs[j]? = some x → ∃ b, ts[j]? = some b ∧ IsTup s.heap b #[.ref x.2.1, x.2.2]
  | [], _, _, _, _, r, rv, e => by
    cases r; cases rv; cases e
    exact ⟨[], [], [], rfl, rfl, .nil, rfl, .nil, rfl, fun j x e => by simp at e⟩
  | .tup [k, v] :: l, _, _, _, _, r, rv, e => by
    cases r with
    | cons r1 r2 =>
    cases rv with
    | cons v1 v2 =>
    unfold pairsT at e
    split at e
    · rename_i x ks ds e1 e2
      cases e
      obtain ⟨ts, xs, ws, h1, h2, h3, h4, h5, h6, h7⟩ := pairs_read I w r2 v2 e2
      cases r1 with
      | tup g1 g2 =>
      cases v1
      rename_i b vs
      have g1' := w.sub _ _ g1
      cases g2 with
      | cons g3 g4 =>
      cases g4 with
      | cons g5 g6 =>
      cases g6
      rename_i vk vv
      cases k with
      | tup kl =>
        cases g3 with
        | tup k1 k2 =>
          rename_i kb kvs
          have k1' := w.sub _ _ k1
          rw [rep_keys k2 e1] at k1'
          obtain ⟨_, its, rr, o, q1, q2, q3⟩ := (show ObjOk X.prog X.w H s.heap b (.tup _) from I.hok _ _ g1')
          obtain ⟨u1, u2, ei, ru1, ru2⟩ := vals2 rr
          subst ei
          cases ru1
          refine ⟨b :: ts, (x, kb, u2) :: xs, vv :: ws, by rw [h1]; rfl, by rw [List.length_cons, List.length_cons, h2], by rw [List.zip_cons_cons]; exact .cons ⟨rfl, k1', ru2⟩ h3, by rw [List.length_cons, List.length_cons, h4], .cons g5 h5, by rw [List.map_cons, h6], fun j y e => ?_⟩
          cases j with
          | zero =>
            have e' : (x, kb, u2) = y := Option.some.inj e
            subst e'
            exact ⟨b, rfl, ⟨o, q1, q2, q3⟩⟩
          | succ j => exact h7 j y e
      | _ => cases e1
    · cases e
  | .non :: _, _, _, _, _, _, _, e => by cases e
  | .bl _ :: _, _, _, _, _, _, _, e => by cases e
  | .int _ :: _, _, _, _, _, _, _, e => by cases e
  | .str _ :: _, _, _, _, _, _, _, e => by cases e
  | .lst _ :: _, _, _, _, _, _, _, e => by cases e
  | .dK _ _ :: _, _, _, _, _, _, _, e => by cases e
  | .dT _ _ :: _, _, _, _, _, _, _, e => by cases e
  | .ins _ _ _ :: _, _, _, _, _, _, _, e => by cases e
  | .ref _ :: _, _, _, _, _, _, _, e => by cases e
  | .fn _ :: _, _, _, _, _, _, _, e => by cases e
  | .scr _ :: _, _, _, _, _, _, _, e => by cases e
  | .tup [] :: _, _, _, _, _, _, _, e => by cases e
  | .tup [_] :: _, _, _, _, _, _, _, e => by cases e
  | .tup (_ :: _ :: _ :: _) :: _, _, _, _, _, _, _, e => by cases e
end
theorem paired_imp {α β : Type} {R S : α → β → Prop} (h : ∀ a b, R a b → S a b) : ∀ {l : List α} {m : List β}, Paired R l m → Paired S l m
  | _, _, .nil => .nil
  | _, _, .cons a b => .cons (h _ _ a) (paired_imp h b)
theorem call_dictT {c : Bool} (hu : X.A.units + 5 < cLine) (hc : X.calm = true) :
    CallR X (.type "dict") (fun xs H Q => ∃ (E : XK) (ι : List Addr) (m : Mem) (G : Hp) (v : V) (d : D), xs = [v] ∧ W L ι m G H ∧ Rep L G ι v d ∧ PV L E ι G H (dctT c d m) Q) := by
  intro pins s σ H xs us Q I r q
  obtain ⟨E, ι, m, G, v, d, rfl, w, rd, q⟩ := q
  obtain ⟨u, rfl, rx⟩ := vals1 r
  unfold dctT at q
  cases e1 : viewL m d with
  | none => rw [e1] at q; exact False.elim q
  | some l =>
    rw [e1] at q
    simp only [Option.bind_some] at q
    cases e2 : pairsT l with
    | none => rw [e2] at q; exact False.elim q
    | some kd =>
      obtain ⟨ks, ds⟩ := kd
      rw [e2] at q
      dsimp only at q
      by_cases hb : ks.Nodup ∧ ks.length < 1000000
      case neg => rw [if_neg hb] at q; exact q.elim
      rw [if_pos hb] at q
      obtain ⟨hb1, hb2⟩ := hb
      obtain ⟨a, vs, rfl, ha, rl⟩ := view_list w rd e1
      cases rx
      obtain ⟨_, its, n, rv, g1⟩ := (show ObjOk X.prog X.w H s.heap _ (.lst _) from I.hok _ _ ha)
      obtain ⟨ts, xs, ws, h1, h2, h3, h4, h5, h6, h7⟩ := pairs_read I w rl rv e2
      subst h1
      have lx : xs.length = ks.length := by rw [← h6, List.length_map]
      have hz : xs.length ≤ sizeLine := by rw [lx]; exact Nat.le_of_lt (big_ok hb2)
      have keyAll : ∀ {kv : List (List Key × V)} {ys : List (List Key × Addr × Value)}, KT H kv ys → ∀ x ∈ ys, (tupleKind (mixKind X.prog X.w)).is s.heap x.1 x.2.1 := by
        intro kv ys hh
        induction hh with
        | nil => intro x hx; exact nomatch hx
        | @cons p q ps qs hq t ih =>
          intro x hx
          rcases List.mem_cons.mp hx with e | hx
          · subst e
            exact key_of I.hok (by rw [← hq.1]; exact hq.2.1)
          · exact ih x hx
      have ka := keyAll h3
      refine call_dict_pairsH (ps := xs) (knd := tupleKind (mixKind X.prog X.w)) (PairArg.list a (ts.map Value.ref).toArray (fun j => ts[j]?.getD 0) (xs.map fun x => (Value.ref x.2.1, x.2.2))) (I.ok.hd hc) (tupleKind_room_in1 (by show X.A.units + 1 + 1 < cLine; omega)) ⟨⟨_, n, g1, rfl, rfl, rfl⟩, by simp [h2], fun j k v e => ?_⟩ ⟨by simp, fun i k v e => ?_⟩ (fun h' hk x hx => ?_) (by simpa using hz) fun h' tk hd' k => ?_
      · rw [List.getElem?_map] at e
        cases e3 : xs[j]? with
        | none => rw [e3] at e; cases e
        | some x =>
          rw [e3] at e
          cases e
          obtain ⟨b, t1, t2⟩ := h7 j x e3
          exact ⟨by simp [t1], .inl (by show s.heap.IsTuple (ts[j]?.getD 0) _; rw [t1]; exact t2)⟩
      · have e : (xs.map fun x => (Value.ref x.2.1, x.2.2))[i]? = some (k, v) := e
        rw [List.getElem?_map] at e
        cases e3 : xs[i]? with
        | none => rw [e3] at e; cases e
        | some x =>
          rw [e3] at e
          cases e
          exact ⟨x.1, x.2.1, rfl, rfl⟩
      · exact tupleKind_stays.stays (fun b o vs n e _ => hk b o (Nat.ne_of_lt (Heap.lt_size e)) (fun z => nomatch z) e) (ka x hx)
      · have hm : (s.heap.objs.size == sysModules) = false := beq_eq_false_iff_ne.mpr (Nat.ne_of_gt I.big)
        rw [storedAllH_new xs [] (by rw [List.nil_append, h6]; exact hb1), List.nil_append] at hd'
        obtain ⟨o, es, ep, z1, z2, z3, z4, _, z5⟩ := hd'
        have fr := I.hok.fresh (Nat.le_refl _)
        have h3' : KT (upd H s.heap.objs.size (.dT (ks.zip ws))) (ks.zip ws) xs := by
          refine paired_imp (fun p q hh => ⟨hh.1, ?_, hh.2.2⟩) h3
          rw [upd_ne]
          · exact hh.2.1
          · intro z; rw [z, fr] at hh; exact nomatch hh.2.1
        exact ⟨.ref s.heap.objs.size, upd H s.heap.objs.size (.dT (ks.zip ws)), I.laid (t' := tk) (fun b o e => k b o (fun z => nomatch z) e) (Nat.le_refl _)
          ⟨by rw [List.length_zip, h4, Nat.min_self, ← h4, ← lx]; exact hz, hm, xs, h3', o, es, ep, z1, z2, z3, z4, z5⟩, rfl,
          new_ok q w trivial fr ⟨ws, rfl, by rw [h4, h5.length], h5⟩⟩
theorem b_dctT (c : Bool) {e : Expr} {es : List Expr} {g : Env → M (List D)} {p pos : Pos} (q : Q1 X L) (hc : X.calm = true) (hg : Gl X "dict") (hm : X.mg "dict" = none) (ha : SA X L Wx (e :: es) g) : SE X L Wx (.Call (.Name "dict" p) (e :: es) [] pos) (fun env => do let l ← g env; on1 (dctT c) l) :=
  se_callT (call_dictT (L := L) (c := c) (by have := q.hu; omega) hc) (sc1 (sc_one fun E ι m G H v d Q w r q => ⟨E, ι, m, G, v, d, rfl, w, r, q⟩)) hg hm (by decide +kernel) (by decide) (by decide) ha
end Eng

set_option maxRecDepth 100000
set_option maxHeartbeats 4000000
namespace Eng
open PySem PySem.Spec PyProof.Rows L2
variable {L : Lk} {X : Cx} {E : XK} {Wx : WX}

/-! ### the same links, another lf -/
abbrev withF (L : Lk) (z : List Addr × Hp) : Lk := { L with lf := z }
mutual
theorem Rep.toF {G : Hp} {ι : List Addr} {z z' : List Addr × Hp} : ∀ {d : D} {v : V}, Rep (withF L z) G ι v d → Rep (withF L z') G ι v d
  | .non, _, r => by cases r; exact .non
  | .bl _, _, r => by cases r; exact .bl _
  | .int _, _, r => by cases r; exact .int _
  | .str _, _, r => by cases r; exact .str _
  | .tup _, _, r => by cases r with | tup a b => exact .tup a (RepL.toF b)
  | .lst _, _, r => by cases r with | lst a b => exact .lst a (RepL.toF b)
  | .scr _, _, r => by cases r with | scr a b => exact .scr a (RepL.toF b)
  | .dK _ _, _, r => by cases r with | dK a e b => exact .dK a e (RepL.toF b)
  | .dT _ _, _, r => by cases r with | dT a e b => exact .dT a e (RepL.toF b)
  | .ins _ _ _, _, r => by cases r with | ins a e b => exact .ins (L := withF L z') a e (RepL.toF b)
  | .ref _, _, r => by cases r with | ref e => exact .ref e
  | .fn _, _, r => by cases r; exact .fn (L := withF L z') _
  | .exc _ _, _, r => by cases r with | exc e q b => exact .exc (L := withF L z') e q (RepL.toF b)
theorem RepL.toF {G : Hp} {ι : List Addr} {z z' : List Addr × Hp} : ∀ {ds : List D} {vs : List V}, RepL (withF L z) G ι vs ds → RepL (withF L z') G ι vs ds
  | [], _, r => by cases r; exact .nil
  | _ :: _, _, r => by cases r with | cons a b => exact .cons (Rep.toF a) (RepL.toF b)
end
section
variable {G H : Hp} {ι : List Addr} {m : Mem} {z z' : List Addr × Hp} {u : HO} {o : Ob}
theorem ObRel.toF (r : ObRel (withF L z) G ι u o) : ObRel (withF L z') G ι u o := by
  cases o with
  | lst l => cases u <;> first | exact RepL.toF r | exact r.elim
  | dK ks l => cases u <;> first | (obtain ⟨vs, a, b, c⟩ := r; exact ⟨vs, a, b, RepL.toF c⟩) | exact r.elim
  | dT ks l => cases u <;> first | (obtain ⟨vs, a, b, c⟩ := r; exact ⟨vs, a, b, RepL.toF c⟩) | exact r.elim
  | ins c fs l => cases u <;> first | (obtain ⟨e, vs, a, b, c⟩ := r; exact ⟨e, vs, a, b, RepL.toF c⟩) | exact r.elim
  | tbl q => cases u <;> first | exact r | exact r.elim
  | dead => cases u <;> trivial
theorem W.toF (w : W (withF L z) ι m G H) (h : z'.1 <+: ι ∧ GLe z'.2 G) : W (withF L z') ι m G H :=
  ⟨w.sub, w.nd, w.len, w.tr, w.out, fun k a o e1 e2 l => let ⟨u, h1, h2⟩ := w.cell k a o e1 e2 l; ⟨u, h1, h2.toF⟩, h⟩
theorem RepE.toF {σ : L2.St} {env : Env} (r : RepE (withF L z) G ι σ env) : RepE (withF L z') G ι σ env :=
  ⟨r.len, fun i d e => let ⟨v, h1, h2⟩ := r.get i d e; ⟨v, h1, h2.toF⟩⟩
theorem XRep.toF {x : Exn} {cls : Value} {d : Option Addr} (r : XRep (withF L z) G ι H x cls d) : XRep (withF L z') G ι H x cls d := by
  obtain ⟨h1, h2⟩ := r
  refine ⟨h1, ?_⟩
  cases e : x.arg with
  | none => rw [e] at h2; exact h2
  | some a =>
    rw [e] at h2
    obtain ⟨dd, v, a1, a2, a3, a4, a5⟩ := h2
    exact ⟨dd, v, a1, a2, a3, a4, a5.toF⟩
/-- what is wanted, told by the links with another lf that stands -/
theorem Post.toF {α : Type} {r : R α} {k k' : α → Mem → List Addr → Hp → Hp → Prop} (h : Post (withF L z) E ι G H r k) (hz : z.1 <+: ι ∧ GLe z.2 G) (hk : ∀ a m' ι' G' H', k a m' ι' G' H' → k' a m' ι' G' H') : Post (withF L z') E ι G H r k' := by
  cases r with
  | ok a m' => exact fun ι' G' H' l w => hk _ _ _ _ _ (h ι' G' H' l (w.toF ⟨hz.1.trans l.pre, hz.2.trans l.g⟩))
  | exn x m' => exact fun ι' G' H' cls d l w xr => h ι' G' H' cls d l (w.toF ⟨hz.1.trans l.pre, hz.2.trans l.g⟩) xr.toF
  | bad => exact h
end
theorem W.dead {G H : Hp} {ι : List Addr} {m : Mem} {p : Addr} (w : W L ι m G H) (h1 : p ∉ ι) (h3 : H p ≠ none) : W L (ι ++ [p]) (m ++ [.dead]) G H := by
  have at_ : ∀ (k : Nat) a o, (ι ++ [p])[k]? = some a → (m ++ [Ob.dead])[k]? = some o → Live o → ι[k]? = some a ∧ m[k]? = some o := fun k a o e1 e2 l => by
    by_cases hk : k < m.length
    · rw [List.getElem?_append_left hk] at e2
      rw [List.getElem?_append_left (by rw [w.len]; exact hk)] at e1
      exact ⟨e1, e2⟩
    · rw [List.getElem?_append_right (Nat.le_of_not_lt hk)] at e2
      cases hj : k - m.length with
      | zero => rw [hj] at e2; cases e2; exact l.elim
      | succ j => rw [hj] at e2; cases e2
  have pre : ι <+: ι ++ [p] := ⟨[p], rfl⟩
  refine ⟨w.sub, List.nodup_append.mpr ⟨w.nd, by simp, fun a ha b hb e => by simp at hb; subst hb; subst e; exact h1 ha⟩, by simp [w.len], fun a h => ?_, fun k a o e1 e2 l => ?_, fun k a o e1 e2 l => ?_, w.lm.1.trans pre, w.lm.2⟩
  · rcases List.mem_append.mp h with h | h
    · exact w.tr a h
    · simp at h; subst h; exact h3
  · exact w.out k a o (at_ k a o e1 e2 l).1 (at_ k a o e1 e2 l).2 l
  · obtain ⟨u, e, r⟩ := w.cell k a o (at_ k a o e1 e2 l).1 (at_ k a o e1 e2 l).2 l
    exact ⟨u, e, r.mono (.refl G) pre⟩

/-! ### the lambda is made -/
/-- the object at f is ob -/
def FunO (f : Addr) (ob : Obj) : HO := .ext fun h => h.get? f = some ob
theorem upd_swap {H : Hp} {a b : Addr} {u v : HO} (h : a ≠ b) : upd (upd H a u) b v = upd (upd H b v) a u := by
  funext x
  by_cases h1 : x = a
  · subst h1
    rw [upd_ne h, upd_same, upd_same]
  · by_cases h2 : x = b
    · subst h2
      rw [upd_same, upd_ne h1, upd_same]
    · rw [upd_ne h2, upd_ne h1, upd_ne h1, upd_ne h2]
theorem lam_mk {pins : List (Addr × Obj)} {σ : L2.St} {H : Hp} {s : Shared} {c P : Addr} {ps : Array Value} {q : Str} {params : Arguments} {body : Expr} {scope : Scope} {pos : Pos} {E' : Value → Shared → Prop} {Q : Value → Shared → Prop} (I : Inv X pins σ H s) (TB : LamX.TabB X.base X.mg c P) (hcode : X.env.code = .ref c)
    (hq : q = X.env.qual ++ "<lambda>") (hP : H P = some (.tbl ps)) (ht : TriplesOk ps.toList) (ha : ∀ (pos : Pos) (cv : Value), codeAmong pos ps.toList = some cv → ∃ c, cv = .ref c ∧ H c = some (LamX.CodeO c q)) (hdef : defaultsOf params X.env = ([], [])) (hfree : ∀ y ∈ scope.names, y.2 = .free → ∃ c, X.env.cells.lookup y.1 = some c)
    (go : ∀ (f c' : Addr) (pm ctv : Value) (H1 : Hp) (s' : Shared), (H1 = H ∧ (∃ pos, codeAmong pos ps.toList = some (.ref c')) ∨ ∃ ps' : Array Value, H c' = none ∧ TriplesOk ps'.toList ∧ (∀ (pos : Pos) (cv : Value), codeAmong pos ps'.toList = some cv → codeAmong pos ps.toList = some cv ∨ cv = .ref c') ∧ H1 = upd (upd H c' (LamX.CodeO c' q)) P (.tbl ps')) →
      H1 f = none → H1 c' = some (LamX.CodeO c' q) → Inv X pins σ (upd H1 f (FunO f (PySem.W.kla_obj "<lambda>" q params body scope (cloFrom X.env.cells scope.names []) pm c' ctv))) s' → Q (.ref f) s') :
    wpAny (model X.prog X.w) X.A (eval (.Lambda params body scope pos) X.env) Q E' s := by
  subst hq
  refine PySem.W.kla_eval hdef ?_
  have onP := I.hok P _ hP
  have inB := TB.bm.keeps I.bk
  have inC := TB.code.keeps I.bk
  have inG := I.mod.glob.keeps I.bk
  cases hc : codeAmong pos ps.toList with
  | some cv =>
    obtain ⟨c', e, hco⟩ := ha pos cv hc
    subst e
    refine PySem.W.kla_makeFunctionHit (c := c) (mg := X.mg) (P := P) (ps := ps) (closure_ok hfree) I.ok.glob inG hcode inC onP ht hc inB fun ctv h' tk kept big => ?_
    have I1 : Inv X pins σ H { s with heap := h', toks := tk } := I.kept kept
    have nf : H h'.objs.size = none := I1.hok.fresh (Nat.le_refl _)
    refine go _ c' _ ctv H _ (.inl ⟨rfl, pos, hc⟩) nf hco (I1.laid (t' := tk) (fun b o e => Heap.get?_push_of_some _ e) (Nat.le_refl _) ⟨Heap.get?_push_size _ rfl, ⟨_, Heap.get?_push_size _ rfl⟩, fun h1 h2 e st => st _ e⟩)
  | none =>
    refine PySem.W.kla_makeFunction (P := P) (c := c) (mg := X.mg) (ps := ps) (closure_ok hfree) I.ok.glob inG hcode inC onP ht hc TB.gP inB fun c' ctv h' tk but low high isRec newT => ?_
    obtain ⟨c2, oc, us, t, e2, hoc, hd, hv⟩ := isRec
    cases e2
    have I1 := LamX.inv_table (t' := tk) (more := #[rawInt pos.line, rawInt pos.col, .ref c']) (h' := h') I hP (fun b o hb e => but b o hb e) newT low ⟨oc, us, t, hoc, hd, hv⟩
    have nC : H c' = none := I.hok.fresh low
    have nPc : P ≠ c' := ne_of_none hP nC
    rw [upd_swap nPc] at I1
    have nf : upd (upd H c' (LamX.CodeO c' (X.env.qual ++ "<lambda>"))) P (.tbl (ps ++ #[rawInt pos.line, rawInt pos.col, .ref c'])) h'.objs.size = none := I1.hok.fresh (Nat.le_refl _)
    have eL : (ps ++ #[rawInt pos.line, rawInt pos.col, .ref c']).toList = ps.toList ++ [rawInt pos.line, rawInt pos.col, .ref c'] := by simp
    refine go _ c' _ ctv _ _ (.inr ⟨_, nC, by rw [eL]; exact PySem.TriplesOk_snoc _ _ _ _ ht, fun p' cv z => ?_, rfl⟩) nf (by rw [upd_ne (Ne.symm nPc), upd_same]) (I1.laid (t' := tk) (fun b o e => Heap.get?_push_of_some _ e) (Nat.le_refl _) ⟨Heap.get?_push_size _ rfl, ⟨_, Heap.get?_push_size _ rfl⟩, fun h1 h2 e st => st _ e⟩)
    rw [eL] at z
    exact LamX.among_app _ ht z
end Eng

set_option maxRecDepth 100000
set_option maxHeartbeats 4000000
namespace Eng
open PySem PySem.Spec PyProof.Rows L2
variable {L : Lk} {X : Cx} {E : XK} {Wx : WX}
/-- the thing that is called is the lambda that came as number k -/
def lamK (k : Nat) (d : D) (K : M D) : M D := match d with
  | .ref j => if j = k then K else M.fail
  | _ => M.fail
def lamC (X : Cx) (A : Around) (outer : List PySem.Env) (s : Shared) (H : Hp) (E : XK) (scope : Scope) (f c' : Addr) : Cx :=
  (LamX.lamCx X A outer s H E scope f c').wish fun e s' => wpAny (model X.prog X.w) (A.deeper (LamX.lamEnv X scope s.heap.objs.size f c')) (leaving (LamX.lamEnv X scope s.heap.objs.size f c') e) (fun _ s'' => L2N.CX X.prog X.w outer H s E e s'') (fun e' s'' => L2N.CX X.prog X.w outer H s E e' s'') s'
section
variable {P : Program} {w : World} {K : PySem.W.Frag} {mg : Str → Option Value} {base : Heap} {N : List Str} {sc scope : Scope} {fn : Str → Bool} {k : Nat}
theorem Good.lam (g : Good P w K mg base N sc fn k Wx X) {A : Around} {outer : List PySem.Env} {s : Shared} {H : Hp} {f c' : Addr} {j : Nat} (hr : Room j (A.deeper (LamX.lamEnv X scope s.heap.objs.size f c'))) (hg : A.guards = some []) :
    Good P w K mg base N scope (fun _ => false) j (fun c d _ H => E c d H) (lamC X A outer s H E scope f c') :=
  ⟨g.hP, g.hw, g.hK, g.hmg, g.hb, g.hN, g.nd, rfl, rfl, hr, hg, rfl, L2N.takes_of rfl rfl rfl rfl, passes_of rfl⟩
/-- x(), in the def that got the lambda -/
theorem se_act {pins : List (Addr × Obj)} {σ : L2.St} {H : Hp} {s : Shared} {Eg : XK} {Ng : List Str} {qg : Str} {sg : Scope} {ga f c' : Addr} {cdg pm ctv : Value} {params : Arguments} {body : Expr} {i jk n : Nat} {a : Str} {pn : List (Addr × Obj)} {xe : Value → Shared → Prop} {WZ : WX} {p1 p2 : Pos} {q : Str}
    {ι0 : List Addr} {m0 : Mem} {G0 : Hp} {env : Env} {fe : Env → M D} (g : Good P w K mg base N sc fn k Wx X) (I : Inv X pins σ H s) (Ls : LamX.LamS X.env.scope scope) (w0 : W L ι0 m0 G0 H) (rr0 : RepE L G0 ι0 σ env) (hq : q = X.env.qual ++ "<lambda>") (hx : ι0[n]? = some f)
    (hf : G0 f = some (FunO f (PySem.W.kla_obj "<lambda>" q params body scope (cloFrom X.env.cells scope.names []) pm c' ctv))) (hc : G0 c' = some (LamX.CodeO c' q))
    (hbind : bindArgs (PySem.W.kla_fn "<lambda>" q params body scope (cloFrom X.env.cells scope.names []) pm (.ref c') ctv) ⟨[], []⟩ = pure [])
    (hbody : ∀ (Y : Cx) (WY : WX), Good P w K mg base N scope (fun _ => false) jk WY Y → SE Y L WY body fe)
    (hr : Room (jk + 1) (X.A.deeper (envOfC qg sg s.heap.objs.size ga cdg)))
    (tk : L2N.Takes ((cxOf (L2N.CX X.prog X.w) X.prog X.w X.K X.mg X.base Ng qg sg ga cdg X.A X.stack s H Eg).tr pn xe) WZ)
    (hN : Ng[i]? = some a) (hv : Vis sg a) (hd : (a == ("__debug__" : Str)) = false) (hcd : (a == ("__classdict__" : Str)) = false) :
    SE ((cxOf (L2N.CX X.prog X.w) X.prog X.w X.K X.mg X.base Ng qg sg ga cdg X.A X.stack s H Eg).tr pn xe) (withF L (ι0, G0)) WZ (.Call (.Name a p1) [] [] p2) (fun envZ => do let d ← getE envZ i; lamK n d (fe env)) := by
  subst hq
  refine ⟨cE (withF L (ι0, G0)) WZ _, ⟨fun pinsZ sZ σZ HZ Q IZ ⟨envZ, ι, m, G, wZ, rZ, qZ⟩ => ?_⟩, re_c⟩
  obtain ⟨d, eD, qD⟩ := post_getE (Post.bind qZ) wZ
  obtain ⟨v, hs, rv⟩ := rZ.get i d eD
  unfold lamK at qD
  cases d with
  | ref j =>
    dsimp only at qD
    by_cases hj : j = n
    case neg => rw [if_neg hj] at qD; exact qD.elim
    rw [if_pos hj] at qD
    subst hj
    have lm : ι0 <+: ι ∧ GLe G0 G := wZ.lm
    cases rv with
    | ref hk =>
      rw [pre_get lm.1 hx] at hk
      cases hk
      have hfZ := wZ.sub _ _ (lm.2.2 f _ hf trivial)
      have hcZ := wZ.sub _ _ (lm.2.2 c' _ hc trivial)
      refine wpAny_Call_Name_kw (thn ((pe_var (pos := p1) (i := i) hN hv hd hcd).run pinsZ sZ σZ HZ (fun v H1 => v = .ref f ∧ H1 = HZ) IZ ⟨.ref f, hs, rfl, rfl⟩) fun u s1 ⟨v, H1, I1, r1, q1⟩ => ?_)
      obtain ⟨ev, eH⟩ := q1
      subst ev
      subst eH
      obtain rfl : u = Value.ref f := r1
      have of1 := (I1.hok f _ hfZ).1
      refine PySem.W.callWith_F0 ⟨_, _, _, _, of1⟩ ?_
      have un : Un (frs X.stack) [] H H1 s.heap s1.heap := I1.base
      obtain ⟨⟨oc, us, t, hoc, hdc, hvc⟩, _, _⟩ := I1.hok c' _ hcZ
      have rc : codeAny (model X.prog X.w) (X.A.deeper (envOfC qg sg s.heap.objs.size ga cdg)) (.call (.ref f) ⟨[], []⟩) (CR (L2N.CX X.prog X.w) (envOfC qg sg s.heap.objs.size ga cdg :: X.stack) X.prog X.w H1 s1 Q (WE WZ σZ)) s1 := by
        refine PySem.W.kla_callFunE hr.depth of1 rfl Ls.co Ls.gen rfl ⟨c', oc, us, t, rfl, hoc, hdc, hvc⟩ ?_
        rw [hbind]
        refine wpAny_pure (wpAny_newFunctionEnv (fun y hy => (Ls.own y hy).2) (fun y hy => absurd hy (by simp)) (fun h1 hns hsb => ⟨I1.nolimit.fresh _ hsb, ?_⟩) Ls.kind)
        show codeAny _ _ (.expr body (LamX.lamEnv X scope s1.heap.objs.size f c')) _ _
        have kp : ∀ b o, s1.heap.get? b = some o → h1.get? b = some o := fun b o e => hsb.extBut b o (Nat.ne_of_lt (Heap.lt_size e)) (Heap.get?_push_of_some _ e)
        have J0 : Inv (LamX.lamCx X (X.A.deeper (envOfC qg sg s.heap.objs.size ga cdg)) (envOfC qg sg s.heap.objs.size ga cdg :: X.stack) s1 H1 (WE WZ σZ) scope f c') [] σ H1 { s1 with heap := h1, toks := s1.toks + ([] : List (Str × Value)).length } :=
          LamX.lam_start2 I Ls I1.env0 hr.hd un hns kp
        have J := J0.wish (fun e s' => wpAny (model X.prog X.w) ((X.A.deeper (envOfC qg sg s.heap.objs.size ga cdg)).deeper (LamX.lamEnv X scope s1.heap.objs.size f c')) (leaving (LamX.lamEnv X scope s1.heap.objs.size f c') e) (fun _ s'' => L2N.CX X.prog X.w (envOfC qg sg s.heap.objs.size ga cdg :: X.stack) H1 s1 (WE WZ σZ) e s'') (fun e' s'' => L2N.CX X.prog X.w (envOfC qg sg s.heap.objs.size ga cdg :: X.stack) H1 s1 (WE WZ σZ) e' s'') s')
        have gL := g.lam (E := WE WZ σZ) (scope := scope) (A := X.A.deeper (envOfC qg sg s.heap.objs.size ga cdg)) (outer := envOfC qg sg s.heap.objs.size ga cdg :: X.stack) (s := s1) (H := H1) (f := f) (c' := c') (hr.deeper _) g.hg
        obtain ⟨t2, pt, rt⟩ := hbody _ _ gL
        have wL : W L ι m G H1 := (show W (withF L L.lf) ι m G H1 from wZ.toF ⟨w0.lm.1.trans lm.1, w0.lm.2.trans lm.2⟩)
        have qL : PV L (fun c d H => WZ c d σZ H) ι G H1 (fe env m) Q := (show PV (withF L L.lf) (fun c d H => WZ c d σZ H) ι G H1 (fe env m) Q from Post.toF qD lm fun d m' ι' G' H' z v r => z v (r.toF))
        have ht := rt σ H1 Q env ι m G wL (rr0.mono lm.2 lm.1) qL
        refine PySem.W.kla_codeExpr (wpAny_mono (pt.run [] _ _ H1 Q J ht) (fun v s' hq => ?_) fun e s' hq => hq)
        obtain ⟨w', H', J', rv, q⟩ := hq
        exact ⟨w', H', J'.os, J'.bare, J'.base, J'.hok, rv, q⟩
      refine wpAny_call (codeAny_mono rc fun r s' hq => ?_)
      cases r with
      | error e => exact L2N.passAt tk σZ pinsZ H1 s1 e s' I1 hq
      | ok fl =>
        cases fl with
        | ret u => exact I1.after hq
        | next => exact False.elim hq
        | brk => exact False.elim hq
        | cont => exact False.elim hq
  | _ => exact qD.elim
end
end Eng

set_option maxRecDepth 100000
set_option maxHeartbeats 4000000
namespace Eng
open PySem PySem.Spec PyProof.Rows L2
variable {L : Lk} {X : Cx} {E : XK} {Wx : WX}
/-- f(lambda: ..): j the maker's table, K what the lambda does -/
def lamCall (j : Nat) (q : Str) (n : Nat) (b : Nat → M D → Env → M Out) (K : M D) : M D := fun m => match m[j]? with
  | some (.tbl q') => if q' = q then callB n (b m.length K) [.ref m.length] (m ++ [.dead]) else .bad
  | _ => .bad
section
variable {Pr : Program} {w : World} {K : PySem.W.Frag} {mg : Str → Option Value} {base : Heap} {N Ng : List Str} {sc scope sg : Scope} {fn : Str → Bool} {k kz jk j : Nat}
/-- what a def that gets a lambda is read as -/
def LamDef (Pr : Program) (w : World) (K : PySem.W.Frag) (mg : Str → Option Value) (base : Heap) (L : Lk) (x a : Str) (st : Stmt) (fd : FuncData) (Ng : List Str) (kz : Nat) (b : Nat → M D → Env → M Out) : Prop :=
  ∀ (z : List Addr × Hp) (_ : L.lf.1 <+: z.1) (Z : Cx) (WZ : WX) (n : Nat) (KK : M D), Good Pr w K mg base Ng (defScope st) (fun _ => true) kz WZ Z → Top Z x fd.code →
    (∀ (W : WX) (pn : List (Addr × Obj)) (xe : Value → Shared → Prop) (p1 p2 : Pos), L2N.Takes (Z.tr pn xe) W → SE (Z.tr pn xe) (withF L z) W (.Call (.Name a p1) [] [] p2) (fun env => do let d ← getE env 0; lamK n d KK)) → SSs Z (withF L z) WZ (defBody st) (b n KK)
theorem se_lam {x a q : Str} {st : Stmt} {ga c P : Addr} {fd : FuncData} {params : Arguments} {body : Expr} {b : Nat → M D → Env → M Out} {fe : Env → M D} {qm : Str} {cdm : Value} {p lpos pos : Pos}
    (g : Good Pr w K mg base N sc fn k Wx X) (tp : Top X qm cdm) (F : Fun K x x st ga fd) (T : FnT K mg x ga fd [a]) (S : FnScope Ng [a] (defScope st)) (hcal : LamDef Pr w K mg base L x a st fd Ng kz b) (hkz : kz + 1 ≤ k) (hjk : jk + 2 ≤ k)
    (hbody : ∀ (Y : Cx) (WY : WX), Good Pr w K mg base N scope (fun _ => false) jk WY Y → SE Y L WY body fe)
    (TB : LamX.TabB base mg c P) (hcd : cdm = .ref c) (hj : L.lf.1[j]? = some P) (hq : q = qm ++ ".<locals>." ++ "<lambda>") (hgl : glB sc x = true) (hls : LamX.lamSB sc scope = true) (hdef : ∀ env, defaultsOf params env = ([], []))
    (hbind : ∀ (q : Str) (cl : List (Str × Addr)) (pm cv ctv : Value), bindArgs (PySem.W.kla_fn "<lambda>" q params body scope cl pm cv ctv) ⟨[], []⟩ = pure []) (hN : Ng[0]? = some a) (hv : visB (defScope st) a = true) :
    SE X L Wx (.Call (.Name x p) [.Lambda params body scope lpos] [] pos) (fun env => lamCall j q Ng.length b (fe env)) := by
  obtain ⟨hP, hw, hK, hmg, hb, hNN, nd, hsc, hfn, hr, hgd, calm, tk, po⟩ := id g
  subst hP hw hK hmg hb hNN
  have hls' : LamX.LamS X.env.scope scope := by rw [hsc]; exact LamX.lamS_by hls
  have hqx : q = X.env.qual ++ "<lambda>" := by rw [tp.hq]; exact hq
  have hcx : X.env.code = .ref c := by rw [tp.hc, hcd]
  obtain ⟨hv1, hv2, hv3⟩ := visB_ok hv
  refine ⟨cE L Wx _, ⟨fun pins s σ H Q I ⟨env, ι, m, G, wm, rr, qq⟩ => ?_⟩, re_c⟩
  unfold lamCall at qq
  dsimp only at qq
  cases hm : m[j]? with
  | none => rw [hm] at qq; exact qq.elim
  | some ob =>
    rw [hm] at qq
    cases ob with
    | tbl q' =>
      dsimp only at qq
      by_cases hqq : q' = q
      case neg => rw [if_neg hqq] at qq; exact qq.elim
      rw [if_pos hqq] at qq
      subst hqq
      have hix : ι[j]? = some P := pre_get wm.lm.1 hj
      have hPm : P ∈ ι := List.mem_of_getElem? hix
      obtain ⟨u, hHP, hRel⟩ := wm.cell j P _ hix hm trivial
      have hGP := wm.out j P _ hix hm trivial
      cases u with
      | tbl ps =>
        obtain ⟨tri, known⟩ := hRel
        refine wpAny_Call_Name_kw (ld_glob I (g.b.gl hgl) T.m ?_ (glB_db hgl))
        refine PySem.W.callWith_K (h₀ := X.base) I.ok.mod.kin T.kp ?_ (by rfl) (by rfl)
        show wpAny _ _ (spliced ((false, eval (.Lambda params body scope lpos) X.env) :: backTo pos (starEach [] X.env))) _ _ s
        refine Calls.spliced_cons (lam_mk (q := q') I TB hcx hqx hHP tri (fun pos cv z => let ⟨c, h1, h2⟩ := known pos cv z; ⟨c, h1, wm.sub _ _ h2⟩) (hdef _) (hls'.has I.ok) fun f c' pm' ctv H1 s' how nf hc1 I1 => Calls.spliced_nil ⟨I1.kIn, ?_⟩)
        -- the memory with the lambda in it
        obtain ⟨G1, w1, l1, g1⟩ : ∃ G1, W L ι m G1 H1 ∧ Le ι G H ι G1 H1 ∧ G1 c' = some (LamX.CodeO c' q') := by
          rcases how with ⟨e, p0, z⟩ | ⟨ps', nC, tri', known', e⟩
          · subst e
            obtain ⟨c2, e2, h2⟩ := known p0 _ z
            cases e2
            exact ⟨G, wm, Le.refl, h2⟩
          · subst e
            have fr := wm.fresh nC
            have wA := (wm.beside (u := LamX.CodeO c' q') fr.1 fr.2).frz fr.1 fr.2 upd_same
            have lA : Le ι G H ι (upd G c' (LamX.CodeO c' q')) (upd H c' (LamX.CodeO c' q')) := (Le.new nC).frz nC fr.2
            have wB := wA.set (u := .tbl ps') (o' := .tbl q') hix hm trivial fun _ => ⟨tri', fun pos cv z => by
              rcases known' pos cv z with z | z
              · obtain ⟨c2, h1, h2⟩ := known pos cv z
                exact ⟨c2, h1, (upd_gle fr.2).2 _ _ h2 trivial⟩
              · exact ⟨c', z, upd_same⟩⟩
            have em : m.set j (.tbl q') = m := by
              obtain ⟨h1, h2⟩ := List.getElem?_eq_some_iff.mp hm
              rw [← h2]
              exact List.set_getElem_self h1
            rw [em] at wB
            exact ⟨_, wB, lA.trans (Le.set hPm), upd_same⟩
        have frf := w1.fresh nf
        have nfH : H f = none := l1.free nf frf.1
        generalize hFO : FunO f (PySem.W.kla_obj "<lambda>" q' params body scope (cloFrom X.env.cells scope.names []) pm' c' ctv) = FO at I1
        have w2 := (((w1.beside (u := FO) frf.1 frf.2).frz frf.1 frf.2 upd_same).dead frf.1 (by rw [upd_same]; simp))
        have l2 : Le ι G H (ι ++ [f]) (upd G1 f FO) (upd H1 f FO) := (l1.trans ((Le.new nf).frz nf frf.2)).alloc nfH
        have g2 : upd G1 f FO c' = some (LamX.CodeO c' q') := (upd_gle frf.2).2 _ _ g1 trivial
        have hx2 : (ι ++ [f])[m.length]? = some f := by
          rw [List.getElem?_append_right (by rw [wm.len]; exact Nat.le_refl _), wm.len, Nat.sub_self]
          rfl
        have gf : upd G1 f FO f = some (FunO f (PySem.W.kla_obj "<lambda>" q' params body scope (cloFrom X.env.cells scope.names []) pm' c' ctv)) := by rw [hFO]; exact upd_same
        generalize upd G1 f FO = G2 at w2 l2 g2 gf
        generalize upd H1 f FO = H2 at w2 l2 I1
        have q2 := Post.later qq l2
        obtain ⟨oc, od, kV, doc, pm, an, cdv, ct, osl, efd, lk, hcg⟩ := F.ex
        have hr1 : Room (k - 1 + 1) X.A := by rw [show k - 1 + 1 = k by omega]; exact hr
        have rc : codeAny (model X.prog X.w) X.A (.call (.ref ga) ⟨[.ref f], []⟩) (CR (L2N.CX X.prog X.w) X.stack X.prog X.w H2 s' Q (fun c d H => Wx c d σ H)) s' := by
          have bnd := T.b s' [.ref f] I1.kIn rfl
          rw [List.append_nil, efd] at bnd
          rw [efd] at lk
          refine LamX.run_ofS (k := k - 1) (N := Ng) (ps := [a]) (us := [.ref f]) (vs := [.ref f]) lk hcg S hr1 I1.env0 bnd (.cons rfl .nil) rfl fun hr' => ?_
          have gd : Good X.prog X.w X.K X.mg X.base Ng (defScope st) (fun _ => true) kz (fun c d _ H => Wx c d σ H) (cxOf (L2N.CX X.prog X.w) X.prog X.w X.K X.mg X.base Ng x (defScope st) ga cdv X.A X.stack s' H2 (fun c d H => Wx c d σ H)) :=
            ⟨rfl, rfl, rfl, rfl, rfl, rfl, S.nd, rfl, rfl, hr'.mono (by omega), hgd, rfl, L2N.takes_of rfl rfl rfl rfl, passes_of rfl⟩
          obtain ⟨t, pt, rs⟩ := hcal (ι ++ [f], G2) w2.lm.1 _ _ m.length (fe env) gd ⟨rfl, by rw [efd]; rfl, rfl, rfl⟩ fun W pn xe p1 p2 tkW =>
            se_act (i := 0) (jk := jk) g I1 hls' w2 (rr.le l2) hqx hx2 gf g2 (hbind _ _ _ _ _) hbody (hr'.mono (by omega)) tkW hN hv1 hv2 hv3
          have w3 : W (withF L (ι ++ [f], G2)) (ι ++ [f]) (m ++ [.dead]) G2 H2 := (show W (withF L L.lf) (ι ++ [f]) (m ++ [.dead]) G2 H2 from w2).toF ⟨List.prefix_refl _, .refl _⟩
          have q3 : PV (withF L (ι ++ [f], G2)) (fun c d H => Wx c d σ H) (ι ++ [f]) G2 H2 (callB Ng.length (b m.length (fe env)) [.ref m.length] (m ++ [.dead])) Q :=
            Post.toF (L := L) (z := L.lf) (z' := (ι ++ [f], G2)) q2 w2.lm fun d m' ι' G' H' z v r => z v (Rep.toF (L := L) (z' := L.lf) r)
          exact ⟨t, pt, rs _ (L2.start Ng [.ref f]) H2 (startE Ng.length [.ref m.length]) (ι ++ [f]) (m ++ [.dead]) G2 w3 (start_rep (.cons (.ref hx2) .nil)) (post_callB q3)⟩
        refine wpAny_call (codeAny_mono rc fun r s2 hq => ?_)
        cases r with
        | error e => exact L2N.passAt tk σ pins H2 s' e s2 I1 hq
        | ok fl =>
          cases fl with
          | ret u => exact I1.after hq
          | next => exact False.elim hq
          | brk => exact False.elim hq
          | cont => exact False.elim hq
      | _ => exact hRel.elim
    | _ => exact qq.elim
end
end Eng

set_option maxRecDepth 100000
set_option maxHeartbeats 4000000
namespace Eng
open PySem PySem.Spec PyProof.Rows L2
/-! ### the law's head, with tables of code objects -/
theorem law_callGT {P : Program} {w : World} {K : PySem.W.Frag} {mg mb : Str → Option Value} {k : Nat} {fa a : Addr} {fd : FuncData} {x : Str} {L : Lk} {g : List D → M D} {sB : Shared} {vs : List Value} {ns : List Int} {cs : List (Addr × Addr)} {qs : List Str}
    (kIn : K.In sB.heap) (hGl : sB.heap.Ns mainGlobals mg) (hb : sB.heap.Ns builtinsNs mb) (hBm : ∀ x : Str, x ≠ "__name__" → mb x = bootBuiltins x) (hNo : sB.heap.NoLimit) (hg : sB.gens = #[])
    (isTab : ∀ p ∈ cs, sB.heap.get? p.2 = some (PySem.W.tabObj #[])) (notK : ∀ p ∈ cs, K.lookup p.2 = none) (isCode : ∀ p ∈ cs, PySem.W.CodeHd sB.heap p.1 p.2) (noDup : (cs.map (·.2)).Nodup) (hqs : qs.length = cs.length)
    (hMain : ∃ (bm : Addr) (ob : Obj), mg "__builtins__" = some (.ref bm) ∧ bm ≠ builtinsNs ∧ sB.heap.get? bm = some ob ∧ ob.cls = .type "module" ∧ ob.dict = some builtinsNs ∧ ob.data = .plain)
    (ha : sB.heap.get? a = some { cls := .type "list", data := .seq vs.toArray }) (hi : IntsAre vs ns) (hl : ns.length ≤ sizeLine) (hr : Room k callerA)
    (F : ∀ base : Heap, K.In base → base.Ns mainGlobals mg → (∀ p ∈ cs, LamX.TabB base mg p.1 p.2) → Df P w K mg base L k fa fd [x] g) (hLK : L.K = K) (hlf : L.lf = (cs.map (·.2), fun _ => none)) (hbind : ∀ (s : Shared) (u : Value), BindsTo s fd ⟨[u], []⟩ [(x, u)])
    (hsp : ∃ m', g [.scr (ns.map D.int)] (qs.map .tbl) = .ok (.bl true) m') :
    codeAny (model P w) callerA (.call (.ref fa) ⟨[.ref a], []⟩) (fun r s' => r = .ok (.ret (.bool true)) ∧ OldK sB.heap s'.heap ∧ s'.os = sB.os ∧ AllBare s'.gens) sB := by
  have rvals := vals_ints hi
  have lenOf := hi.length
  have tabAt : ∀ b : Addr, b ∈ cs.map (·.2) → sB.heap.get? b = some (PySem.W.tabObj #[]) := fun b hb => by
    obtain ⟨p, hp, e⟩ := List.mem_map.mp hb
    rw [← e]; exact isTab p hp
  have aNo : a ∉ cs.map (·.2) := fun z => by
    have q := tabAt a z
    rw [ha] at q
    have z' : Data.seq vs.toArray _ = Data.fields #[] := congrArg Obj.data (Option.some.inj q)
    cases z'
  have inT : ∀ p ∈ cs, p.2 ∈ cs.map (·.2) := fun p hp => List.mem_map.mpr ⟨p, hp, rfl⟩
  have core : ∀ H : Hp, (∀ b ∈ cs.map (·.2), H b = some (.tbl #[])) → (∀ b, H b = none ∨ b ∈ cs.map (·.2) ∨ ∃ o xs, H b = some (.frz o (.lst xs))) → SqL K H a (ns.map V.int) → HOk P w H sB.heap → (∀ b, H b ≠ none → b = a ∨ b ∈ cs.map (·.2)) → (H a ≠ none → K.lookup a = none) →
      codeAny (model P w) callerA (.call (.ref fa) ⟨[.ref a], []⟩) (fun r s' => r = .ok (.ret (.bool true)) ∧ OldK sB.heap s'.heap ∧ s'.os = sB.os ∧ AllBare s'.gens) sB := by
    intro H hH onlyTs seqS okB atA noKa
    have ground : ∀ {b : Addr} {o : Obj}, sB.heap.get? b = some o → H b = none → (hidT sB.heap H).get? b = some o := fun e n => hidT_get e n
    have free1 : ∀ {b : Addr} {o : Obj}, sB.heap.get? b = some o → (∀ vs n, o.data ≠ .seq vs n) → o.data ≠ .fields #[] → H b = none := fun {b o} e h1 h2 => by
      cases q : H b with
      | none => rfl
      | some u =>
        rcases atA b (by rw [q]; simp) with e' | e'
        · subst e'
          rw [ha] at e; cases e
          exact (h1 _ _ rfl).elim
        · rw [tabAt b e'] at e; cases e
          exact (h2 rfl).elim
    have plainA : ∀ {b : Addr} {o : Obj} {es : Array DictEntry} {ep : Nat}, sB.heap.get? b = some o → o.data = .dict es ep → H b = none := fun {b o es ep} e d => free1 e (fun vs n z => by rw [d] at z; cases z) fun z => by rw [d] at z; cases z
    have nsG : ∀ {b : Addr} {m : Str → Option Value}, sB.heap.Ns b m → (hidT sB.heap H).Ns b m := fun {b m} ⟨o, es, ep, e, d, r⟩ => ⟨o, es, ep, ground e (plainA e d), d, r⟩
    have kGr : K.In (hidT sB.heap H) := fun b o e => ground (kIn b o e) (by
      cases q : H b with
      | none => rfl
      | some u =>
        rcases atA b (by rw [q]; simp) with e' | e'
        · subst e'
          rw [noKa (by rw [q]; simp)] at e; cases e
        · obtain ⟨p, hp, ep⟩ := List.mem_map.mp e'
          rw [← ep, notK p hp] at e; cases e)
    have modG : Mod K mg (hidT sB.heap H) := ⟨kGr, nsG hGl, ⟨mb, nsG hb, hBm⟩, let ⟨mc, h1, h2⟩ := hNo; ⟨mc, nsG h1, h2⟩⟩
    have tabG : ∀ p ∈ cs, LamX.TabB (hidT sB.heap H) mg p.1 p.2 := fun p hp => by
      have tp := isTab p hp
      refine ⟨?_, ?_, fun z => ?_⟩
      · obtain ⟨o, us, file, tf, flags, tg, inF, text, tt, e1, r1, r2, r3, r4, r5, r6, r7, r8, hne⟩ := isCode p hp
        exact ⟨o, us, file, tf, flags, tg, inF, text, tt, ground e1 (free1 e1 (fun vs n z => by rw [r2] at z; cases z) fun z => by rw [r2] at z; cases z; simp at r3), r1, r2, r3, r4, r5, r6, r7, r8, hne⟩
      · obtain ⟨bm, ob, b1, b2, b3, b4, b5, b6⟩ := hMain
        have nG : bm ≠ mainGlobals := fun q => by
          obtain ⟨o, es, ep, e, hd, _⟩ := hGl
          rw [q, e] at b3; cases b3
          rw [hd] at b6; cases b6
        have nP : bm ≠ p.2 := fun q => by
          rw [q, tp] at b3; cases b3
          cases b6
        exact ⟨bm, ob, b1, b2, nG, nP, ground b3 (free1 b3 (fun vs n z => by rw [b6] at z; cases z) fun z => by rw [b6] at z; cases z), b4, b5, b6⟩
      · obtain ⟨o, es, ep, e, hd, _⟩ := hGl
        rw [z, tp] at e; cases e
        cases hd
    have e0 : Env0 P w K mg (hidT sB.heap H) callerA [] sB H := ⟨rfl, modG, fun b o e => of_hidT e, Nat.le_of_eq (hidT_size _ _), trivial, fun b hb => absurd (show b ∈ ([] : List Addr) from hb) (by simp), okB, .of_eq hg⟩
    obtain ⟨m', hm'⟩ := hsp
    -- the frozen part is all but the tables
    have gT : ∀ b, b ∈ cs.map (·.2) → (fun b => if b ∈ cs.map (·.2) then none else H b : Hp) b = none := fun b hb => if_pos hb
    have gN : ∀ b, b ∉ cs.map (·.2) → (fun b => if b ∈ cs.map (·.2) then none else H b : Hp) b = H b := fun b hb => if_neg hb
    generalize (fun b => if b ∈ cs.map (·.2) then none else H b : Hp) = G at gT gN
    have obT : ∀ (j : Nat) (o : Ob), (qs.map Ob.tbl)[j]? = some o → ∃ q, o = .tbl q := fun j o e => by
      obtain ⟨q, _, e2⟩ := List.mem_map.mp (List.mem_of_getElem? e)
      exact ⟨q, e2.symm⟩
    have w0 : Eng.W L (cs.map (·.2)) (qs.map .tbl) G H := by
      refine ⟨fun b u e => ?_, noDup, by simp [hqs], fun b hb => by rw [hH b hb]; simp, fun j b o e1 _ _ => gT b (List.mem_of_getElem? e1), fun j b o e1 e2 _ => ?_, by rw [hlf]; exact ⟨List.prefix_refl _, gle_none⟩⟩
      · by_cases hb : b ∈ cs.map (·.2)
        · rw [gT b hb] at e; cases e
        · rw [gN b hb] at e; exact e
      · obtain ⟨q, rfl⟩ := obT j o e2
        refine ⟨_, hH b (List.mem_of_getElem? e1), True.intro, fun pos cv z => ?_⟩
        have z' : codeAmong pos [] = some cv := z
        simp [codeAmong] at z'
    have seqG : SqL L.K G a (ns.map V.int) := by
      rw [hLK]
      rcases seqS with h | h
      · refine .inl ?_
        rcases h with h | ⟨o, h⟩
        · exact .inl (by rw [gN a aNo]; exact h)
        · exact .inr ⟨o, by rw [gN a aNo]; exact h⟩
      · exact .inr h
    have rl : RepL L G (cs.map (·.2)) [V.ref a] [D.scr (ns.map D.int)] := .cons (.scr seqG (rep_ints ns)) .nil
    refine codeAny_mono ((F _ kGr (nsG hGl) tabG).go callerA [] sB H ⟨[.ref a], []⟩ [.ref a] [.ref a] _ (cs.map (·.2)) (qs.map .tbl) G (fun v _ => v = .bl true) (fun _ _ _ => False) hr rfl e0 (hbind sB (.ref a)) (.cons rfl .nil) rfl w0 rl (by
      rw [hm']
      exact fun ι' G' H' l w' v rvals => by cases rvals; rfl)) fun r s' h => ?_
    cases r with
    | error e =>
      obtain ⟨_, _, _, _, _, _, _, _, _, _, _, _, z⟩ := h
      exact z.elim
    | ok fl =>
      cases fl with
      | next => exact False.elim h
      | brk => exact False.elim h
      | cont => exact False.elim h
      | ret u =>
        obtain ⟨v, H', os, bare, un, okE, r', q⟩ := h
        have q' : v = .bl true := q
        subst q'
        obtain rfl : u = Value.bool true := r'
        have same : ∀ b o, b ∉ cs.map (·.2) → sB.heap.get? b = some o → s'.heap.get? b = some o := fun b o nb e => by
          cases q : H b with
          | none => exact un.keep b o e q (by intro z; exact absurd (show b ∈ ([] : List Addr) from z) (by simp)) (by simp)
          | some u =>
            rcases onlyTs b with z | z | ⟨ob, xs, z⟩
            · rw [q] at z; cases z
            · exact absurd z nb
            · have z2 := un.frzs b ob _ z
              obtain ⟨e1, _⟩ := okB b _ z
              obtain ⟨e2, _⟩ := okE b _ z2
              rw [e] at e1; cases e1
              exact e2
        have more1 : ∀ p ∈ cs, ∃ more : Array Value, s'.heap.get? p.2 = some (PySem.W.tabObj more) := fun p hp => by
          obtain ⟨more, z⟩ := un.tbls p.2 #[] (hH p.2 (inT p hp))
          exact ⟨_, okE p.2 _ z⟩
        refine ⟨rfl, ⟨fun b o e => ?_, fun b o e => ?_⟩, os, bare⟩
        · by_cases hb : b ∈ cs.map (·.2)
          · obtain ⟨p, hp, ep⟩ := List.mem_map.mp hb
            obtain ⟨more, hm⟩ := more1 p hp
            rw [← ep] at e ⊢
            rw [isTab p hp] at e; cases e
            exact .inr (.inl ⟨((isCode p hp).tab (isTab p hp)).isCodeTable, rfl, #[], more, rfl, by rw [Array.empty_append]; exact hm⟩)
          · exact .inl (same b o hb e)
        · by_cases hb : b ∈ cs.map (·.2)
          · obtain ⟨p, hp, ep⟩ := List.mem_map.mp hb
            obtain ⟨more, hm⟩ := more1 p hp
            rw [← ep]; exact ⟨_, hm⟩
          · exact ⟨o, same b o hb e⟩
  cases hk : K.lookup a with
  | some o =>
    have e := kIn a o hk
    rw [ha] at e
    cases e
    refine core (fun b => if b ∈ cs.map (·.2) then some (.tbl #[]) else none) (fun b hb => if_pos hb) (fun b => ?_) (.inr ⟨_, vs.toArray, _, hk, rfl, rfl, rfl, by rw [List.size_toArray, lenOf]; exact hl, by simpa using rvals⟩) (fun b u z => ?_) (fun b z => ?_) fun z => absurd (show (if a ∈ cs.map (·.2) then some (HO.tbl #[]) else none) = none from if_neg aNo) z
    all_goals by_cases hb : b ∈ cs.map (·.2)
    · exact .inr (.inl hb)
    · exact .inl (if_neg hb)
    · have z' := (if_pos hb).symm.trans z
      cases z'; exact tabAt b hb
    · have z' := (if_neg hb).symm.trans z
      cases z'
    · exact .inr hb
    · exact absurd (if_neg hb) z
  | none =>
    have nT : ∀ b, b ∈ cs.map (·.2) → b ≠ a := fun b hb e => aNo (e ▸ hb)
    refine core (fun b => if b = a then some (.frz { cls := .type "list", data := .seq vs.toArray } (.lst (ns.map V.int))) else if b ∈ cs.map (·.2) then some (.tbl #[]) else none) (fun b hb => (if_neg (nT b hb)).trans (if_pos hb)) (fun b => ?_)
      (.inl (.inr ⟨{ cls := .type "list", data := .seq vs.toArray }, if_pos rfl⟩)) (fun b u z => ?_) (fun b z => ?_) fun _ => hk
    all_goals by_cases hb : b = a
    · exact .inr (.inr ⟨_, _, if_pos hb⟩)
    · by_cases hb2 : b ∈ cs.map (·.2)
      · exact .inr (.inl hb2)
      · exact .inl ((if_neg hb).trans (if_neg hb2))
    · have z' := (if_pos hb).symm.trans z
      cases z'; subst hb
      exact ⟨ha, by rw [List.length_map]; exact hl, vs, _, rvals, ha⟩
    · have z1 := (if_neg hb).symm.trans z
      by_cases hb2 : b ∈ cs.map (·.2)
      · have z' := (if_pos hb2).symm.trans z1
        cases z'; exact tabAt b hb2
      · have z' := (if_neg hb2).symm.trans z1
        cases z'
    · exact .inl hb
    · by_cases hb2 : b ∈ cs.map (·.2)
      · exact .inr hb2
      · exact absurd ((if_neg hb).trans (if_neg hb2)) z
theorem tabIn_of {K : PySem.W.Frag} {x : Str} {f c P : Addr} {oc a : Value} {od b : Option Addr} {fd : FuncData} {sl d : Array (Option Value)} {vs : Array Value} (h1 : PySem.W.nsIn K mainGlobals x = some (some (.ref f))) (h2 : K.lookup f = some ⟨oc, od, .func fd, sl⟩) (h3 : fd.code = .ref c) (h4 : K.lookup c = some ⟨a, b, .fields vs, d⟩) (h5 : (vs[11]? : Option Value) = some (.ref P)) :
    PySem.W.tabIn K x = some (c, P) := by
  unfold PySem.W.tabIn
  rw [h1]
  dsimp only
  rw [h2]
  dsimp only
  rw [h3]
  dsimp only
  rw [h4]
  dsimp only
  rw [h5]
/-- the makers of lambdas: their names, each with its code object and table -/
def Makers (q : Program) (K : PySem.W.Frag) (xs : List Str) (cs : List (Addr × Addr)) : Prop := xs.length = cs.length ∧ ∀ p ∈ xs.zip cs, PySem.W.tabIn K p.1 = some p.2 ∧ ((recsOf q).find? fun e => e.name == p.1).isSome = true
theorem walk_ofGT {l : PySem.W.OpenLaw} {n k : Nat} {q : Program} {loose : List Str} {XP : (Str → Option Value) → Heap → Prop} {YP : World → Heap → Prop} {d : DefRec} {K : Params → PySem.W.Frag} {g : List D → M D} {x : Str} {xs qs : List Str}
    (hn : l.most = some n) (hn2 : n ≤ sizeLine) (hDe : d.params.defaults = []) (hr : Room k callerA)
    (hIn : ∀ (w : World) (h : Heap), YP w h → (K w.params).In h)
    (F : ∀ (w : World) (mg : Str → Option Value) (fa : Addr) (h : Heap), (K w.params).In h → h.Ns mainGlobals mg → mg d.name = some (.ref fa) →
      ∃ (fd : FuncData) (L : Lk) (cs : List (Addr × Addr)), L.K = K w.params ∧ L.lf = (cs.map (·.2), fun _ => none) ∧ Makers q (K w.params) xs cs ∧ (∀ p ∈ cs, (K w.params).lookup p.2 = none) ∧ (cs.map (·.2)).Nodup ∧ qs.length = cs.length ∧ (∀ (s : Shared) (u : Value), BindsTo s fd ⟨[u], []⟩ [(x, u)]) ∧
        ∀ base : Heap, (K w.params).In base → base.Ns mainGlobals mg → (∀ p ∈ cs, LamX.TabB base mg p.1 p.2) → Df l.prog w (K w.params) mg base L k fa fd [x] g)
    (hsp : ∀ ns : List Int, ns.length ≤ n → ∃ m', g [.scr (ns.map D.int)] (qs.map .tbl) = .ok (.bl true) m') :
    PySem.W.WalkO q loose XP YP l.row.toRowW d [] (fun f vs => PySem.call f vs) := by
  refine Att.attach_call hn hDe fun w sA sB mg mb fa o pm cd doc a vs ns G Y ho hd hcd hmg hOb hAll hlen hg => ?_
  have kIn := hIn w _ Y
  obtain ⟨fd, L, cs, hL, hlf, ⟨hm1, hm2⟩, nK, nd, hq, hb, hF⟩ := F w mg fa _ kIn G.T.g hmg
  have tabs : ∀ p ∈ cs, PySem.W.CodeHd sB.heap p.1 p.2 ∧ sB.heap.get? p.2 = some (PySem.W.tabObj #[]) := fun p hp => by
    obtain ⟨i, hi, e⟩ := List.getElem_of_mem hp
    have hz : (xs[i]'(by omega), p) ∈ xs.zip cs := by
      rw [List.mem_iff_getElem]
      exact ⟨i, by simp; omega, by simp [e]⟩
    obtain ⟨t1, t2⟩ := hm2 _ hz
    obtain ⟨r, hr⟩ := Option.isSome_iff_exists.mp t2
    exact PySem.W.tab_of G.T kIn hr t1
  exact law_callGT kIn G.T.g G.T.b G.T.builtins G.T.nolimit hg (fun p hp => (tabs p hp).2) nK (fun p hp => (tabs p hp).1) nd hq G.T.bmain hOb hAll (Nat.le_trans hlen hn2) hr hF hL hlf hb (hsp ns hlen)
end Eng

set_option maxRecDepth 100000
set_option maxHeartbeats 4000000
namespace Eng
open PySem PySem.Spec PyProof.Rows L2
variable {L : Lk} {X : Cx} {E : XK} {Wx : WX}
/-! ### dict comprehensions, the keys ints or texts -/
def dcA (g : D → Env → M Env) (t : Env → M Bool) (ek ev : Env → M D) (env0 : Env) : List D → List Key → List D → M (List Key × List D)
  | [], ks, vs => pure (ks, vs)
  | d :: ds, ks, vs => do
    let env1 ← noX (g d env0)
    let b ← noX (t env1)
    if b then (do
      let y ← noX (ek env1)
      let k ← M.of (keyD y)
      let z ← noX (ev env1)
      dcA g t ek ev env0 ds (putKL ks vs k z).1 (putKL ks vs k z).2) else dcA g t ek ev env0 ds ks vs
def dcD (c : Bool) (g : D → Env → M Env) (t : Env → M Bool) (ek ev : Env → M D) (env0 : Env) (l : List D) : M D :=
  if l.length < 1000000 then (do
    let r ← dcA g t ek ev env0 l [] []
    mkNew c (.dK r.1 r.2)) else M.fail
theorem putKL_len {κ : Type} [DecidableEq κ] {ks : List κ} {vs : List D} {k : κ} {v : D} : (putKL ks vs k v).1.length ≤ ks.length + 1 := by
  unfold putKL
  split
  · exact Nat.le_succ _
  · simp
theorem walk_m {J : It} {n : Nat} {G : Hp → Prop} {Y : Nat → Hp → V → Hp → Prop} (w : Walk J n G Y) {start : Hp} {fin : Hp → Prop} {turn : (Hp → Prop) → Nat → Hp → V → Hp → Prop} (Pv : Nat → Hp → Prop) (h0 : Pv 0 start) (hG : ∀ i H, i ≤ n → Pv i H → G H)
    (hs : ∀ i x H H', i < n → Pv i H → Y i H x H' → turn (Pv (i + 1)) i H x H') (hd : ∀ H, Pv n H → fin H) :
    ∃ W : Nat → Nat → Hp → Prop, (∃ m, W 0 m start) ∧ ∀ i m H, W i m H → (J.stop i H ∧ fin H) ∨ (J.go i H ∧ ∃ Nx : Hp → Prop, (∀ H', Nx H' → ∃ m', m' < m ∧ W (i + 1) m' H') ∧ ∀ x H', J.yld i H x H' → turn Nx i H x H') := by
  refine ⟨fun i m H => m = n - i ∧ i ≤ n ∧ Pv i H, ⟨n, (Nat.sub_zero n).symm, Nat.zero_le _, h0⟩, fun i m H h => ?_⟩
  obtain ⟨e, hi, p⟩ := h
  have gG := hG i H hi p
  rcases Nat.lt_or_eq_of_le hi with hlt | he
  · exact .inr ⟨w.goes i H hlt gG, Pv (i + 1), fun H' p' => ⟨n - (i + 1), by omega, rfl, hlt, p'⟩, fun x H' y => hs i x H H' hlt p (w.yields i H x H' hlt gG y)⟩
  · subst he
    exact .inl ⟨w.stops H gG, hd H p⟩
theorem re_dc {c : Bool} {wi : TI} {fi : Env → M (List D)} {g : D → Env → M Env} {t : Env → M Bool} {ek ev : Env → M D} {vs : List Nat} (hi : RI L Wx wi fi) :
    RE L Wx (tDc wi (cG L vs g) (cT L WF t) (cE L WF ek) (cE L WF ev) vs) (fun env => do let l ← fi env; dcD c g t ek ev (wipeE env vs) l) := by
  intro σ H Q env ι m G w rr q
  refine hi σ H _ env ι m G w rr (Post.imp (Post.bind q) fun l m1 ι1 G1 H1 l1 w1 q1 J wk => ?_)
  intro Da hD
  unfold dcD at q1
  by_cases hl : l.length < 1000000
  case neg => rw [if_neg hl] at q1; exact q1.elim
  rw [if_pos hl] at q1
  obtain ⟨Y, wk, hY⟩ := wk
  have f1 := w1.fresh hD
  have rw1 := (rr.le l1).wipe vs
  generalize wipeE env vs = env0 at q1 rw1
  refine walk_m wk (turn := fun Nx i H x H' => cG L vs g x (wipe σ vs) H' fun σ2 H2 => wipe σ2 vs = wipe σ vs ∧ cT L WF t σ2 H2 fun b H3 =>
      if b = true then cE L WF ek σ2 H3 fun y H4 => cE L WF ev σ2 H4 fun z H5 => ∃ kvs k, y = kV k ∧ H5 Da = some (.dK kvs) ∧ kvs.length < sizeLine ∧ Nx (upd H5 Da (.dK (putK kvs k z))) else Nx H3)
    (fun i H => ∃ ks dvs ws ι m G, H Da = some (.dK (ks.zip ws)) ∧ Da ∉ ι ∧ G Da = none ∧ W L ι m G H ∧ RepL L G ι ws dvs ∧ ks.length = dvs.length ∧ ks.length ≤ i ∧ GLe G1 G ∧ ι1 <+: ι ∧ Le ι1 G1 H1 ι G H ∧
    PV L (fun c d H => Wx c d σ H) ι1 G1 H1 ((dcA g t ek ev env0 (l.drop i) ks dvs >>= fun r => mkNew c (.dK r.1 r.2)) m) Q) ⟨[], [], [], ι1, m1, G1, upd_same, f1.1, f1.2, w1.beside f1.1 f1.2, .nil, rfl, Nat.le_refl _, .refl G1, List.prefix_refl _, Le.new hD, q1⟩ ?_ ?_ ?_
  · rintro i H' _ ⟨ks, dvs, ws, ι', m', G', _, _, _, w', _, _, _, g', p', _⟩
    exact ⟨ι', m', G', w', g', p'⟩
  · rintro i x H2 H3 hi ⟨ks, dvs, ws, ι2, m2, G2, a1, a2, a3, w2, ra, el, al, g2, p2, b2, q2⟩ y
    obtain ⟨G3, d, l3, w3, hd, rd⟩ := hY i H2 x H3 y ι2 m2 G2 w2 g2 p2
    have e1 : l.drop i = d :: l.drop (i + 1) := by
      obtain ⟨hi', e⟩ := List.getElem?_eq_some_iff.mp hd
      rw [List.drop_eq_getElem_cons hi', e]
    rw [e1] at q2
    unfold dcA at q2
    rw [bind_as] at q2
    have b3 := b2.trans l3
    have keep : ∀ {ι' : List Addr} {G' H' : Hp}, Le ι2 G2 H2 ι' G' H' → H' Da = some (.dK (ks.zip ws)) ∧ Da ∉ ι' ∧ G' Da = none := fun {ι' G' H'} le =>
      ⟨le.fr Da _ a1 a2, (fun z => by have := le.nw Da z a2; rw [a1] at this; cases this), (le.gn Da (by rw [a1]; simp) a2).trans a3⟩
    refine ⟨d, env0, ι2, m2, G3, w3, rd, rw1.mono (g2.trans l3.g) p2, Post.imp (Post.later (post_noX (Post.bind0 q2)) b3) fun env4 m4 ι4 G4 H4 l4 w4 q4 σ4 rr4 e4 => ?_⟩
    refine ⟨e4.trans (wipe_in fun _ h => h), ?_⟩
    rw [bind_as] at q4
    have b4 := b3.trans l4
    refine ⟨env4, ι4, m4, G4, w4, rr4, Post.imp (Post.later (post_noX (Post.bind0 q4)) b4) fun b m5 ι5 G5 H5 l5 w5 q5 => ?_⟩
    have b5 := b4.trans l5
    cases b with
    | false =>
      rw [if_neg Bool.false_ne_true] at q5
      dsimp only
      rw [if_neg Bool.false_ne_true]
      have lo := (l3.trans l4).trans l5
      obtain ⟨k1, k2, k3⟩ := keep lo
      exact ⟨ks, dvs, ws, ι5, m5, G5, k1, k2, k3, w5, ra.mono lo.g lo.pre, el, Nat.le_succ_of_le al, g2.trans lo.g, p2.trans lo.pre, b5, q5⟩
    | true =>
      rw [if_pos rfl] at q5
      dsimp only
      rw [if_pos rfl]
      rw [bind_as] at q5
      refine ⟨env4, ι5, m5, G5, w5, rr4.le l5, Post.imp (Post.later (post_noX (Post.bind0 q5)) b5) fun dy m6 ι6 G6 H6 l6 w6 q6 y ry => ?_⟩
      have b6 := b5.trans l6
      rw [bind_as] at q6
      cases hk : keyD dy with
      | none => rw [hk] at q6; exact (Post.bind q6).elim
      | some k =>
        rw [hk] at q6
        have q7 : PV L (fun c d H => Wx c d σ H) ι1 G1 H1 (((noX (ev env4) >>= fun z => dcA g t ek ev env0 (l.drop (i + 1)) (putKL ks dvs k z).1 (putKL ks dvs k z).2) >>= fun r => mkNew c (.dK r.1 r.2)) m6) Q := q6
        rw [bind_as] at q7
        refine ⟨env4, ι6, m6, G6, w6, (rr4.le l5).le l6, Post.imp (Post.later (post_noX (Post.bind0 q7)) b6) fun dz m7 ι7 G7 H7 l7 w7 q8 z rz => ?_⟩
        have lo := (((l3.trans l4).trans l5).trans l6).trans l7
        obtain ⟨k1, k2, k3⟩ := keep lo
        have rw7 := ra.mono lo.g lo.pre
        have elw : ks.length = ws.length := el.trans ra.length.symm
        obtain ⟨z1, z2, z3⟩ := putKL_rep (x := k) el rz rw7
        refine ⟨ks.zip ws, k, rep_key ry hk, k1, by rw [List.length_zip, ← elw, Nat.min_self]; exact big_ok (Nat.lt_of_le_of_lt al (Nat.lt_trans hi hl)), (putKL ks dvs k dz).1, (putKL ks dvs k dz).2, (putKL ks ws k z).2, ι7, m7, G7, ?_, k2, k3, w7.beside k2 k3, z3, z2, Nat.le_trans putKL_len (Nat.succ_le_succ al), g2.trans lo.g, p2.trans lo.pre, (b6.trans l7).over hD, q8⟩
        rw [upd_same, putK_zip elw, z1]
  · rintro H' ⟨ks, dvs, ws, ι', m', G', k1, k2, k3, w', ra, el, _, _, _, b', q'⟩
    rw [List.drop_eq_nil_of_le (Nat.le_refl _)] at q'
    exact place q' b' w' trivial hD k1 k2 k3 ⟨ws, rfl, el, ra⟩
section
variable {c : Bool} {kx vx tg iter : Expr} {ifs : List Expr} {scope : Scope} {own : List (Str × Nat)} {pos : Pos} {fi : Env → M (List D)} {g : D → Env → M Env} {t : Env → M Bool} {ek ev : Env → M D}
theorem se_dc (hc : X.calm = true) (hN : X.N.Nodup) (hi : SI X L Wx tg iter fi) (ok : BlkOk X.N X.env.scope scope own)
    (hb : ∀ (s : Shared) (H : Hp) (C : Addr) (cl : List (Str × Addr)) (fp : List Addr), SG (X.blk s H scope (compEnvC scope cl C X.env) fp) L (own.map (·.2)) tg g ∧ SPT (X.blk s H scope (compEnvC scope cl C X.env) fp) L WF ifs t ∧ SE (X.blk s H scope (compEnvC scope cl C X.env) fp) L WF kx ek ∧ SE (X.blk s H scope (compEnvC scope cl C X.env) fp) L WF vx ev)
    (hs : ∀ x, foldedSetIterable iter X.env x = pure x) : SE X L Wx (.DictComp kx vx [⟨tg, iter, ifs, 0⟩] scope pos) (fun env => do let l ← fi env; dcD c g t ek ev (wipeE env (own.map (·.2))) l) := by
  obtain ⟨wi, pi, hi⟩ := hi
  exact ⟨_, pe_dc hc hN pi ok (fun s H C cl fp => (hb s H C cl fp).1.pg) (fun s H C cl fp => (hb s H C cl fp).2.1.ex) (fun s H C cl fp => (hb s H C cl fp).2.2.1.pe) (fun s H C cl fp => (hb s H C cl fp).2.2.2.pe) hs, re_dc hi⟩
theorem Good.dc {P : Program} {w : World} {K : PySem.W.Frag} {mg : Str → Option Value} {base : Heap} {N : List Str} {sc : Scope} {fn : Str → Bool} {k : Nat} (gd : Good P w K mg base N sc fn k Wx X) (own : List (Str × Nat)) (hk : sc.kind = .function) (hi : SI X L Wx tg iter fi) (ok : blkB N sc scope own = true)
    (hb : ∀ Y : Cx, Good P w K mg base N (relS scope sc) (fun x => scope.names.lookup x == some .cell) k WF Y → SG Y L (own.map (·.2)) tg g ∧ SPT Y L WF ifs t ∧ SE Y L WF kx ek ∧ SE Y L WF vx ev)
    (hs : ∀ x, foldedSetIterable iter X.env x = pure x) : SE X L Wx (.DictComp kx vx [⟨tg, iter, ifs, 0⟩] scope pos) (fun env => do let l ← fi env; dcD c g t ek ev (wipeE env (own.map (·.2))) l) :=
  se_dc gd.calm (by rw [gd.hN]; exact gd.nd) hi (gd.b.blkOk ok) (fun s H C cl fp => hb _ (gd.blk hk s H scope C cl fp)) hs
end
end Eng

set_option maxRecDepth 100000
set_option maxHeartbeats 4000000
namespace Eng
open PySem PySem.Spec PyProof.Rows L2
variable {L : Lk} {X : Cx} {E : XK} {Wx : WX}
/-! ### a name's mutable list or dict is told to stay from here on -/
def obF : Ob → Option D
  | .lst l => some (.lst l)
  | .dK ks vs => some (.dK ks vs)
  | .dT ks vs => some (.dT ks vs)
  | _ => none
def frzS (i : Nat) : Env → M Out := fun env m => match env[i]? with
  | some (some (.ref k)) => match (m[k]?).bind obF with
    | some d => .ok (.nx (env.set i (some d))) (m.set k .dead)
    | none => .bad
  | _ => .bad
theorem RepE.chg {G : Hp} {ι : List Addr} {σ : L2.St} {env : Env} {i : Nat} {v : V} {d : D} (h : RepE L G ι σ env) (e : σ[i]? = some (some v)) (r : Rep L G ι v d) : RepE L G ι σ (env.set i (some d)) := by
  refine ⟨by simp [h.len], fun j d' e' => ?_⟩
  by_cases hj : j = i
  · subst hj
    by_cases hl : j < env.length
    · rw [List.getElem?_set_self hl] at e'; cases e'
      exact ⟨v, e, r⟩
    · rw [List.getElem?_eq_none (by simpa using hl)] at e'; cases e'
  · rw [List.getElem?_set_ne (Ne.symm hj)] at e'
    exact h.get j d' e'
theorem kill_rep {G H : Hp} {ι : List Addr} {m : Mem} {k : Nat} {a : Addr} {o : Ob} {d : D} (w : W L ι m G H) (hk : ι[k]? = some a) (hm : m[k]? = some o) (hd : obF o = some d) :
    ∃ u, W L ι (m.set k .dead) (upd G a u) H ∧ Le ι G H ι (upd G a u) H ∧ Rep L (upd G a u) ι (.ref a) d := by
  have hmem : a ∈ ι := List.mem_of_getElem? hk
  cases o with
  | lst l =>
    cases hd
    obtain ⟨u, h1, h2⟩ := w.cell _ _ _ hk hm trivial
    have gn := w.out _ _ _ hk hm trivial
    cases u <;> first | exact ⟨_, w.kill hk hm trivial h1, Le.kill hmem gn, .lst upd_same (h2.mono (upd_gle gn) (List.prefix_refl _))⟩ | exact h2.elim
  | dK ks l =>
    cases hd
    obtain ⟨u, h1, h2⟩ := w.cell _ _ _ hk hm trivial
    have gn := w.out _ _ _ hk hm trivial
    cases u <;> first | (obtain ⟨vs, rfl, e, r⟩ := h2; exact ⟨_, w.kill hk hm trivial h1, Le.kill hmem gn, .dK (Rd.of upd_same) e (r.mono (upd_gle gn) (List.prefix_refl _))⟩) | exact h2.elim
  | dT ks l =>
    cases hd
    obtain ⟨u, h1, h2⟩ := w.cell _ _ _ hk hm trivial
    have gn := w.out _ _ _ hk hm trivial
    cases u <;> first | (obtain ⟨vs, rfl, e, r⟩ := h2; exact ⟨_, w.kill hk hm trivial h1, Le.kill hmem gn, .dT (Rd.of upd_same) e (r.mono (upd_gle gn) (List.prefix_refl _))⟩) | exact h2.elim
  | _ => cases hd
theorem rs_frz {t : TS} {f : Env → M Out} (i : Nat) (h : RS L Wx t f) : RS L Wx t (seqS (frzS i) f) := by
  intro Z σ H env ι m G w rr q
  have q0 : PS1 L Wx Z ι G H (match frzS i env m with
    | .ok (.nx env') m' => f env' m'
    | .ok o m' => .ok o m'
    | .exn e m' => .exn e m'
    | .bad => .bad) := by
    have e : seqS (frzS i) f env m = M.bind (frzS i env) (fun o => match o with
      | .nx env' => f env'
      | o => pure o) m := rfl
    rw [e] at q
    unfold M.bind at q
    cases z : frzS i env m with
    | bad => rw [z] at q; exact q
    | exn x m' => rw [z] at q; exact q
    | ok o m' => rw [z] at q; cases o <;> exact q
  unfold frzS at q0
  cases he : env[i]? with
  | none => rw [he] at q0; exact q0.elim
  | some o =>
    rw [he] at q0
    cases o with
    | none => exact q0.elim
    | some d =>
      cases d with
      | ref k =>
        dsimp only at q0
        cases hm : m[k]? with
        | none => rw [hm] at q0; exact q0.elim
        | some ob =>
          rw [hm] at q0
          simp only [Option.bind_some] at q0
          cases hd : obF ob with
          | none => rw [hd] at q0; exact q0.elim
          | some d =>
            rw [hd] at q0
            obtain ⟨v, hv, rv⟩ := rr.get i _ he
            cases rv with
            | ref hk =>
              obtain ⟨u, w1, l1, r1⟩ := kill_rep w hk hm hd
              exact h Z σ H _ ι _ _ w1 ((rr.le l1).chg hv r1) (Post.later q0 l1)
      | _ => exact q0.elim
theorem ss_frz {sts : List Stmt} {f : Env → M Out} (i : Nat) (h : SSs X L Wx sts f) : SSs X L Wx sts (seqS (frzS i) f) := by
  obtain ⟨t, p, h⟩ := h
  exact ⟨t, p, rs_frz i h⟩
end Eng

set_option maxRecDepth 100000
set_option maxHeartbeats 4000000
namespace Eng
open PySem PySem.Spec PyProof.Rows L2
variable {L : Lk} {X : Cx} {E : XK} {Wx : WX}
/-! ### sum, max, min of ints -/
section
variable {prog : Program} {w : World} {A : Around} {E' : Value → Shared → Prop} {s : Shared} {t : Addr} {xs : Array (Int × Tok)}
theorem tup_kept {h' : Heap} (hk : ∀ b o, b ∉ [s.heap.objs.size] → (s.heap.push { cls := .type "tuple_iterator", data := .fields #[.ref t, .int 0 0] }).get? b = some o → h'.get? b = some o) : ∀ b o, s.heap.get? b = some o → h'.get? b = some o := fun b o e =>
  hk b o (fun hm => absurd (List.mem_singleton.mp hm ▸ Heap.lt_size e) (Nat.lt_irrefl _)) (Heap.get?_push_of_some _ e)
theorem tup_start (ht : s.heap.IsTuple t (PySem.intItems xs)) : ((s.heap.push { cls := .type "tuple_iterator", data := .fields #[.ref t, .int 0 0] }).IsTupleIter s.heap.objs.size t 0 ∧ (s.heap.push { cls := .type "tuple_iterator", data := .fields #[.ref t, .int 0 0] }).IsTuple t (PySem.intItems xs)) ∧
    (∀ b ∈ [s.heap.objs.size, t], b < (s.heap.push { cls := .type "tuple_iterator", data := .fields #[.ref t, .int 0 0] }).objs.size) ∧ t ≠ s.heap.objs.size := by
  have hlt : t < s.heap.objs.size := by obtain ⟨_, e, _⟩ := ht; exact Heap.lt_size e
  refine ⟨⟨⟨_, Heap.get?_push_size _ rfl, rfl, rfl⟩, let ⟨o, e, r⟩ := ht; ⟨o, Heap.get?_push_of_some _ e, r⟩⟩, fun b hb => ?_, Nat.ne_of_lt hlt⟩
  rw [Heap.size_push]
  simp only [List.mem_cons, List.not_mem_nil, or_false] at hb
  rcases hb with rfl | rfl
  · exact Nat.lt_succ_self _
  · exact Nat.lt_succ_of_lt hlt
theorem sum_tup {Q : Value → Shared → Prop} (hh : A.handled = none) (ht : s.heap.IsTuple t (PySem.intItems xs))
    (h : ∀ h' tk t', (∀ b o, s.heap.get? b = some o → h'.get? b = some o) → Q (.int (PySem.preSum (PySem.numAt xs) xs.size) t') { s with heap := h', toks := tk }) : wpAny (model prog w) A (call (.builtin "sum") [.ref t]) Q E' s := by
  obtain ⟨s1, s2, s3⟩ := tup_start ht
  refine PySem.call_sum_walkG (wpAny_pyIter_tuple ht ⟨_, _, _, _, _, _, PySem.numAt xs, rfl, Walks.tuple (A := A.in1) hh _ t s3 (PySem.intItems xs), s1, s2, (fun _ _ => PySem.intItems_at), fun h' tk t' hk => ?_⟩)
  have := h h' tk t' (tup_kept hk)
  simpa [PySem.intItems] using this
theorem max_tup {Q : Value → Shared → Prop} (hh : A.handled = none) (ht : s.heap.IsTuple t (PySem.intItems xs)) (hne : 0 < xs.size)
    (h : ∀ v h' tk, (PySem.intItems xs)[argBest (fun i j => decide (PySem.numAt xs i > PySem.numAt xs j)) (xs.size - 1)]? = some v → (∀ b o, s.heap.get? b = some o → h'.get? b = some o) → Q v { s with heap := h', toks := tk }) : wpAny (model prog w) A (call (.builtin "max") [.ref t]) Q E' s := by
  obtain ⟨s1, s2, s3⟩ := tup_start ht
  refine PySem.call_max_walk (wpAny_pyIter_tuple ht ⟨_, _, _, _, _, _, _, rfl, Walks.tuple (A := A.in1) hh _ t s3 (PySem.intItems xs), s1, s2, by simpa [PySem.intItems] using hne, PySem.CmpOf.ints_gt (PySem.numAt xs) (fun _ _ => PySem.intItems_at), fun v h' tk hP hk => ?_⟩)
  exact h v h' tk (by simpa [PySem.intItems] using hP) (tup_kept hk)
theorem min_tup {Q : Value → Shared → Prop} (hh : A.handled = none) (ht : s.heap.IsTuple t (PySem.intItems xs)) (hne : 0 < xs.size)
    (h : ∀ v h' tk, (PySem.intItems xs)[argBest (fun i j => decide (PySem.numAt xs i < PySem.numAt xs j)) (xs.size - 1)]? = some v → (∀ b o, s.heap.get? b = some o → h'.get? b = some o) → Q v { s with heap := h', toks := tk }) : wpAny (model prog w) A (call (.builtin "min") [.ref t]) Q E' s := by
  obtain ⟨s1, s2, s3⟩ := tup_start ht
  refine PySem.call_min_walk (wpAny_pyIter_tuple ht ⟨_, _, _, _, _, _, _, rfl, Walks.tuple (A := A.in1) hh _ t s3 (PySem.intItems xs), s1, s2, by simpa [PySem.intItems] using hne, PySem.CmpOf.ints_lt (PySem.numAt xs) (fun _ _ => PySem.intItems_at), fun v h' tk hP hk => ?_⟩)
  exact h v h' tk (by simpa [PySem.intItems] using hP) (tup_kept hk)
end
theorem cr_sumT (hc : X.calm = true) : CallR X (.builtin "sum") (fun vs H Q => ∃ (a : Addr) (ns : List Int), vs = [V.ref a] ∧ SqT X.K H a (ns.map V.int) ∧ Q (.int ns.sum) H) := by
  intro pins s σ H vs us Q I r h
  obtain ⟨a, ns, rfl, hs, q⟩ := h
  obtain ⟨its, rv, hl, _⟩ := I.tuple hs
  rw [Vals.ref1 r]
  have hi := rv.ints
  obtain ⟨xs, e⟩ := hi.allInts.items
  have hn : numsOf (PySem.intItems xs).toList = ns := by rw [← e]; exact hi.numsOf
  rw [PySem.nums_intItems] at hn
  have hl' : s.heap.IsTuple a its.toArray := hl
  rw [e] at hl'
  refine sum_tup (I.ok.hd hc) hl' fun h' tk t' hk => ?_
  rw [PySem.preSum_eq, List.take_of_length_le (by simp), hn]
  exact ⟨.int _, H, I.kept hk, ⟨_, rfl⟩, q⟩
theorem cr_maxT (hc : X.calm = true) : CallR X (.builtin "max") (fun vs H Q => ∃ (a : Addr) (ns : List Int), vs = [V.ref a] ∧ SqT X.K H a (ns.map V.int) ∧ 0 < ns.length ∧ ∀ m, m ∈ ns → (∀ y, y ∈ ns → y ≤ m) → Q (.int m) H) := by
  intro pins s σ H vs us Q I r h
  obtain ⟨a, ns, rfl, hs, hne, q⟩ := h
  obtain ⟨its, rv, hl, _⟩ := I.tuple hs
  rw [Vals.ref1 r]
  have hi := rv.ints
  obtain ⟨xs, e⟩ := hi.allInts.items
  have hn : numsOf (PySem.intItems xs).toList = ns := by rw [← e]; exact hi.numsOf
  rw [PySem.nums_intItems] at hn
  subst hn
  have hl' : s.heap.IsTuple a its.toArray := hl
  rw [e] at hl'
  have hsz : 0 < xs.size := by simpa using hne
  refine max_tup (I.ok.hd hc) hl' hsz fun v h' tk hv hk => ?_
  obtain ⟨t, rfl⟩ := PySem.intItems_at hv
  obtain ⟨h1, h2⟩ := PySem.argBest_gt (PySem.numAt xs) (xs.size - 1)
  refine ⟨.int _, H, I.kept hk, ⟨_, rfl⟩, q _ ?_ fun a ha => ?_⟩
  · rw [PySem.numAt_eq]; exact PySem.getD_mem (by rw [List.length_map, Array.length_toList]; omega)
  · obtain ⟨j, hj, rfl⟩ := PySem.mem_getD ha
    rw [List.length_map, Array.length_toList] at hj
    rw [← PySem.numAt_eq]
    exact h2 j (by omega)
def intsM (m : Mem) (d : D) : Option (List Int) := (viewS m d).bind intsD
def sumA (d : D) : M D := fun m => match intsM m d with
  | some ns => .ok (.int ns.sum) m
  | none => .bad
theorem sc_sumA : SC L (fun vs H Q => rSum L.K vs H Q ∨ ∃ (a : Addr) (ns : List Int), vs = [V.ref a] ∧ SqT L.K H a (ns.map V.int) ∧ Q (.int ns.sum) H) (on1 sumA) := sc1 (sc_one fun E ι m G H v d Q w r q => by
  unfold sumA at q
  cases e : intsM m d with
  | none => rw [e] at q; exact q.elim
  | some ns =>
    rw [e] at q
    unfold intsM at e
    cases e1 : viewS m d with
    | none => rw [e1] at e; cases e
    | some l =>
      rw [e1] at e
      obtain ⟨a, vs, rfl, h1, r1⟩ := view_S w r e1
      rw [ints_rep r1 e] at h1
      rcases h1 with h1 | h1
      · exact .inl ⟨a, ns, rfl, h1, (Post.at q w) _ (.int _)⟩
      · exact .inr ⟨a, ns, rfl, h1, (Post.at q w) _ (.int _)⟩)
section
variable {e : Expr} {es : List Expr} {g : Env → M (List D)} {p pos : Pos}
theorem b_sum (q : Q1 X L) (hc : X.calm = true) (hg : Gl X "sum") (hm : X.mg "sum" = none) (ha : SA X L Wx (e :: es) g) : SE X L Wx (.Call (.Name "sum" p) (e :: es) [] pos) (fun env => do let l ← g env; on1 sumA l) :=
  se_callB ((cr_sum hc).or (cr_sumT hc)) (by rw [q.hK]; exact sc_sumA) hg hm (by decide +kernel) (by decide) (by decide) ha
end
end Eng

set_option maxRecDepth 100000
set_option maxHeartbeats 4000000
namespace Eng
open PySem PySem.Spec PyProof.Rows L2
variable {L : Lk} {X : Cx} {E : XK} {Wx : WX}
/-! ### list(range(..)) -/
section
variable {a b : Expr} {fs : Env → M (List D)} {fa fb : Env → M D} {p p2 pos pos2 : Pos}
theorem rg_rep {G : Hp} {ι : List Addr} (lo hi : Int) : RepL L G ι (rgV lo hi) (rngL lo (hi - lo).toNat) := by
  unfold rgV rngL
  generalize (hi - lo).toNat = n
  induction n with
  | zero => exact .nil
  | succ n ih =>
    rw [List.range_succ, List.map_append, List.map_append]
    exact ih.append (.cons (.int _) .nil)
theorem se_lrg1 (c : Bool) (hc : X.calm = true) (hg : Gl X "list") (hm : X.mg "list" = none) (hg2 : Gl X "range") (hm2 : X.mg "range" = none) (h : SE X L Wx a fa) (na : starEach [a] X.env = (false, eval a X.env) :: starEach [] X.env)
    (nb : starEach [.Call (.Name "range" p2) [a] [] pos2] X.env = (false, eval (.Call (.Name "range" p2) [a] [] pos2) X.env) :: starEach [] X.env) :
    SE X L Wx (.Call (.Name "list" p) [.Call (.Name "range" p2) [a] [] pos2] [] pos) (fun env => do let x ← fa env; let j ← asI x; if 0 ≤ j ∧ j ≤ 1000000 then mkNew c (.lst (rngL 0 j.toNat)) else M.fail) := by
  obtain ⟨t, pa, ha⟩ := h
  refine ⟨_, pe_listRg hc hg hm (prg_1 hg2 hm2 pa na) nb, fun σ H Q env ι m G w rr q => ?_⟩
  refine ha σ H _ env ι m G w rr (Post.imp (Post.bind q) fun d m1 ι1 G1 H1 l1 w1 q1 x rx => ?_)
  obtain ⟨j, rfl, q2⟩ := post_asI (Post.bind q1) w1
  cases rx
  obtain ⟨hj, q3⟩ := post_ite q2
  refine ⟨j, rfl, RgOk.of_le (Int.le_refl _) (by omega) (by omega) hj.1, fun r hr => ?_⟩
  have z := rg_rep (L := L) (G := G1) (ι := ι1) 0 j
  rw [Int.sub_zero] at z
  exact new_ok q3 w1 trivial hr z
end
/-! ### zip of two tuples, of two lists -/
theorem walk_zipT {K : PySem.W.Frag} {a b : Addr} {xs ys : List V} {n : Nat} (hn : n = min xs.length ys.length) : Walk (RZ.ItzT K a b) n (fun H => SqT K H a xs ∧ SqT K H b ys) (YPair (fun i => xs[i]?) (fun i => ys[i]?)) := by
  subst hn
  refine ⟨fun i H hi q => ?_, fun H q => ⟨xs, ys, q.1, q.2, by omega⟩, fun i H v H' hi q y => ?_⟩
  · exact ⟨xs, ys, xs[i]'(by omega), ys[i]'(by omega), q.1, q.2, List.getElem?_eq_getElem _, List.getElem?_eq_getElem _⟩
  · obtain ⟨T, x, z, h1, h2, h3, h4, h5⟩ := y
    exact ⟨T, x, z, h1, h2, h3, h4 xs q.1, h5 ys q.2⟩
def zipL : List D → List D → List D
  | x :: xs, y :: ys => .tup [x, y] :: zipL xs ys
  | _, _ => []
theorem zipL_length : ∀ {xs ys : List D}, (zipL xs ys).length = min xs.length ys.length
  | [], _ => by simp [zipL]
  | _ :: _, [] => by simp [zipL]
  | x :: xs, y :: ys => by
    rw [zipL, List.length_cons, zipL_length, List.length_cons, List.length_cons]
    omega
theorem zipL_get : ∀ {xs ys : List D} {i : Nat} {x y : D}, xs[i]? = some x → ys[i]? = some y → (zipL xs ys)[i]? = some (.tup [x, y])
  | [], _, _, _, _, h, _ => by simp at h
  | _ :: _, [], _, _, _, _, h => by simp at h
  | x :: xs, y :: ys, 0, _, _, h1, h2 => by
    simp at h1 h2
    subst h1; subst h2
    rfl
  | x :: xs, y :: ys, i + 1, _, _, h1, h2 => by
    rw [zipL, List.getElem?_cons_succ]
    exact zipL_get (by simpa using h1) (by simpa using h2)
/-- both frozen lists, or both tuples -/
def zipD : List D → M (List D)
  | [.tup xs, .tup ys] => pure (zipL xs ys)
  | [.lst xs, .lst ys] => pure (zipL xs ys)
  | _ => M.fail
theorem zip_r {G : Hp} {ι : List Addr} {vs us : List V} {l k : List D} (r : RepL L G ι vs l) (r2 : RepL L G ι us k) : ∀ (i : Nat) (x y : V), vs[i]? = some x → us[i]? = some y → ∃ d e, (zipL l k)[i]? = some (D.tup [d, e]) ∧ Rep L G ι x d ∧ Rep L G ι y e := by
  intro i x y hx hy
  obtain ⟨d, hd, rd⟩ := r.getV hx
  obtain ⟨e, he, re⟩ := r2.getV hy
  exact ⟨d, e, zipL_get hd he, rd, re⟩
theorem si_zip {a b : Expr} {elts : List Expr} {kk : Nat} {p pos tpos : Pos} {fs : Env → M (List D)} (hK : X.K = L.K) (hg : Gl X "zip") (hm : X.mg "zip" = none) (h : SA X L Wx [a, b] fs)
    (hs : starEach [a, b] X.env = (false, eval a X.env) :: starEach [b] X.env) (hpl : (backTo pos (starEach [b] X.env)).any (·.1) = false) :
    SI X L Wx (.Tuple elts kk tpos) (.Call (.Name "zip" p) [a, b] [] pos) (fun env => do let l ← fs env; zipD l) := by
  obtain ⟨⟨t, pa, ha⟩, _⟩ := h
  refine ⟨_, RZ.pi_zipA hg hm pa hs hpl, fun σ H R env ι m G w rr q => ?_⟩
  rw [hK]
  refine ha σ H _ env ι m G w rr (Post.imp (Post.bind q) fun l m1 ι1 G1 H1 l1 w1 q1 vs rv => ?_)
  match l, vs, rv, q1 with
  | [.tup xs, .tup ys], [v, u], .cons r1 (.cons r2 .nil), q1 =>
    cases r1 with
    | tup a1 b1 =>
      cases r2 with
      | tup a2 b2 =>
        have h1 : SqT L.K G1 _ _ := .inl (Rd.of a1)
        have h2 : SqT L.K G1 _ _ := .inl (Rd.of a2)
        exact ⟨_, _, _, _, rfl, .inr ⟨w1.sqT h1, w1.sqT h2, (Post.at q1 w1) _ (pair_wk ((walk_zipT rfl).mono (fun H' z => ⟨sqT_later h1 z, sqT_later h2 z⟩) fun _ _ _ _ _ _ y => y) (by rw [zipL_length, b1.length, b2.length]) (zip_r b1 b2))⟩⟩
  | [.lst xs, .lst ys], [v, u], .cons r1 (.cons r2 .nil), q1 =>
    cases r1 with
    | lst a1 b1 =>
      cases r2 with
      | lst a2 b2 =>
        have h1 : SqL L.K G1 _ _ := .inl (Rd.of a1)
        have h2 : SqL L.K G1 _ _ := .inl (Rd.of a2)
        exact ⟨_, _, _, _, rfl, .inl ⟨w1.sqL h1, w1.sqL h2, (Post.at q1 w1) _ (pair_wk ((walk_zip rfl).mono (fun H' z => ⟨sqL_later h1 z, sqL_later h2 z⟩) fun _ _ _ _ _ _ y => y) (by rw [zipL_length, b1.length, b2.length]) (zip_r b1 b2))⟩⟩
  | [], _, _, q1 => exact q1.elim
  | [x], _, _, q1 => cases x <;> exact q1.elim
  | x :: y :: z :: r, _, _, q1 => cases x <;> cases y <;> exact q1.elim
  | [.non, y], _, _, q1 => exact q1.elim
  | [.bl _, y], _, _, q1 => exact q1.elim
  | [.int _, y], _, _, q1 => exact q1.elim
  | [.str _, y], _, _, q1 => exact q1.elim
  | [.dK _ _, y], _, _, q1 => exact q1.elim
  | [.dT _ _, y], _, _, q1 => exact q1.elim
  | [.ins _ _ _, y], _, _, q1 => exact q1.elim
  | [.ref _, y], _, _, q1 => exact q1.elim
  | [.fn _, y], _, _, q1 => exact q1.elim
  | [.scr _, y], _, _, q1 => exact q1.elim
  | [.exc _ _, y], _, _, q1 => exact q1.elim
  | [.tup _, .non], _, _, q1 => exact q1.elim
  | [.tup _, .bl _], _, _, q1 => exact q1.elim
  | [.tup _, .int _], _, _, q1 => exact q1.elim
  | [.tup _, .str _], _, _, q1 => exact q1.elim
  | [.tup _, .lst _], _, _, q1 => exact q1.elim
  | [.tup _, .dK _ _], _, _, q1 => exact q1.elim
  | [.tup _, .dT _ _], _, _, q1 => exact q1.elim
  | [.tup _, .ins _ _ _], _, _, q1 => exact q1.elim
  | [.tup _, .ref _], _, _, q1 => exact q1.elim
  | [.tup _, .fn _], _, _, q1 => exact q1.elim
  | [.tup _, .scr _], _, _, q1 => exact q1.elim
  | [.tup _, .exc _ _], _, _, q1 => exact q1.elim
  | [.lst _, .non], _, _, q1 => exact q1.elim
  | [.lst _, .bl _], _, _, q1 => exact q1.elim
  | [.lst _, .int _], _, _, q1 => exact q1.elim
  | [.lst _, .str _], _, _, q1 => exact q1.elim
  | [.lst _, .tup _], _, _, q1 => exact q1.elim
  | [.lst _, .dK _ _], _, _, q1 => exact q1.elim
  | [.lst _, .dT _ _], _, _, q1 => exact q1.elim
  | [.lst _, .ins _ _ _], _, _, q1 => exact q1.elim
  | [.lst _, .ref _], _, _, q1 => exact q1.elim
  | [.lst _, .fn _], _, _, q1 => exact q1.elim
  | [.lst _, .scr _], _, _, q1 => exact q1.elim
  | [.lst _, .exc _ _], _, _, q1 => exact q1.elim
end Eng

set_option maxRecDepth 100000
set_option maxHeartbeats 4000000
namespace Eng
open PySem PySem.Spec PyProof.Rows L2
variable {L : Lk} {X : Cx} {E : XK} {Wx : WX}
theorem LkOk.lf {n : Nat} (h : LkOk L n) (z : List Addr × Hp) : LkOk (withF L z) n := by
  obtain ⟨h1, h2, h3, h4⟩ := h
  exact ⟨h1, h2, h3, h4⟩
theorem FlOk.lf {n : Nat} {fl : Nat → List Str} (h : FlOk L n fl) (z : List Addr × Hp) : FlOk (withF L z) n fl := ⟨h.na⟩
/-! ### methods of built-in types, by a test of the type -/
def tmD (t : Mem → D → Bool) (d : D) (k : M D) : M D := fun m => if t m d = true then k m else .bad
def TyOk (L : Lk) (t : Mem → D → Bool) (T : String) : Prop := ∀ {ι : List Addr} {G H : Hp} {m : Mem} {v : V} {d : D}, W L ι m G H → Rep L G ι v d → t m d = true → L2.tyV L.K T v H
theorem se_tm {o e : Expr} {es : List Expr} {name : Str} {T id : String} {apos cpos : Pos} {r : V → List V → Hp → VK → Prop} {fo : Env → M D} {fs : Env → M (List D)} {f : D → List D → M D} {t : Mem → D → Bool} (hK : X.K = L.K) (pl : PlainAttrs T) (slot : Slot T name id) (hty : typeOf (.builtin id) = pure (.type "method_descriptor")) (hm : MtR X id r) (hf : SM L r f) (ht : TyOk L t T)
    (ho : SE X L Wx o fo) (ha : SA X L Wx (e :: es) fs) (hbase : attributeBase o name X.env (eval o X.env) = eval o X.env)
    (hfew : ((backTo cpos (starEach (e :: es) X.env)).all (fun x => !x.1) && (backToKw cpos (keywordEach [] X.env)).all (fun x => x.1.isSome) && decide ((e :: es).length + ([] : List Keyword).length + (if ([] : List Keyword).isEmpty then 0 else 1) < 30)) = true) (hline : (apos.endLine == cpos.line) = true) :
    SE X L Wx (.Call (.Attribute o name apos) (e :: es) [] cpos) (fun env => do let d ← fo env; tmD t d (do let l ← fs env; f d l)) := by
  obtain ⟨⟨tA, pa, hr⟩, _, hs, hp⟩ := ha
  have h1 := hs e es rfl
  have h2 : (backTo cpos (starEach es X.env)).any (·.1) = false := by
    have := hp cpos
    rw [h1] at this
    exact (Bool.or_eq_false_iff.mp this).2
  refine ⟨_, pe_bm pl slot hty hm ho.pe pa hbase hfew hline h1 h2, fun σ H Q env ι m G w rr q => ?_⟩
  refine ⟨env, ι, m, G, w, rr, Post.imp (Post.bind q) fun d m1 ι1 G1 H1 l1 w1 q1 x rx => ?_⟩
  unfold tmD at q1
  by_cases hl : t m1 d = true
  case neg => rw [if_neg hl] at q1; exact q1.elim
  rw [if_pos hl] at q1
  refine ⟨by rw [hK]; exact ht w1 rx hl, ?_⟩
  exact hr σ H1 _ env ι1 m1 G1 w1 (rr.le l1) (Post.imp (Post.bind q1) fun l m2 ι2 G2 H2 l2 w2 q2 vs rv => hf _ ι2 m2 G2 H2 x vs d l Q w2 (rx.le l2) rv q2)
theorem se_tm0 {o : Expr} {name : Str} {T id : String} {apos cpos : Pos} {r : V → List V → Hp → VK → Prop} {fo : Env → M D} {f : D → List D → M D} {t : Mem → D → Bool} (hK : X.K = L.K) (pl : PlainAttrs T) (slot : Slot T name id) (hty : typeOf (.builtin id) = pure (.type "method_descriptor")) (hm : MtR X id r) (hf : SM L r f) (ht : TyOk L t T)
    (ho : SE X L Wx o fo) (hbase : attributeBase o name X.env (eval o X.env) = eval o X.env) (hline : (apos.endLine == cpos.line) = true) :
    SE X L Wx (.Call (.Attribute o name apos) [] [] cpos) (fun env => do let d ← fo env; tmD t d (f d [])) := by
  refine ⟨_, pe_bm0 pl slot hty hm ho.pe hbase hline, fun σ H Q env ι m G w rr q => ?_⟩
  refine ⟨env, ι, m, G, w, rr, Post.imp (Post.bind q) fun d m1 ι1 G1 H1 l1 w1 q1 x rx => ?_⟩
  unfold tmD at q1
  by_cases hl : t m1 d = true
  case neg => rw [if_neg hl] at q1; exact q1.elim
  rw [if_pos hl] at q1
  exact ⟨by rw [hK]; exact ht w1 rx hl, hf _ ι1 m1 G1 H1 x [] d [] Q w1 rx .nil q1⟩
theorem ty_list : TyOk L isL "list" := fun w r h => isL_ok w r h
def isStr (_ : Mem) (d : D) : Bool := match d with
  | .str _ => true
  | _ => false
theorem ty_str : TyOk L isStr "str" := fun {ι G H m v d} w r h => by
  cases r <;> first | rfl | cases h
theorem MtR.or {id : String} {r r' : V → List V → Hp → VK → Prop} (h : MtR X id r) (h' : MtR X id r') : MtR X id (fun x xs H Q => r x xs H Q ∨ r' x xs H Q) :=
  fun pins s σ H x xs v us Q I rx rxs q => q.elim (h pins s σ H x xs v us Q I rx rxs) (h' pins s σ H x xs v us Q I rx rxs)
/-! lists -/
def popD (d : D) (l : List D) : M D := fun m => match cellL m d, l with
  | some (k, xs), [] => match xs[xs.length - 1]? with
    | some y => .ok y (m.set k (.lst xs.dropLast))
    | none => .bad
  | some (k, xs), [.int i] => match ixN xs.length i with
    | some j => match xs[j]? with
      | some y => if -(2 ^ 63) ≤ i ∧ i < 2 ^ 63 then .ok y (m.set k (.lst (xs.eraseIdx j))) else .bad
      | none => .bad
    | none => .bad
  | _, _ => .bad
theorem RepL.dropLast {G : Hp} {ι : List Addr} {vs : List V} {ds : List D} (h : RepL L G ι vs ds) : RepL L G ι vs.dropLast ds.dropLast := by
  rw [List.dropLast_eq_take, List.dropLast_eq_take, h.length]
  exact h.take _
theorem sm_pop0 : SM L rPop (fun d l => match l with | [] => popD d [] | _ => M.fail) := by
  intro E ι m G H o vs d a Q w r rl q
  cases rl with
  | cons _ _ => exact q.elim
  | nil =>
    unfold popD at q
    dsimp only at q
    cases hc : cellL m d with
    | none => rw [hc] at q; exact q.elim
    | some kx =>
      obtain ⟨k, xs⟩ := kx
      rw [hc] at q
      dsimp only at q
      obtain ⟨p, us, rfl, rfl, hk, hm, h1, r1⟩ := cell_list w r hc
      cases hy : xs[xs.length - 1]? with
      | none => rw [hy] at q; exact q.elim
      | some y =>
        rw [hy] at q
        obtain ⟨v, e1, rv⟩ := r1.get hy
        rw [← r1.length] at e1
        exact ⟨p, us, v, rfl, rfl, h1, e1, set_ok q w hk hm trivial r1.dropLast rv⟩
theorem sm_popAt : SM L rPopAt (fun d l => match l with | [i] => popD d [i] | _ => M.fail) := by
  intro E ι m G H o vs d a Q w r rl q
  match vs, a, rl, q with
  | [u], [i], .cons ri .nil, q =>
    unfold popD at q
    dsimp only at q
    cases hc : cellL m d with
    | none => rw [hc] at q; exact q.elim
    | some kx =>
      obtain ⟨k, xs⟩ := kx
      rw [hc] at q
      obtain ⟨p, us, rfl, rfl, hk, hm, h1, r1⟩ := cell_list w r hc
      cases ri with
      | int i =>
        dsimp only at q
        cases hj : ixN xs.length i with
        | none => rw [hj] at q; exact q.elim
        | some j =>
          rw [hj] at q
          dsimp only at q
          cases hy : xs[j]? with
          | none => rw [hy] at q; exact q.elim
          | some y =>
            rw [hy] at q
            dsimp only at q
            by_cases hb : -(2 ^ 63) ≤ i ∧ i < 2 ^ 63
            case neg => rw [if_neg hb] at q; exact q.elim
            rw [if_pos hb] at q
            obtain ⟨v, e1, rv⟩ := r1.get hy
            exact ⟨p, us, i, j, v, rfl, rfl, h1, hb.1, hb.2, by rw [r1.length]; exact (ixN_seq hj).1, e1, set_ok q w hk hm trivial (r1.eraseIdx j) rv⟩
      | _ => exact q.elim
  | [], [], .nil, q => exact q.elim
  | _ :: _ :: _, _ :: _ :: _, .cons _ (.cons _ _), q => exact q.elim
def extD (d : D) (l : List D) : M D := fun m => match cellL m d, l with
  | some (k, xs), [x] => match viewL m x with
    | some ys => if xs.length + ys.length ≤ 1000000 then .ok .non (m.set k (.lst (xs ++ ys))) else .bad
    | none => .bad
  | _, _ => .bad
theorem sm_ext : SM L rExtend extD := by
  intro E ι m G H o vs d a Q w r rl q
  unfold extD at q
  split at q
  · rename_i k xs x e
    obtain ⟨p, us, rfl, rfl, hk, hm, h1, r1⟩ := cell_list w r e
    cases rl with
    | cons r2 rn =>
      cases rn
      cases ey : viewL m x with
      | none => rw [ey] at q; exact q.elim
      | some ys =>
        rw [ey] at q
        dsimp only at q
        by_cases hz : xs.length + ys.length ≤ 1000000
        case neg => rw [if_neg hz] at q; exact q.elim
        rw [if_pos hz] at q
        obtain ⟨p2, us2, rfl, h2, r2'⟩ := view_list w r2 ey
        exact ⟨p, p2, us, us2, rfl, rfl, h1, h2, by rw [r1.length, r2'.length]; exact Nat.le_trans hz (by decide), set_ok q w hk hm trivial (r1.append r2') .non⟩
  · exact q.elim
def insD (d : D) (l : List D) : M D := fun m => match cellL m d, l with
  | some (k, xs), [.int i, y] => if xs.length < 1000000 ∧ 0 ≤ i ∧ i < 2 ^ 63 then .ok .non (m.set k (.lst (xs.take i.toNat ++ [y] ++ xs.drop i.toNat))) else .bad
  | _, _ => .bad
theorem sm_ins : SM L (fun x vs H Q => ∃ (l : Addr) (xs : List V) (i : Int) (y : V), x = .ref l ∧ vs = [.int i, y] ∧ H l = some (.lst xs) ∧ xs.length < sizeLine ∧ 0 ≤ i ∧ i < 2 ^ 63 ∧
    Q .non (upd H l (.lst (xs.take i.toNat ++ [y] ++ xs.drop i.toNat)))) insD := by
  intro E ι m G H o vs d a Q w r rl q
  unfold insD at q
  split at q
  · rename_i k xs i y e
    obtain ⟨p, us, rfl, rfl, hk, hm, h1, r1⟩ := cell_list w r e
    cases rl with
    | cons ri rn =>
      cases rn with
      | cons ry rn =>
        cases rn
        cases ri
        by_cases hz : xs.length < 1000000 ∧ 0 ≤ i ∧ i < 2 ^ 63
        case neg => rw [if_neg hz] at q; exact q.elim
        rw [if_pos hz] at q
        exact ⟨p, us, i, _, rfl, rfl, h1, by rw [r1.length]; exact big_ok hz.1, hz.2.1, hz.2.2, set_ok q w hk hm trivial (((r1.take _).append (.cons ry .nil)).append (r1.drop _)) .non⟩
  · exact q.elim
/-! texts -/
def strsL : List D → Option (List Str)
  | [] => some []
  | .str x :: r => (strsL r).map (x :: ·)
  | _ => none
theorem strs_rep {G : Hp} {ι : List Addr} : ∀ {ds : List D} {vs : List V} {ys : List Str}, RepL L G ι vs ds → strsL ds = some ys → vs = ys.map V.str
  | [], _, _, .nil, e => by cases e; rfl
  | d :: ds, _, _, .cons r t, e => by
    cases d with
    | str x =>
      cases r
      unfold strsL at e
      cases q : strsL ds with
      | none => rw [q] at e; cases e
      | some zs =>
        rw [q] at e; cases e
        rw [strs_rep t q]
        rfl
    | _ => cases e
def joinD (d : D) (l : List D) : M D := fun m => match d, l with
  | .str a, [x] => match (viewS m x).bind strsL with
    | some ys => if (ys.map (·.length)).sum + ys.length * a.length ≤ 16777216 then .ok (.str (Txt.join a ys)) m else .bad
    | none => .bad
  | _, _ => .bad
theorem sm_join : SM L (fun x xs H Q => ∃ a p, ∃ ys : List Str, x = .str a ∧ xs = [.ref p] ∧ (SqL L.K H p (ys.map V.str) ∨ SqT L.K H p (ys.map V.str)) ∧
    (ys.map (·.length)).sum + ys.length * a.length ≤ 16777216 ∧ Q (.str (Txt.join a ys)) H) joinD := by
  intro E ι m G H o vs d al Q w r rl q
  unfold joinD at q
  split at q
  · rename_i a x
    cases r
    cases rl with
    | cons rx rn =>
      cases rn
      cases e1 : viewS m x with
      | none => rw [e1] at q; exact q.elim
      | some zs =>
        rw [e1] at q
        simp only [Option.bind_some] at q
        cases e2 : strsL zs with
        | none => rw [e2] at q; exact q.elim
        | some ys =>
          rw [e2] at q
          dsimp only at q
          by_cases hz : (ys.map (·.length)).sum + ys.length * a.length ≤ 16777216
          case neg => rw [if_neg hz] at q; exact q.elim
          rw [if_pos hz] at q
          obtain ⟨p, us, rfl, h1, r1⟩ := view_S w rx e1
          rw [strs_rep r1 e2] at h1
          exact ⟨a, p, ys, rfl, rfl, h1, hz, (Post.at q w) _ (.str _)⟩
  · exact q.elim
theorem rep_strs {G : Hp} {ι : List Addr} : ∀ ys : List Str, RepL L G ι (ys.map V.str) (ys.map D.str)
  | [] => .nil
  | y :: ys => .cons (.str y) (rep_strs ys)
def splitD (c : Bool) (d : D) (l : List D) : M D := fun m => match d, l with
  | .str a, [.str b] => if (b.length == 0) = false ∧ a.length + 2 ≤ sizeLine then mkNew c (.lst ((Txt.split a b).map D.str)) m else .bad
  | _, _ => .bad
theorem sm_split {c : Bool} : SM L (fun x xs H Q => ∃ a b, x = .str a ∧ xs = [.str b] ∧ (b.length == 0) = false ∧ a.length + 2 ≤ sizeLine ∧ rNewStrs (Txt.split a b) H Q) (splitD c) := by
  intro E ι m G H o vs d al Q w r rl q
  unfold splitD at q
  split at q
  · rename_i a b
    cases r
    cases rl with
    | cons rx rn =>
      cases rn
      cases rx
      by_cases hz : (b.length == 0) = false ∧ a.length + 2 ≤ sizeLine
      case neg => rw [if_neg hz] at q; exact q.elim
      rw [if_pos hz] at q
      exact ⟨a, b, rfl, rfl, hz.1, hz.2, fun p hp => new_ok q w trivial hp (rep_strs _)⟩
  · exact q.elim
section
variable {o e : Expr} {es : List Expr} {fo : Env → M D} {g : Env → M (List D)} {apos pos : Pos}
abbrev Few (X : Cx) (e : Expr) (es : List Expr) (pos : Pos) : Prop := ((backTo pos (starEach (e :: es) X.env)).all (fun x => !x.1) && (backToKw pos (keywordEach [] X.env)).all (fun x => x.1.isSome) && decide ((e :: es).length + ([] : List Keyword).length + (if ([] : List Keyword).isEmpty then 0 else 1) < 30)) = true
theorem m_ext (q : Q1 X L) (ho : SE X L Wx o fo) (ha : SA X L Wx (e :: es) g) (hbase : attributeBase o "extend" X.env (eval o X.env) = eval o X.env) (hfew : Few X e es pos) (hline : (apos.endLine == pos.line) = true) :
    SE X L Wx (.Call (.Attribute o "extend" apos) (e :: es) [] pos) (fun env => do let d ← fo env; tmD isL d (do let l ← g env; extD d l)) := se_tm q.hK PySem.F.plainAttrs_list PySem.F.slot_list_extend PySem.F.type_list_extend mt_extend sm_ext ty_list ho ha hbase hfew hline
theorem m_ins (q : Q1 X L) (ho : SE X L Wx o fo) (ha : SA X L Wx (e :: es) g) (hbase : attributeBase o "insert" X.env (eval o X.env) = eval o X.env) (hfew : Few X e es pos) (hline : (apos.endLine == pos.line) = true) :
    SE X L Wx (.Call (.Attribute o "insert" apos) (e :: es) [] pos) (fun env => do let d ← fo env; tmD isL d (do let l ← g env; insD d l)) := se_tm q.hK PySem.F.plainAttrs_list PySem.F.slot_list_insert PySem.F.type_list_insert mt_insert sm_ins ty_list ho ha hbase hfew hline
def pop1 (d : D) (l : List D) : M D := match l with | [i] => popD d [i] | _ => M.fail
def pop0 (d : D) (l : List D) : M D := match l with | [] => popD d [] | _ => M.fail
theorem m_popAt (q : Q1 X L) (ho : SE X L Wx o fo) (ha : SA X L Wx (e :: es) g) (hbase : attributeBase o "pop" X.env (eval o X.env) = eval o X.env) (hfew : Few X e es pos) (hline : (apos.endLine == pos.line) = true) :
    SE X L Wx (.Call (.Attribute o "pop" apos) (e :: es) [] pos) (fun env => do let d ← fo env; tmD isL d (do let l ← g env; pop1 d l)) := se_tm q.hK PySem.F.plainAttrs_list PySem.F.slot_list_pop PySem.F.type_list_pop mt_popAt sm_popAt ty_list ho ha hbase hfew hline
theorem m_pop0 (q : Q1 X L) (ho : SE X L Wx o fo) (hbase : attributeBase o "pop" X.env (eval o X.env) = eval o X.env) (hline : (apos.endLine == pos.line) = true) :
    SE X L Wx (.Call (.Attribute o "pop" apos) [] [] pos) (fun env => do let d ← fo env; tmD isL d (pop0 d [])) := se_tm0 q.hK PySem.F.plainAttrs_list PySem.F.slot_list_pop PySem.F.type_list_pop mt_pop sm_pop0 ty_list ho hbase hline
theorem m_join (q : Q1 X L) (ho : SE X L Wx o fo) (ha : SA X L Wx (e :: es) g) (hbase : attributeBase o "join" X.env (eval o X.env) = eval o X.env) (hfew : Few X e es pos) (hline : (apos.endLine == pos.line) = true) :
    SE X L Wx (.Call (.Attribute o "join" apos) (e :: es) [] pos) (fun env => do let d ← fo env; tmD isStr d (do let l ← g env; joinD d l)) := se_tm q.hK PySem.F.plainAttrs_str PySem.F.slot_str_join PySem.F.type_str_join mt_join (by rw [q.hK]; exact sm_join) ty_str ho ha hbase hfew hline
theorem m_split (c : Bool) (q : Q1 X L) (ho : SE X L Wx o fo) (ha : SA X L Wx (e :: es) g) (hbase : attributeBase o "split" X.env (eval o X.env) = eval o X.env) (hfew : Few X e es pos) (hline : (apos.endLine == pos.line) = true) :
    SE X L Wx (.Call (.Attribute o "split" apos) (e :: es) [] pos) (fun env => do let d ← fo env; tmD isStr d (do let l ← g env; splitD c d l)) := se_tm q.hK PySem.F.plainAttrs_str PySem.F.slot_str_split PySem.F.type_str_split mt_split sm_split ty_str ho ha hbase hfew hline
end
end Eng

set_option maxRecDepth 100000
set_option maxHeartbeats 4000000
namespace Eng
open PySem PySem.Spec PyProof.Rows L2
variable {L : Lk} {X : Cx} {E : XK} {Wx : WX}
/-! ### list(s) of a text; a text that is a constant of the module -/
theorem cr_listS (hc : X.calm = true) : CallR X (.type "list") (fun xs H Q => ∃ z : Str, xs = [V.str z] ∧ z.cps.size ≤ 1000000 ∧ ∀ l, H l = none → Q (.ref l) (upd H l (.lst (z.cps.toList.map fun c => V.str ⟨#[c]⟩)))) := by
  intro pins s σ H xs us Q I r h
  obtain ⟨z, rfl, hz, q⟩ := h
  obtain ⟨u, rfl, t, rfl⟩ := vals1 r
  have hzl : z.cps.size ≤ sizeLine := Nat.le_trans hz (by decide)
  refine call_list_str (I.ok.hd hc) z t (fun h' tk acc c' hk e hi => ?_) hzl
  have hv : Vals (z.cps.toList.map fun c => V.str ⟨#[c]⟩) acc.toList := by
    refine vals_of_idx _ _ (by simp [hi.1]) fun j v hj => ?_
    obtain ⟨c, u, h1, h2⟩ := hi.2 j v (by rw [← hj, Array.getElem?_toList])
    refine ⟨.str ⟨#[c]⟩, ?_, ?_⟩
    · rw [List.getElem?_map, Array.getElem?_toList, h1]; rfl
    · exact ⟨u, h2⟩
  refine ⟨.ref s.heap.objs.size, _, I.laid hk (Nat.le_refl _) (show ObjOk X.prog X.w _ h' _ (.lst (z.cps.toList.map fun c => V.str ⟨#[c]⟩)) from ⟨by rw [List.length_map, Array.length_toList]; exact hzl, acc.toList, c', hv, ?_⟩), rfl, q _ (I.hok.fresh (Nat.le_refl _))⟩
  rw [Array.toArray_toList]; exact e
def lsgD (c : Bool) : D → M D
  | .str z => if z.cps.size ≤ 1000000 then mkNew c (.lst (signs z)) else M.fail
  | _ => M.fail
theorem rep_signs {G : Hp} {ι : List Addr} (z : Str) : RepL L G ι (z.cps.toList.map fun c => V.str ⟨#[c]⟩) (signs z) := by
  unfold signs
  induction z.cps.toList with
  | nil => exact .nil
  | cons c l ih => exact .cons (.str _) ih
theorem sc_lsg {c : Bool} : SC L (fun xs H Q => ∃ z : Str, xs = [V.str z] ∧ z.cps.size ≤ 1000000 ∧ ∀ l, H l = none → Q (.ref l) (upd H l (.lst (z.cps.toList.map fun c => V.str ⟨#[c]⟩)))) (fun l => match l with | [d] => lsgD c d | _ => M.fail) := sc_one fun E ι m G H v d Q w r q => by
  cases r with
  | str z =>
    obtain ⟨hz, q⟩ := post_ite q
    exact ⟨z, rfl, hz, fun l hl => new_ok q w trivial hl (rep_signs z)⟩
  | _ => exact False.elim q
section
variable {e : Expr} {es : List Expr} {g : Env → M (List D)} {p pos : Pos}
theorem b_lsg (c : Bool) (q : Q1 X L) (hcal : X.calm = true) (hg : Gl X "list") (hm : X.mg "list" = none) (ha : SA X L Wx (e :: es) g) : SE X L Wx (.Call (.Name "list" p) (e :: es) [] pos) (fun env => do let l ← g env; on1 (lsgD c) l) := se_callT (cr_listS hcal) (sc1 sc_lsg) hg hm (by decide +kernel) (by decide) (by decide) ha
end
theorem GoodB.conS {K : PySem.W.Frag} {mg : Str → Option Value} {N : List Str} {sc : Scope} {fn : Str → Bool} (g : GoodB K mg N sc fn X) {x z : Str} {t : Tok} {pos : Pos} (h : mg x = some (.str z t)) (hgl : glB sc x = true) : SE X L Wx (.Name x pos) (fun _ => pure (.str z)) :=
  se_c (pe_glob (v := .str z) (g.gl hgl) (g.m h) ⟨t, rfl⟩ (glB_db hgl)) fun _ _ => .str z
end Eng

set_option maxRecDepth 100000
set_option maxHeartbeats 4000000
namespace Eng
open PySem PySem.Spec PyProof.Rows L2
/-! ### how the readings are worked out: each step's result, by rewriting -/
def R.bd {α β : Type} (r : R α) (f : α → M β) : R β := match r with
  | .ok a m => f a m
  | .exn e m => .exn e m
  | .bad => .bad
def R.ex {α : Type} (env : Env) (r : R α) (k : α → M Out) : R Out := match r with
  | .ok a m => k a m
  | .exn e m => .ok (.exn e env) m
  | .bad => .bad
def R.nox {α : Type} (r : R α) : R α := match r with
  | .ok a m => .ok a m
  | _ => .bad
def R.sq (r : R Out) (g : Env → M Out) : R Out := match r with
  | .ok (.nx e) m => g e m
  | r => r
def R.cl (r : R Out) : R D := match r with
  | .ok (.ret d) m => .ok d m
  | .ok (.nx _) m => .ok .non m
  | .ok (.exn x _) m => .exn x m
  | _ => .bad
def R.lp (r : R Out) (g : Env → M Out) : R Out := match r with
  | .ok (.nx e) m => g e m
  | .ok (.cnt e) m => g e m
  | .ok (.brk e) m => .ok (.nx e) m
  | r => r
section
variable {α β : Type} {m : Mem} {env : Env}
@[simp] theorem ev_bind (x : M α) (f : α → M β) : (x >>= f) m = (x m).bd f := Eq.trans rfl rfl
@[simp] theorem ev_pure (a : α) : (pure a : M α) m = .ok a m := Eq.trans rfl rfl
@[simp] theorem ev_fail : (M.fail : M α) m = .bad := Eq.trans rfl rfl
@[simp] theorem ev_ite (c : Prop) [Decidable c] (x y : M α) : (if c then x else y) m = if c then x m else y m := by split <;> rfl
@[simp] theorem bd_ok (a : α) (f : α → M β) : (R.ok a m).bd f = f a m := Eq.trans rfl rfl
@[simp] theorem bd_exn (e : Exn) (f : α → M β) : (R.exn e m : R α).bd f = .exn e m := Eq.trans rfl rfl
@[simp] theorem bd_bad (f : α → M β) : (R.bad : R α).bd f = .bad := Eq.trans rfl rfl
@[simp] theorem ev_exB (x : M α) (k : α → M Out) : exB env x k m = (x m).ex env k := Eq.trans rfl rfl
@[simp] theorem ex_ok (a : α) (k : α → M Out) : (R.ok a m).ex env k = k a m := Eq.trans rfl rfl
@[simp] theorem ex_exn (e : Exn) (k : α → M Out) : (R.exn e m : R α).ex env k = .ok (.exn e env) m := Eq.trans rfl rfl
@[simp] theorem ex_bad (k : α → M Out) : (R.bad : R α).ex env k = .bad := Eq.trans rfl rfl
@[simp] theorem ev_noX (x : M α) : noX x m = (x m).nox := by unfold noX R.nox; cases x m <;> rfl
@[simp] theorem nox_ok (a : α) : (R.ok a m).nox = .ok a m := Eq.trans rfl rfl
@[simp] theorem ev_seqS (f g : Env → M Out) : seqS f g env m = (f env m).sq g := by
  unfold seqS R.sq
  show (f env m).bd _ = _
  cases f env m with
  | ok o m' => cases o <;> rfl
  | exn e m' => rfl
  | bad => rfl
@[simp] theorem sq_nx (e : Env) (g : Env → M Out) : (R.ok (.nx e) m).sq g = g e m := Eq.trans rfl rfl
@[simp] theorem sq_ret (d : D) (g : Env → M Out) : (R.ok (.ret d) m).sq g = .ok (.ret d) m := Eq.trans rfl rfl
@[simp] theorem sq_brk (e : Env) (g : Env → M Out) : (R.ok (.brk e) m).sq g = .ok (.brk e) m := Eq.trans rfl rfl
@[simp] theorem sq_cnt (e : Env) (g : Env → M Out) : (R.ok (.cnt e) m).sq g = .ok (.cnt e) m := Eq.trans rfl rfl
@[simp] theorem sq_exn (x : Exn) (e : Env) (g : Env → M Out) : (R.ok (.exn x e) m).sq g = .ok (.exn x e) m := Eq.trans rfl rfl
@[simp] theorem ev_callB (n : Nat) (b : Env → M Out) (ds : List D) : callB n b ds m = (b (startE n ds) m).cl := Eq.trans rfl rfl
@[simp] theorem cl_ret (d : D) : (R.ok (.ret d) m).cl = .ok d m := Eq.trans rfl rfl
@[simp] theorem cl_nx (e : Env) : (R.ok (.nx e) m).cl = .ok .non m := Eq.trans rfl rfl
@[simp] theorem cl_exn (x : Exn) (e : Env) : (R.ok (.exn x e) m).cl = .exn x m := Eq.trans rfl rfl
@[simp] theorem ev_for0 (g : D → Env → M Env) (b : Env → M Out) : forD [] g b env m = .ok (.nx env) m := Eq.trans rfl rfl
def forK (b k : Env → M Out) : Env → M Out := fun e1 m1 => (b e1 m1).lp k
@[simp] theorem ev_forK (b k : Env → M Out) : forK b k env m = (b env m).lp k := Eq.trans rfl rfl
@[simp] theorem ev_forS (d : D) (ds : List D) (g : D → Env → M Env) (b : Env → M Out) : forD (d :: ds) g b env m = ((g d env m).nox).bd (forK b (forD ds g b)) := by
  conv => lhs; unfold forD
  show (noX (g d env) m).bd _ = _
  rw [ev_noX]
  congr 1
  funext e1 m1
  show (b e1 m1).bd _ = (b e1 m1).lp _
  unfold R.lp
  cases b e1 m1 with
  | ok o m' => cases o <;> rfl
  | exn e m' => rfl
  | bad => rfl
@[simp] theorem lp_nx (e : Env) (g : Env → M Out) : (R.ok (.nx e) m).lp g = g e m := Eq.trans rfl rfl
@[simp] theorem lp_cnt (e : Env) (g : Env → M Out) : (R.ok (.cnt e) m).lp g = g e m := Eq.trans rfl rfl
@[simp] theorem lp_brk (e : Env) (g : Env → M Out) : (R.ok (.brk e) m).lp g = .ok (.nx e) m := Eq.trans rfl rfl
@[simp] theorem lp_ret (d : D) (g : Env → M Out) : (R.ok (.ret d) m).lp g = .ok (.ret d) m := Eq.trans rfl rfl
@[simp] theorem lp_exn (x : Exn) (e : Env) (g : Env → M Out) : (R.ok (.exn x e) m).lp g = .ok (.exn x e) m := Eq.trans rfl rfl
theorem ev_getE (i : Nat) (d : D) (h : env[i]? = some (some d)) : getE env i m = .ok d m := by unfold getE; rw [h]; rfl
@[simp] theorem ev_get0 (d : D) (e : Env) : getE (some d :: e) 0 m = .ok d m := Eq.trans rfl rfl
@[simp] theorem ev_getS (x : Option D) (e : Env) (i : Nat) : getE (x :: e) (i + 1) m = getE e i m := Eq.trans rfl rfl
@[simp] theorem ev_asB (b : Bool) : asB (.bl b) m = .ok b m := Eq.trans rfl rfl
@[simp] theorem ev_asI (i : Int) : asI (.int i) m = .ok i m := Eq.trans rfl rfl
end
@[simp] theorem ev_get1 {m : Mem} (a : Option D) (d : D) (e : Env) : getE (a :: some d :: e) 1 m = .ok d m := Eq.trans rfl rfl
/-! ### the frozen data -/
/-- a thing that repr can show: frozen, without instances -/
def Shw (d : D) : Prop := (py1 d).isSome = true
def isTupD : D → Bool
  | .tup _ => true
  | _ => false
def isIntD : D → Bool
  | .int _ => true
  | _ => false
theorem ty_shw {m : Mem} {d : D} (h : Shw d) : ∃ t ∈ bnames, tyOf m d = some (.bi t) := by
  cases d <;> first | (exfalso; simp [Shw, py1] at h; done) | exact ⟨_, by unfold bnames; decide, rfl⟩
theorem isi_tup {m : Mem} {n : Nat} {d : D} (h : Shw d) : isiD n [.bi "tuple"] d m = .ok (.bl (isTupD d)) m := by
  cases d <;> first | (exfalso; simp [Shw, py1] at h; done) | simp [isiD, tyOf, isTys, isTy, tyB, bnames, isTupD]
theorem py1L_is : ∀ l : List D, (py1L l).isSome = l.all fun d => (py1 d).isSome
  | [] => rfl
  | d :: l => by rw [py1L, List.all_cons, ← py1L_is l]; cases py1 d <;> cases py1L l <;> rfl
/-- the first place at which t holds -/
def scanL (t : List D → D → Bool) : List D → List D → Option Nat
  | _, [] => none
  | pre, d :: r => if t pre d = true then some pre.length else scanL t (pre ++ [d]) r
theorem for_scan {g : D → Env → M Env} {b : Env → M Out} {m : Mem} (I : List D → Env → Prop) (t : List D → D → Bool) (l : List D)
    (s1 : ∀ pre d rest env, l = pre ++ d :: rest → I pre env → t pre d = true → ((g (.tup [.int ((pre.length : Nat) : Int), d]) env m).nox.bd b) = .ok (.ret (.int (pre.length : Nat))) m)
    (s2 : ∀ pre d rest env, l = pre ++ d :: rest → I pre env → t pre d = false → ∃ e', ((g (.tup [.int ((pre.length : Nat) : Int), d]) env m).nox.bd b) = .ok (.nx e') m ∧ I (pre ++ [d]) e') :
    ∀ rest pre env, l = pre ++ rest → I pre env → (∃ i, scanL t pre rest = some i ∧ forD (enumL pre.length rest) g b env m = .ok (.ret (.int (i : Nat))) m) ∨ (scanL t pre rest = none ∧ ∃ e', forD (enumL pre.length rest) g b env m = .ok (.nx e') m ∧ I l e')
  | [], pre, env, e, i => .inr ⟨rfl, env, rfl, by rw [e, List.append_nil]; exact i⟩
  | d :: rest, pre, env, e, i => by
    have lp : ∀ r : R Env, (r.bd (forK b (forD (enumL (pre.length + 1) rest) g b))) = (r.bd b).lp (forD (enumL (pre.length + 1) rest) g b) := fun r => by cases r <;> rfl
    unfold enumL scanL
    rw [ev_forS, lp]
    cases ht : t pre d with
    | true =>
      rw [s1 pre d rest env e i ht, if_pos rfl]
      exact .inl ⟨_, rfl, rfl⟩
    | false =>
      obtain ⟨e', h1, h2⟩ := s2 pre d rest env e i ht
      rw [h1, if_neg (by simp), lp_nx]
      have z := for_scan I t l s1 s2 rest (pre ++ [d]) e' (by rw [e]; simp) h2
      rw [List.length_append] at z
      exact z
theorem for_scan_cl {g : D → Env → M Env} {b k : Env → M Out} {env : Env} {m : Mem} {X : R D} (I : List D → Env → Prop) (t : List D → D → Bool) {l : List D} (hI : I [] env)
    (s : ∀ pre d rest env, l = pre ++ d :: rest → I pre env → ∃ e', ((g (.tup [.int ((pre.length : Nat) : Int), d]) env m).nox.bd b) = (if t pre d = true then .ok (.ret (.int (pre.length : Nat))) m else .ok (.nx e') m) ∧ (t pre d = false → I (pre ++ [d]) e'))
    (e1 : ∀ i, scanL t [] l = some i → R.ok (.int (i : Nat)) m = X) (e2 : scanL t [] l = none → ∀ e', I l e' → (k e' m).cl = X) : ((forD (enumL 0 l) g b env m).sq k).cl = X := by
  rcases for_scan I t l (fun pre d rest env e hi ht => by obtain ⟨e', h1, h2⟩ := s pre d rest env e hi; rw [h1, if_pos ht]) (fun pre d rest env e hi ht => by obtain ⟨e', h1, h2⟩ := s pre d rest env e hi; exact ⟨e', by rw [h1, if_neg (by simp [ht])], h2 ht⟩) l [] env rfl hI with ⟨i, h1, h2⟩ | ⟨h1, e', h2, h3⟩
  · exact (congrArg (fun r => R.cl (R.sq r k)) h2).trans (e1 i h1)
  · exact (congrArg (fun r => R.cl (R.sq r k)) h2).trans (e2 h1 e' h3)
section
variable {m : Mem}
@[simp] theorem p_le (i j : Int) : dLe (.int i) (.int j) m = .ok (.bl (decide (i ≤ j))) m := Eq.trans rfl rfl
@[simp] theorem p_lt (i j : Int) : dLt (.int i) (.int j) m = .ok (.bl (decide (i < j))) m := Eq.trans rfl rfl
@[simp] theorem p_gt (i j : Int) : dGt (.int i) (.int j) m = .ok (.bl (decide (j < i))) m := Eq.trans rfl rfl
@[simp] theorem p_ge (i j : Int) : dGe (.int i) (.int j) m = .ok (.bl (decide (j ≤ i))) m := Eq.trans rfl rfl
@[simp] theorem p_sub (i j : Int) : dSub (.int i) (.int j) m = .ok (.int (i - j)) m := Eq.trans rfl rfl
@[simp] theorem p_add (c : Bool) (i j : Int) : dAdd c (.int i) (.int j) m = .ok (.int (i + j)) m := Eq.trans rfl rfl
@[simp] theorem p_neg (i : Int) : dNeg (.int i) m = .ok (.int (-i)) m := Eq.trans rfl rfl
@[simp] theorem p_not (b : Bool) : dNot (.bl b) m = .ok (.bl (!b)) m := Eq.trans rfl rfl
@[simp] theorem p_revT (c : Bool) (l : List D) : dRev c (.tup l) m = .ok (.tup l.reverse) m := Eq.trans rfl rfl
@[simp] theorem p_seqT (l : List D) : seqD (.tup l) m = .ok l m := Eq.trans rfl rfl
@[simp] theorem p_seqL (l : List D) : seqD (.lst l) m = .ok l m := Eq.trans rfl rfl
@[simp] theorem p_itT (l : List D) : itemsD (.tup l) m = .ok l m := Eq.trans rfl rfl
@[simp] theorem p_itL (l : List D) : itemsD (.lst l) m = .ok l m := Eq.trans rfl rfl
@[simp] theorem p_lenT (l : List D) : bLen [.tup l] m = .ok (.int l.length) m := Eq.trans rfl rfl
@[simp] theorem p_lenL (l : List D) : bLen [.lst l] m = .ok (.int l.length) m := Eq.trans rfl rfl
@[simp] theorem p_newF (l : List D) : mkNew false (.lst l) m = .ok (.lst l) m := Eq.trans rfl rfl
@[simp] theorem p_newC (o : Ob) : mkNew true o m = .ok (.ref m.length) (m ++ [o]) := Eq.trans rfl rfl
@[simp] theorem p_eq (neg : Bool) (a b : Int) : dEq neg (.int a) (.int b) m = .ok (.bl (if neg then !(a == b) else a == b)) m := by
  simp [dEq, strsD, eqD, pyM, viewL, py0, SeqAt.shaped, PyData.canLay0, PyData.depth, PyData.eqv]
theorem p_idxT (l : List D) (i : Int) (d : D) (h : atI l i = some d) : dIdx (.tup l) (.int i) m = .ok d m := by
  simp [dIdx, viewS, viewL, viewT, h]
theorem p_idxL (l : List D) (i : Int) (d : D) (h : atI l i = some d) : dIdx (.lst l) (.int i) m = .ok d m := by
  simp [dIdx, viewS, viewL, viewT, h]
@[simp] theorem p_idx0 (a : D) (l : List D) : dIdx (.tup (a :: l)) (.int 0) m = .ok a m := p_idxT _ _ _ (by simp [atI, ixN])
@[simp] theorem p_idx1 (a b : D) (l : List D) : dIdx (.tup (a :: b :: l)) (.int 1) m = .ok b m := p_idxT _ _ _ (by unfold atI ixN; rw [if_pos (by decide), if_pos (by simp; omega)]; rfl)
end
theorem lcA_map {g : D → Env → M Env} {t : Env → M Bool} {e : Env → M D} {env0 : Env} {m : Mem} (f : D → D) : ∀ (l acc : List D), (∀ d ∈ l, ∃ e1, g d env0 m = .ok e1 m ∧ t e1 m = .ok true m ∧ e e1 m = .ok (f d) m) → lcA g t e env0 l acc m = .ok (acc ++ l.map f) m
  | [], acc, _ => by unfold lcA; simp
  | d :: l, acc, h => by
    obtain ⟨e1, h1, h2, h3⟩ := h d (by simp)
    unfold lcA
    simp [h1, h2, h3]
    rw [lcA_map f l _ fun x hx => h x (by simp [hx])]
    simp
theorem lcD_map {g : D → Env → M Env} {t : Env → M Bool} {e : Env → M D} {env0 : Env} {m : Mem} (f : D → D) {l : List D} (hl : l.length < 1000000) (h : ∀ d ∈ l, ∃ e1, g d env0 m = .ok e1 m ∧ t e1 m = .ok true m ∧ e e1 m = .ok (f d) m) : lcD false g t e env0 l m = .ok (.lst (l.map f)) m := by
  unfold lcD
  rw [if_pos hl]
  simp [lcA_map f l [] h]
theorem blsD_map {α : Type} (f : α → Bool) : ∀ l : List α, blsD (l.map fun d => .bl (f d)) = some (l.map f)
  | [] => rfl
  | d :: l => by rw [List.map_cons, blsD, blsD_map f l]; rfl
theorem all_map {m : Mem} {α : Type} (f : α → Bool) (l : List α) : allD (.lst (l.map fun d => .bl (f d))) m = .ok (.bl (l.all f)) m := by
  have e : viewB m (.lst (l.map fun d => .bl (f d))) = some (l.map f) := blsD_map f l
  unfold allD
  rw [e]
  dsimp only
  rw [List.all_map]
  rfl
theorem any_map {m : Mem} {α : Type} (f : α → Bool) (l : List α) : anyD (.lst (l.map fun d => .bl (f d))) m = .ok (.bl (l.any f)) m := by
  have e : viewB m (.lst (l.map fun d => .bl (f d))) = some (l.map f) := blsD_map f l
  unfold anyD
  rw [e]
  dsimp only
  rw [List.any_map]
  rfl
theorem shw_tup {l : List D} : Shw (.tup l) ↔ ∀ d ∈ l, Shw d := by
  unfold Shw
  rw [py1, Option.isSome_map, py1L_is, List.all_eq_true]
@[simp] theorem on1_1 (f : D → M D) (d : D) : on1 f [d] = f d := Eq.trans rfl rfl
@[simp] theorem on2_2 (f : D → D → M D) (d e : D) : on2 f [d, e] = f d e := Eq.trans rfl rfl
theorem tryS_ok {ok sb : Nat → Bool} {i : Nat} {body suite : Env → M Out} {env : Env} {m m' : Mem} {o : Out} (h : body env m = .ok o m') (ho : ∀ x e, o ≠ .exn x e) : tryS ok sb i body suite env m = .ok o m' := by
  unfold tryS
  rw [h]
  cases o <;> first | rfl | exact absurd rfl (ho _ _)
theorem tryS_exn {ok sb : Nat → Bool} {i c : Nat} {d : D} {body suite : Env → M Out} {env env1 e : Env} {m m1 : Mem} (h : body env m = .ok (.exn ⟨c, some d⟩ env1) m1) (h1 : ok c = true) (h2 : sb c = true) (h3 : suite (env1.set i (some (.exc c [d]))) m1 = .ok (.nx e) m1)
    (h4 : ∀ (j : Nat) d, e[j]? = some (some d) → j ≠ i → env1[j]? = some (some d) ∨ NoX d) : tryS ok sb i body suite env m = .ok (.nx (e.set i none)) m1 := by
  unfold tryS
  rw [h]
  dsimp only
  rw [if_pos h1, if_pos h2]
  have h3' : suite (env1.set i (some (.exc c (some d).toList))) m1 = .ok (.nx e) m1 := h3
  rw [h3']
  dsimp only
  rw [if_pos ⟨.inl rfl, h4⟩]
  rfl
@[simp] theorem get_top (m : Mem) (o : Ob) : (m ++ [o])[m.length]? = some o := by simp
@[simp] theorem set_top (m : Mem) (o o' : Ob) : (m ++ [o]).set m.length o' = m ++ [o'] := by simp
end Eng

set_option maxRecDepth 100000
set_option maxHeartbeats 400000
namespace Eng
open PySem PySem.Spec PyProof.Rows L2
/-! ### how long a thing's repr is, how deep it is: at most n, k -/
def Sz (d : D) (n k : Nat) : Prop := ∃ p, py1 d = some p ∧ p.showable = true ∧ p.shown.length ≤ n ∧ p.depth ≤ k
def SzL (l : List D) (n k : Nat) : Prop := ∃ ps, py1L l = some ps ∧ PyData.showableAll ps = true ∧ piled (PyData.shownAll ps) ≤ n ∧ PyData.depthAll ps ≤ k
theorem Sz.mono {d : D} {n k n' k' : Nat} (h : Sz d n k) (hn : n ≤ n' := by omega) (hk : k ≤ k' := by omega) : Sz d n' k' := by
  obtain ⟨p, h1, h2, h3, h4⟩ := h
  exact ⟨p, h1, h2, Nat.le_trans h3 hn, Nat.le_trans h4 hk⟩
theorem SzL.mono {d : List D} {n k n' k' : Nat} (h : SzL d n k) (hn : n ≤ n' := by omega) (hk : k ≤ k' := by omega) : SzL d n' k' := by
  obtain ⟨p, h1, h2, h3, h4⟩ := h
  exact ⟨p, h1, h2, Nat.le_trans h3 hn, Nat.le_trans h4 hk⟩
theorem Sz.shw {d : D} {n k : Nat} (h : Sz d n k) : Shw d := by
  obtain ⟨p, h1, _⟩ := h
  unfold Shw; rw [h1]; rfl
theorem SzL.nil : SzL [] 0 0 := ⟨[], rfl, rfl, Nat.le_refl _, Nat.le_refl _⟩
theorem SzL.cons {d : D} {l : List D} {n n' k : Nat} (h : Sz d n k) (t : SzL l n' k) : SzL (d :: l) (n + 2 + n') k := by
  obtain ⟨p, h1, h2, h3, h4⟩ := h
  obtain ⟨ps, t1, t2, t3, t4⟩ := t
  refine ⟨p :: ps, by rw [py1L, h1, t1], by rw [PyData.showableAll, h2, t2]; rfl, ?_, by rw [PyData.depthAll]; omega⟩
  rw [PyData.shownAll, piled_cons]
  omega
theorem SzL.all {l : List D} {n k : Nat} : (∀ d ∈ l, Sz d n k) → SzL l ((n + 2) * l.length) k := by
  induction l with
  | nil => exact fun _ => SzL.nil.mono (by omega) (by omega)
  | cons d l ih =>
    intro h
    exact (SzL.cons (h d (by simp)) (ih fun x hx => h x (by simp [hx]))).mono (by rw [List.length_cons, Nat.mul_add]; omega)
theorem SzL.mem {l : List D} {n k : Nat} (h : SzL l n k) : ∀ d ∈ l, Sz d n k := by
  induction l generalizing n with
  | nil => intro d hd; exact nomatch hd
  | cons e l ih =>
    obtain ⟨ps, h1, h2, h3, h4⟩ := h
    rw [py1L] at h1
    cases q1 : py1 e with
    | none => rw [q1] at h1; cases h1
    | some p =>
      cases q2 : py1L l with
      | none => rw [q1, q2] at h1; cases h1
      | some qs =>
        rw [q1, q2] at h1
        cases h1
        rw [PyData.showableAll, Bool.and_eq_true] at h2
        rw [PyData.shownAll, piled_cons] at h3
        rw [PyData.depthAll] at h4
        intro d hd
        rcases List.mem_cons.mp hd with rfl | hd
        · exact ⟨p, q1, h2.1, by omega, by omega⟩
        · exact ih (n := n) ⟨qs, q2, h2.2, by omega, by omega⟩ d hd
theorem join_le : ∀ ts : List Str, (Str.join ", " ts).length ≤ piled ts
  | [] => Nat.zero_le _
  | t :: ts => by have := join_length_add (t :: ts) (by simp); omega
theorem Sz.tup {l : List D} {n k : Nat} (h : SzL l n k) : Sz (.tup l) (n + 3) (k + 1) := by
  obtain ⟨ps, h1, h2, h3, h4⟩ := h
  refine ⟨.tuple ps, by rw [py1, h1]; rfl, by rw [PyData.showable]; exact h2, ?_, by rw [PyData.depth]; omega⟩
  rw [PyData.shown]
  unfold tupleText
  rw [strLen_append, strLen_append]
  have e1 : (("(" : String) : Str).length = 1 := rfl
  have e2 : ∀ b : Bool, ((if b = true then ",)" else ")" : String) : Str).length ≤ 2 := fun b => by cases b <;> decide
  have := join_le (PyData.shownAll ps)
  have := e2 ((PyData.shownAll ps).length == 1)
  omega
theorem Sz.tupL {l : List D} {n k : Nat} (h : Sz (.tup l) n k) : SzL l n k := by
  obtain ⟨p, h1, h2, h3, h4⟩ := h
  rw [py1] at h1
  cases q : py1L l with
  | none => rw [q] at h1; cases h1
  | some ps =>
    rw [q] at h1
    cases h1
    rw [PyData.showable] at h2
    rw [PyData.shown] at h3
    rw [PyData.depth] at h4
    exact ⟨ps, q, h2, Nat.le_trans (piled_le_tupleText _) h3, by omega⟩
theorem textFrom_le : ∀ (ts : List Str) (k : Nat) (acc : Str), (textFrom k acc ts).length ≤ acc.length + piled ts
  | [], k, acc => Nat.le_add_right _ _
  | t :: ts, k, acc => by
    have h := textFrom_le ts (k + 1) (acc ++ (if k > 0 then ", " else "" : String) ++ t)
    rw [strLen_append, strLen_append] at h
    have e : ((if k > 0 then ", " else "" : String) : Str).length ≤ 2 := by split <;> decide
    rw [piled_cons]
    show (textFrom (k + 1) _ ts).length ≤ _
    omega
theorem Sz.lst {l : List D} {n k : Nat} (h : SzL l n k) : Sz (.lst l) (n + 2) (k + 1) := by
  obtain ⟨ps, h1, h2, h3, h4⟩ := h
  refine ⟨.list ps, by rw [py1, h1]; rfl, by rw [PyData.showable]; exact h2, ?_, by rw [PyData.depth]; omega⟩
  rw [PyData.shown]
  unfold listText
  rw [strLen_append]
  have e1 : (("[" : String) : Str).length = 1 := rfl
  have e2 : (("]" : String) : Str).length = 1 := rfl
  have := textFrom_le (PyData.shownAll ps) 0 "["
  omega
theorem int_show {i : Int} (h0 : -1 ≤ i) (h1 : i < 10 ^ 21) : Sz (.int i) 22 0 := by
  refine ⟨.int i, rfl, ?_, ?_, Nat.le_refl _⟩
  · rw [PyData.showable, decide_eq_true_eq]
    by_cases hz : i.natAbs = 0
    · rw [hz]; decide
    · refine (Nat.log2_lt hz).mpr ?_
      have : i.natAbs < 10 ^ 21 := by omega
      exact Nat.lt_trans this (by decide +kernel)
  · rw [PyData.shown]
    by_cases h : 0 ≤ i
    · exact Nat.le_trans (toString_length_le h (k := 21) (by decide) h1) (by decide)
    · obtain rfl : i = -1 := by omega
      decide +kernel
theorem Sz.non : Sz .non 4 0 := ⟨.none, rfl, rfl, by rw [PyData.shown]; decide, Nat.le_refl _⟩
theorem Sz.bl (b : Bool) : Sz (.bl b) 5 0 := ⟨.bool b, rfl, rfl, by rw [PyData.shown]; cases b <;> decide, Nat.le_refl _⟩
theorem Sz.str (s : Str) {n : Nat} (h : (reprText s).length ≤ n) : Sz (.str s) n 0 := ⟨.str s, rfl, rfl, by rw [PyData.shown]; exact h, Nat.le_refl _⟩
def SzK (ks : List PyData) (vs : List D) (n k : Nat) : Prop := ∃ ps, py1L vs = some ps ∧ PyData.showableKv (ks.zip ps) = true ∧ piled (PyData.shownKv (ks.zip ps)) ≤ n ∧ PyData.depthKv (ks.zip ps) ≤ k
theorem SzK.nil : SzK [] [] 0 0 := ⟨[], rfl, rfl, Nat.le_refl _, Nat.le_refl _⟩
theorem SzK.cons {p : PyData} {ks : List PyData} {d : D} {vs : List D} {n n1 n2 k : Nat} (s : p.showable = true) (s1 : p.shown.length ≤ n1) (s2 : p.depth ≤ k) (h : Sz d n k) (t : SzK ks vs n2 k) : SzK (p :: ks) (d :: vs) (n + n1 + 4 + n2) k := by
  obtain ⟨q, h1, h2, h3, h4⟩ := h
  obtain ⟨ps, t1, t2, t3, t4⟩ := t
  refine ⟨q :: ps, by rw [py1L, h1, t1], by rw [List.zip_cons_cons, PyData.showableKv, s, h2, t2]; rfl, ?_, by rw [List.zip_cons_cons, PyData.depthKv]; omega⟩
  rw [List.zip_cons_cons, PyData.shownKv, piled_cons, strLen_append, strLen_append]
  have e : ((": " : String) : Str).length = 2 := rfl
  omega
theorem dict_le {ps : List Str} : (dictText ps).length ≤ piled ps + 2 := by
  unfold dictText
  rw [strLen_append, strLen_append]
  have e1 : (("{" : String) : Str).length = 1 := rfl
  have e2 : (("}" : String) : Str).length = 1 := rfl
  have := join_le ps
  omega
theorem Sz.dK {ks : List Key} {vs : List D} {n k : Nat} (h : SzK (ks.map keyP) vs n k) : Sz (.dK ks vs) (n + 2) (k + 1) := by
  obtain ⟨ps, h1, h2, h3, h4⟩ := h
  refine ⟨.dict ((ks.map keyP).zip ps), by rw [py1, h1]; rfl, by rw [PyData.showable]; exact h2, ?_, by rw [PyData.depth]; omega⟩
  rw [PyData.shown]
  exact Nat.le_trans dict_le (by omega)
theorem Sz.dT {ks : List (List Key)} {vs : List D} {n k : Nat} (h : SzK (ks.map fun k => PyData.tuple (k.map keyP)) vs n k) : Sz (.dT ks vs) (n + 2) (k + 1) := by
  obtain ⟨ps, h1, h2, h3, h4⟩ := h
  refine ⟨.dict ((ks.map fun k => PyData.tuple (k.map keyP)).zip ps), by rw [py1, h1]; rfl, by rw [PyData.showable]; exact h2, ?_, by rw [PyData.depth]; omega⟩
  rw [PyData.shown]
  exact Nat.le_trans dict_le (by omega)
/-- repr of it -/
theorem pyR_of {m : Mem} {d : D} {p : PyData} (h : py1 d = some p) : pyR m d = some p := by
  unfold pyR
  cases d with
  | lst l => exact h
  | ref k => cases h
  | _ => exact h
theorem repr_sz {m : Mem} {d : D} {n k : Nat} (h : Sz d n k) (hn : n ≤ sizeLine) (hk : k ≤ 100) : ∃ s, reprD d m = .ok (.str s) m ∧ ∀ m', reprD d m' = .ok (.str s) m' := by
  obtain ⟨p, h1, h2, h3, h4⟩ := h
  have e : ∀ m', reprD d m' = .ok (.str p.shown) m' := fun m' => by
    unfold reprD
    rw [pyR_of h1]
    dsimp only
    rw [if_pos ⟨h2, Nat.le_trans h3 hn, Nat.le_trans h4 hk⟩]
  exact ⟨_, e m, e⟩
@[simp] theorem p_eqS {m : Mem} (neg : Bool) (a b : Str) : dEq neg (.str a) (.str b) m = .ok (.bl (if neg then !(a == b) else a == b)) m := rfl
end Eng

set_option maxRecDepth 100000
set_option maxHeartbeats 400000
namespace Eng
open PySem PySem.Spec PyProof.Rows L2
section
variable {m : Mem}
@[simp] theorem p_int (i : Int) : intD (.int i) m = .ok (.int i) m := Eq.trans rfl rfl
@[simp] theorem p_abs (i : Int) : absD (.int i) m = .ok (.int (if i < 0 then -i else i)) m := Eq.trans rfl rfl
@[simp] theorem p_mod (i j : Int) (h : 0 < j) : dMod (.int i) (.int j) m = .ok (.int (i % j)) m := by
  show (if 0 < j then (pure (.int (i % j)) : M D) else M.fail) m = _
  rw [if_pos h]; rfl
@[simp] theorem p_div (i j : Int) (h : 0 < j) (h2 : j < 1073741824) : dDiv (.int i) (.int j) m = .ok (.int (i / j)) m := by
  show (if 0 < j ∧ j < 1073741824 then (pure (.int (i / j)) : M D) else M.fail) m = _
  rw [if_pos ⟨h, h2⟩]; rfl
theorem p_mul (c : Bool) (i j : Int) (h : (-(2 ^ 64) < i ∧ i < 2 ^ 64) ∨ (-(2 ^ 64) < j ∧ j < 2 ^ 64)) : dMul c (.int i) (.int j) m = .ok (.int (i * j)) m := by
  show (if (-(2 ^ 64) < i ∧ i < 2 ^ 64) ∨ (-(2 ^ 64) < j ∧ j < 2 ^ 64) then (pure (.int (i * j)) : M D) else M.fail) m = _
  rw [if_pos h]; rfl
theorem p_pow (i j : Int) (h : 0 ≤ j ∧ j ≤ 1000000 ∧ i.natAbs < 2 ^ 64) : dPow (.int i) (.int j) m = .ok (.int (i ^ j.toNat)) m := by
  show (if 0 ≤ j ∧ j ≤ 1000000 ∧ i.natAbs < 2 ^ 64 then (pure (.int (i ^ j.toNat)) : M D) else M.fail) m = _
  rw [if_pos h]; rfl
theorem sq_via {r : R Out} {g : Env → M Out} {P : R Out → Prop} (A : Env → Mem → Prop) (h1 : ∃ e m', r = .ok (.nx e) m' ∧ A e m') (h2 : ∀ e m', A e m' → P (g e m')) : P (r.sq g) := by
  obtain ⟨e, m', rfl, h⟩ := h1
  exact h2 e m' h
/-! the hand: five things in a list, the first of the memory -/
variable {x0 x1 x2 x3 x4 v : D}
@[simp] theorem h_get0 : dIdx (.ref 0) (.int 0) (.lst [x0, x1, x2, x3, x4] :: m) = .ok x0 (.lst [x0, x1, x2, x3, x4] :: m) := Eq.trans rfl rfl
@[simp] theorem h_get1 : dIdx (.ref 0) (.int 1) (.lst [x0, x1, x2, x3, x4] :: m) = .ok x1 (.lst [x0, x1, x2, x3, x4] :: m) := Eq.trans rfl rfl
@[simp] theorem h_get2 : dIdx (.ref 0) (.int 2) (.lst [x0, x1, x2, x3, x4] :: m) = .ok x2 (.lst [x0, x1, x2, x3, x4] :: m) := Eq.trans rfl rfl
@[simp] theorem h_get3 : dIdx (.ref 0) (.int 3) (.lst [x0, x1, x2, x3, x4] :: m) = .ok x3 (.lst [x0, x1, x2, x3, x4] :: m) := Eq.trans rfl rfl
@[simp] theorem h_get4 : dIdx (.ref 0) (.int 4) (.lst [x0, x1, x2, x3, x4] :: m) = .ok x4 (.lst [x0, x1, x2, x3, x4] :: m) := Eq.trans rfl rfl
@[simp] theorem h_set1 : setD (.ref 0) (.int 1) v (.lst [x0, x1, x2, x3, x4] :: m) = .ok () (.lst [x0, v, x2, x3, x4] :: m) := Eq.trans rfl rfl
@[simp] theorem h_set2 : setD (.ref 0) (.int 2) v (.lst [x0, x1, x2, x3, x4] :: m) = .ok () (.lst [x0, x1, v, x3, x4] :: m) := Eq.trans rfl rfl
@[simp] theorem h_set3 : setD (.ref 0) (.int 3) v (.lst [x0, x1, x2, x3, x4] :: m) = .ok () (.lst [x0, x1, x2, v, x4] :: m) := Eq.trans rfl rfl
@[simp] theorem h_set4 : setD (.ref 0) (.int 4) v (.lst [x0, x1, x2, x3, x4] :: m) = .ok () (.lst [x0, x1, x2, x3, v] :: m) := Eq.trans rfl rfl
def Hd (o : Ob) : Prop := ∃ (ks : List Int) (a b c e : Int), 0 ≤ a ∧ o = .lst [.lst (ks.map .int), .int a, .int b, .int c, .int e]
theorem idx_ints (ks : List Int) (a : Int) (h0 : 0 ≤ a) (h1 : a < (ks.length : Int)) : ∃ k, dIdx (.lst (ks.map .int)) (.int a) m = .ok (.int k) m := by
  have hl : a.toNat < ks.length := by omega
  refine ⟨ks[a.toNat], p_idxL _ _ _ ?_⟩
  unfold atI ixN
  rw [if_pos h0, if_pos (by simpa using h1)]
  simp [hl]
end
theorem for_inv {g : D → Env → M Env} {b : Env → M Out} (I : Nat → Env → Mem → Prop) : ∀ (l : List D) (i : Nat) (env : Env) (m : Mem), (∀ j d env m, l[j]? = some d → I (i + j) env m → ∃ env' m', ((g d env m).nox.bd b) = .ok (.nx env') m' ∧ I (i + j + 1) env' m') → I i env m → ∃ env' m', forD l g b env m = .ok (.nx env') m' ∧ I (i + l.length) env' m'
  | [], i, env, m, _, h => ⟨env, m, rfl, h⟩
  | d :: l, i, env, m, s, h => by
    obtain ⟨e1, m1, h1, h2⟩ := s 0 d env m rfl h
    obtain ⟨e2, m2, h3, h4⟩ := for_inv I l (i + 1) e1 m1 (fun j x e m hx hi => by
      obtain ⟨e', m', z1, z2⟩ := s (j + 1) x e m (by simpa using hx) (by rw [show i + (j + 1) = i + 1 + j by omega]; exact hi)
      exact ⟨e', m', z1, by rw [show i + 1 + j + 1 = i + (j + 1) + 1 by omega]; exact z2⟩) h2
    refine ⟨e2, m2, ?_, by rw [List.length_cons, show i + (l.length + 1) = i + 1 + l.length by omega]; exact h4⟩
    have lp : ∀ r : R Env, (r.bd (forK b (forD l g b))) = (r.bd b).lp (forD l g b) := fun r => by cases r <;> rfl
    rw [ev_forS, lp, h1, lp_nx, h3]
theorem for_via {g : D → Env → M Env} {b : Env → M Out} {l : List D} {env : Env} {m : Mem} {A : Env → Mem → Prop} (I : Nat → Env → Mem → Prop) (h0 : I 0 env m)
    (s : ∀ j d env m, l[j]? = some d → I j env m → ∃ env' m', ((g d env m).nox.bd b) = .ok (.nx env') m' ∧ I (j + 1) env' m') (f : ∀ e m', I l.length e m' → A e m') : ∃ e m', forD l g b env m = .ok (.nx e) m' ∧ A e m' := by
  obtain ⟨e, m', h1, h2⟩ := for_inv I l 0 env m (fun j d env m hx hi => by rw [Nat.zero_add] at hi ⊢; exact s j d env m hx hi) h0
  exact ⟨e, m', h1, f _ _ (by rw [Nat.zero_add] at h2; exact h2)⟩
theorem rngL_get {n j : Nat} {d : D} (h : (rngL 0 n)[j]? = some d) : j < n ∧ d = .int (j : Nat) := by
  unfold rngL at h
  rw [List.getElem?_map] at h
  by_cases hj : j < n
  · rw [List.getElem?_range hj] at h
    cases h
    exact ⟨hj, by simp⟩
  · rw [List.getElem?_eq_none (by simpa using hj)] at h
    cases h
theorem p_rng1 {m : Mem} {n : Int} (h0 : 0 ≤ n) (h1 : n < 1000000) : rng1D [.int n] m = .ok (rngL 0 n.toNat) m := by
  show (if -(2 ^ 62) ≤ n ∧ n < 2 ^ 62 then (pure (rngL 0 n.toNat) : M (List D)) else M.fail) m = _
  rw [if_pos ⟨by omega, by omega⟩]; rfl
theorem rngL_len (lo : Int) (n : Nat) : (rngL lo n).length = n := by simp [rngL]
def NegI (d : D) : Prop := ∀ i, d = .int i → i < 0
section
variable {o x : Ob} {rest : Mem} {xs : List D} {d : D}
@[simp] theorem top_get : (o :: (rest ++ [x]))[rest.length + 1]? = some x := by simp
@[simp] theorem top_set {y : Ob} : (o :: (rest ++ [x])).set (rest.length + 1) y = o :: (rest ++ [y]) := by simp
@[simp] theorem lm_top {k : M D} : lmD (.ref (rest.length + 1)) k (o :: (rest ++ [.lst xs])) = k (o :: (rest ++ [.lst xs])) := by
  have e : isL (o :: (rest ++ [.lst xs])) (.ref (rest.length + 1)) = true := by
    unfold isL
    dsimp only
    rw [top_get]
  unfold lmD
  rw [if_pos e]
theorem app_top (h : xs.length < 1000000) : appD (.ref (rest.length + 1)) [d] (o :: (rest ++ [.lst xs])) = .ok .non (o :: (rest ++ [.lst (xs ++ [d])])) := by
  unfold appD cellL
  dsimp only
  rw [top_get]
  dsimp only
  rw [if_pos h, top_set]
theorem view_top : viewL (o :: (rest ++ [.lst xs])) (.ref (rest.length + 1)) = some xs := by
  unfold viewL
  dsimp only
  rw [top_get]
end
end Eng

set_option maxRecDepth 100000
set_option maxHeartbeats 400000
namespace Eng
open PySem PySem.Spec PyProof.Rows L2
variable {m : Mem}
/-! ### plain tools -/
theorem cut_take (l : List D) (i : Int) (h : 0 ≤ i) : Eng.cutD l none (some i) = l.take i.toNat := by
  obtain ⟨n, rfl⟩ := Int.eq_ofNat_of_zero_le h
  unfold Eng.cutD
  rw [HT.sIx_nat, HT.sIx_none, Int.toNat_natCast, List.drop_zero, Nat.sub_zero, ← List.take_eq_take_min]
theorem cut_drop (l : List D) (i : Int) (h : 0 ≤ i) : Eng.cutD l (some i) none = l.drop i.toNat := by
  obtain ⟨n, rfl⟩ := Int.eq_ofNat_of_zero_le h
  unfold Eng.cutD
  rw [HT.sIx_nat, HT.sIx_none, Int.toNat_natCast]
  by_cases hn : n ≤ l.length
  · rw [Nat.min_eq_left hn, List.take_of_length_le (by rw [List.length_drop]; exact Nat.le_refl _)]
  · rw [Nat.min_eq_right (by omega), Nat.sub_self, List.take_zero, List.drop_of_length_le (by omega)]
@[simp] theorem p_cutT (l : List D) (a b : Option Int) : dCut false (.tup l) a b m = .ok (.tup (Eng.cutD l a b)) m := Eq.trans rfl rfl
@[simp] theorem p_cutL (l : List D) (a b : Option Int) : dCut false (.lst l) a b m = .ok (.lst (Eng.cutD l a b)) m := Eq.trans rfl rfl
@[simp] theorem p_tupL (l : List D) : tupD (.lst l) m = .ok (.tup l) m := Eq.trans rfl rfl
@[simp] theorem p_lstT (l : List D) : lstD false (.tup l) m = .ok (.lst l) m := Eq.trans rfl rfl
theorem atI_get (l : List D) (i : Int) (h0 : 0 ≤ i) (h1 : i < (l.length : Int)) : ∃ d, d ∈ l ∧ atI l i = some d := by
  have h : i.toNat < l.length := by omega
  refine ⟨l[i.toNat], List.getElem_mem h, ?_⟩
  unfold atI ixN
  rw [if_pos h0, if_pos h1]
  simp [h]
theorem atI_nat (l : List D) (i : Nat) (d : D) (h : l[i]? = some d) : atI l (i : Int) = some d := by
  have hi := (List.getElem?_eq_some_iff.mp h).1
  unfold atI ixN
  rw [if_pos (by omega), if_pos (by omega)]
  simp [h]
theorem p_addL (a b : List D) (h : a.length + b.length ≤ 1000000) : dAdd false (.lst a) (.lst b) m = .ok (.lst (a ++ b)) m := by
  have h2 : a.length + b.length ≤ sizeLine := Nat.le_trans h (by decide)
  show (if a.length + b.length ≤ sizeLine then mkNew false (.lst (a ++ b)) m else .bad) = _
  rw [if_pos h2]
  rfl
theorem p_addT (a b : List D) (h : a.length + b.length ≤ 1000000) : dAdd false (.tup a) (.tup b) m = .ok (.tup (a ++ b)) m := by
  have h2 : a.length + b.length ≤ sizeLine := Nat.le_trans h (by decide)
  show (if a.length + b.length ≤ sizeLine then (pure (.tup (a ++ b)) : M D) else M.fail) m = _
  rw [if_pos h2]
  rfl
theorem p_str {i : Int} (h : i.natAbs < 1000000) : strD (.int i) m = .ok (.str (toString i)) m := by
  have h2 : i.natAbs.log2 < 1920 := by
    by_cases hz : i.natAbs = 0
    · rw [hz]; decide
    · exact (Nat.log2_lt hz).mpr (Nat.lt_trans h (by decide +kernel))
  show (if i.natAbs.log2 < 1920 then (pure (.str (toString i)) : M D) else M.fail) m = _
  rw [if_pos h2]
  rfl
theorem p_rng0 {n : Int} (h0 : n < 0) (h1 : -100 < n) : rng1D [.int n] m = .ok [] m := by
  show (if -(2 ^ 62) ≤ n ∧ n < 2 ^ 62 then (pure (rngL 0 n.toNat) : M (List D)) else M.fail) m = _
  rw [if_pos ⟨by omega, by omega⟩, show n.toNat = 0 by omega]; rfl
@[simp] theorem p_eqB (neg a b : Bool) : dEq neg (.bl a) (.bl b) m = .ok (.bl (if neg then !(a == b) else a == b)) m := by
  cases a <;> cases b <;> cases neg <;> simp [dEq, strsD, eqD, pyM, viewL, py0, SeqAt.shaped, PyData.canLay0, PyData.depth, PyData.eqv]
theorem tup_len {l : List D} {n k : Nat} (h : Sz (.tup l) n k) : l.length ≤ n := by
  obtain ⟨ps, h1, h2, h3, h4⟩ := h.tupL
  have z : ∀ {l : List D} {ps : List PyData}, py1L l = some ps → l.length ≤ piled (PyData.shownAll ps) := by
    intro l
    induction l with
    | nil => intro ps _; exact Nat.zero_le _
    | cons d l ih =>
      intro ps h
      rw [py1L] at h
      cases q1 : py1 d with
      | none => rw [q1] at h; cases h
      | some p =>
        cases q2 : py1L l with
        | none => rw [q1, q2] at h; cases h
        | some qs =>
          rw [q1, q2] at h
          cases h
          rw [PyData.shownAll, piled_cons, List.length_cons]
          have := ih q2
          omega
  exact Nat.le_trans (z h1) h3
/-! comprehensions with a test; loops that look for one -/
theorem lcA_filt {g : D → Env → M Env} {t : Env → M Bool} {e : Env → M D} {env0 : Env} (p : D → Bool) (f : D → D) : ∀ (l acc : List D), (∀ d ∈ l, ∃ e1, g d env0 m = .ok e1 m ∧ t e1 m = .ok (p d) m ∧ (p d = true → e e1 m = .ok (f d) m)) → lcA g t e env0 l acc m = .ok (acc ++ (l.filter p).map f) m
  | [], acc, _ => by unfold lcA; simp
  | d :: l, acc, h => by
    obtain ⟨e1, h1, h2, h3⟩ := h d (by simp)
    unfold lcA
    cases hp : p d with
    | true =>
      simp [h1, h2, h3 hp, hp]
      rw [lcA_filt p f l _ fun x hx => h x (by simp [hx])]
      simp
    | false =>
      simp [h1, h2, hp]
      rw [lcA_filt p f l _ fun x hx => h x (by simp [hx])]
theorem lcD_filt {g : D → Env → M Env} {t : Env → M Bool} {e : Env → M D} {env0 : Env} (p : D → Bool) (f : D → D) {l : List D} (hl : l.length < 1000000) (h : ∀ d ∈ l, ∃ e1, g d env0 m = .ok e1 m ∧ t e1 m = .ok (p d) m ∧ (p d = true → e e1 m = .ok (f d) m)) : lcD false g t e env0 l m = .ok (.lst ((l.filter p).map f)) m := by
  unfold lcD
  rw [if_pos hl]
  simp [lcA_filt p f l [] h]
theorem for_find {g : D → Env → M Env} {b : Env → M Out} {X : D} (I : Env → Prop) (p : D → Bool) : ∀ (l : List D) (env : Env), I env → (∀ d ∈ l, ∀ env, I env → ∃ e', ((g d env m).nox.bd b) = (if p d = true then .ok (.ret X) m else .ok (.nx e') m) ∧ (p d = false → I e')) →
    (l.any p = true ∧ forD l g b env m = .ok (.ret X) m) ∨ (l.any p = false ∧ ∃ e', forD l g b env m = .ok (.nx e') m ∧ I e')
  | [], env, h, _ => .inr ⟨rfl, env, rfl, h⟩
  | d :: l, env, h, s => by
    have lp : ∀ r : R Env, (r.bd (forK b (forD l g b))) = (r.bd b).lp (forD l g b) := fun r => by cases r <;> rfl
    obtain ⟨e', h1, h2⟩ := s d (by simp) env h
    rw [ev_forS, lp, h1, List.any_cons]
    cases hp : p d with
    | true => exact .inl ⟨rfl, rfl⟩
    | false =>
      rw [if_neg (by simp), lp_nx, Bool.false_or]
      exact for_find I p l e' (h2 hp) fun x hx => s x (by simp [hx])
/-! lists of ints -/
theorem ints_some : ∀ {l : List D} {is : List Int}, intsD l = some is → l = is.map .int
  | [], _, h => by cases h; rfl
  | d :: l, _, h => by
    cases d with
    | int i =>
      unfold intsD at h
      cases q : intsD l with
      | none => rw [q] at h; cases h
      | some js =>
        rw [q] at h; cases h
        rw [ints_some q]; rfl
    | _ => cases h
theorem ints_map (is : List Int) : intsD (is.map .int) = some is := by
  induction is with
  | nil => rfl
  | cons i is ih => rw [List.map_cons, intsD, ih]; rfl
theorem py0_ints : ∀ is : List Int, py0L (is.map .int) = some (is.map .int)
  | [] => rfl
  | i :: is => by rw [List.map_cons, py0L, py0_ints is]; rfl
theorem lay_ints : ∀ is : List Int, PyData.canLayAll0 (is.map PyData.int) = true ∧ PyData.depthAll (is.map PyData.int) = 0
  | [] => ⟨rfl, rfl⟩
  | i :: is => by
    obtain ⟨h1, h2⟩ := lay_ints is
    exact ⟨by rw [List.map_cons, PyData.canLayAll0, h1]; rfl, by rw [List.map_cons, PyData.depthAll, h2]; rfl⟩
theorem in_ints (neg : Bool) (c : Int) (is : List Int) : dIn neg (.int c) (.tup (is.map .int)) m = .ok (.bl (if neg then !(is.any fun z => z == c) else is.any fun z => z == c)) m := by
  have e1 : look m (.tup (is.map .int)) (.int c) = none := rfl
  have e2 : pyM m (.int c) = some (.int c) := rfl
  have e3 : (viewS m (.tup (is.map .int))).bind py0L = some (is.map .int) := py0_ints is
  have s1 : SeqAt.shaped (.list (is.map PyData.int)) = true := by
    obtain ⟨h1, h2⟩ := lay_ints is
    unfold SeqAt.shaped
    rw [PyData.canLay0, PyData.depth, h1, h2]; rfl
  have s2 : SeqAt.shaped (.int c) = true := by simp [SeqAt.shaped, PyData.canLay0, PyData.depth]
  unfold dIn
  rw [e1, e2, e3]
  dsimp only
  rw [if_pos ⟨s2, s1⟩, List.any_map]
  rfl
def asc : List Int → Bool
  | a :: b :: r => decide (a < b) && asc (b :: r)
  | _ => true
theorem asc_range : ∀ is : List Int, ((List.range (is.length - 1)).all fun i => decide (is.getD i 0 < is.getD (i + 1) 0)) = asc is
  | [] => rfl
  | [_] => rfl
  | a :: b :: r => by
    have h := asc_range (b :: r)
    rw [show (a :: b :: r).length - 1 = ((b :: r).length - 1) + 1 by simp, List.range_succ_eq_map, List.all_cons, List.all_map, asc, ← h]
    rfl
def ltPr : D → Bool
  | .tup [.int a, .int b] => decide (a < b)
  | _ => false
theorem asc_zip : ∀ is : List Int, ((zipL (is.map .int) (is.map D.int).tail).all ltPr) = asc is
  | [] => rfl
  | [_] => rfl
  | a :: b :: r => by
    have h := asc_zip (b :: r)
    rw [asc, ← h]
    rfl
end Eng

set_option maxRecDepth 100000
set_option maxHeartbeats 8000000
namespace Wk
open PySem PySem.Spec PyProof.Rows L2 Eng
def top (i : Nat) : Stmt := PySem.Challenge.pw_onlyscores_k16_texts_of_rounds.main.body.getD i (.Pass ⟨0, 0, 0, 0⟩)
/-- the attributes of the plain classes -/
def fls : Nat → List Str
  | 0 => ["many", "told"]
  | _ => []
/-- the errors that may come -/
def okX (c : Nat) : Bool := [2, 3].contains c
def sb_ValueError (c : Nat) : Bool := [2, 3].contains c
def sb_RoundError (c : Nat) : Bool := [2, 3].contains c
def sb_BadRound (c : Nat) : Bool := [2].contains c
def sb_BadText (c : Nat) : Bool := [3].contains c
def ok_line (c : Nat) : Bool := [3].contains c
def ok_place (c : Nat) : Bool := [2].contains c
abbrev s_is_integer : Stmt := top 5
noncomputable def body_is_integer : Eng.Env → M Out := (fun env => exB env (do let x ← (do let d ← (getE env 0); isiD 1 [.bi "int"] d); let c ← asB x; if c then (do  let x ← (do let d ← (getE env 0); isiD 1 [.bi "bool"] d);  dNot x) else pure (.bl false)) fun d => pure (.ret d))
noncomputable def d_is_integer (l : List D) : M D := callB 1 body_is_integer l
abbrev s_is_below : Stmt := top 6
noncomputable def body_is_below : Eng.Env → M Out := (fun env => exB env (do let x ← (do let l ← (do let x ← (getE env 0); let y ← (pure []); pure (x :: y)); d_is_integer l); let c ← asB x; if c then (do let x ← (pure (.int 0)); let y ← (getE env 0); let z ← dLe x y; let k ← asB z; if k then (do let u ← (getE env 1); dLt y u) else pure (.bl false)) else pure (.bl false)) fun d => pure (.ret d))
noncomputable def d_is_below (l : List D) : M D := callB 2 body_is_below l
abbrev s_is_result : Stmt := top 9
noncomputable def body_is_result : Eng.Env → M Out := (seqS (fun env => exB env (do let c ← (do let c ← (do let x ← (do let d ← (getE env 0); isiD 1 [.bi "tuple"] d); asB x); pure (!c)); if c then pure true else (do let z ← (do let x ← (do let l ← (do let x ← (getE env 0); let y ← (pure []); pure (x :: y)); bLen l); let y ← (pure (.int 2)); dEq true x y); asB z)) fun c => if c then (fun env => exB env (pure (.bl false)) fun d => pure (.ret d)) env else (fun env => pure (.nx env)) env)
  (fun env => exB env (do let x ← (do let l ← (do let x ← (do let x ← (getE env 0); let y ← (pure (.int 0)); dIdx x y); let y ← (do let x ← (getE env 1); let y ← (pure []); pure (x :: y)); pure (x :: y)); d_is_below l); let c ← asB x; if c then (do let x ← (do let l ← (do let x ← (do let x ← (getE env 0); let y ← (pure (.int 1)); dIdx x y); let y ← (do let x ← (getE env 1); let y ← (pure []); pure (x :: y)); pure (x :: y)); d_is_below l); let c ← asB x; if c then (do let x ← (do let x ← (getE env 0); let y ← (pure (.int 0)); dIdx x y); let y ← (do let x ← (getE env 0); let y ← (pure (.int 1)); dIdx x y); dEq true x y) else pure (.bl false)) else pure (.bl false)) fun d => pure (.ret d)))
noncomputable def d_is_result (l : List D) : M D := callB 2 body_is_result l
abbrev s_first_bad : Stmt := top 10
noncomputable def body_first_bad : Eng.Env → M Out := (seqS (fun env => exB env (do let c ← (do let c ← (do let x ← (do let l ← (do let x ← (getE env 0); let y ← (pure []); pure (x :: y)); d_is_integer l); asB x); pure (!c)); if c then pure true else (do let c ← (do let v ← (do let x ← (pure (.int 1)); let y ← (getE env 0); let z ← dLe x y; let k ← asB z; if k then (do let u ← (pure (.int 24)); dLe y u) else pure (.bl false)); asB v); pure (!c))) fun c => if c then (fun env => exB env (do let x ← (pure (.int 1)); dNeg x) fun d => pure (.ret d)) env else (fun env => pure (.nx env)) env)
  (seqS (fun env => exB env (do let c ← (do let x ← (do let d ← (getE env 1); isiD 1 [.bi "tuple"] d); asB x); pure (!c)) fun c => if c then (fun env => exB env (pure (.int 0)) fun d => pure (.ret d)) env else (fun env => pure (.nx env)) env)
  (seqS (fun env => exB env (do let d ← (getE env 1); let l ← seqD d; pure (enumL 0 l)) fun l => forD l (fun d env => match viewT d with | some l => if l.length = 2 then (fun ds env => match ds with | d :: ds => (do let env' ← (fun d env => pure (env.set 2 (some d))) d env; (fun ds env => match ds with | d :: ds => (do let env' ← (fun d env => pure (env.set 3 (some d))) d env; (fun ds env => match ds with | [] => pure env | _ => M.fail) ds env') | [] => M.fail) ds env') | [] => M.fail) l env else M.fail | none => M.fail) (fun env => exB env (do let c ← (do let c ← (do let x ← (do let l ← (do let x ← (getE env 3); let y ← (do let x ← (getE env 0); let y ← (pure []); pure (x :: y)); pure (x :: y)); d_is_result l); asB x); pure (!c)); if c then pure true else (do let c ← (do let c ← (do let z ← (do let x ← (getE env 2); let y ← (pure (.int 0)); dGt x y); asB z); if c then (do let z ← (do let x ← (getE env 3); let y ← (do let x ← (getE env 1); let y ← (do let x ← (getE env 2); let y ← (pure (.int 1)); dSub x y); dIdx x y); dLe x y); asB z) else pure false); if c then pure true else (do let z ← (do let x ← (do let x ← (getE env 3); dRev false x); let y ← (do let x ← (getE env 1); let l ← (pure none); let h ← (do let x ← (getE env 2); let i ← asI x; pure (some i)); dCut false x l h); dIn false x y); asB z))) fun c => if c then (fun env => exB env (getE env 2) fun d => pure (.ret d)) env else (fun env => pure (.nx env)) env) env)
  (fun env => exB env (pure .non) fun d => pure (.ret d)))))
noncomputable def d_first_bad (l : List D) : M D := callB 4 body_first_bad l
abbrev s_Round_init : Stmt := inClass (top 11) 0
noncomputable def body_Round_init : Eng.Env → M Out := (seqS (fun env => exB env (do let l ← (do let x ← (getE env 1); let y ← (do let x ← (getE env 2); let y ← (pure []); pure (x :: y)); pure (x :: y)); d_first_bad l) fun d => pure (.nx (env.set 3 (some d))))
  (seqS (fun env => exB env (do let x ← (getE env 3); pure (!isNon x)) fun c => if c then (fun env => exB env (getE env 3) fun d => pure (.exn ⟨2, some d⟩ env)) env else (fun env => pure (.nx env)) env)
  (seqS (fun env => exB env (do let v ← (getE env 1); let x ← (getE env 0); setA 1 fls "many" x v) fun _ => pure (.nx env))
  (fun env => exB env (do let v ← (getE env 2); let x ← (getE env 0); setA 1 fls "told" x v) fun _ => pure (.nx env)))))
noncomputable def d_Round_init (l : List D) : M D := callB 4 body_Round_init l
abbrev s_Round_eq : Stmt := inClass (top 11) 1
noncomputable def body_Round_eq : Eng.Env → M Out := (fun env => exB env (do let x ← (do let d ← (getE env 1); isiD 1 [.own 0] d); let c ← asB x; if c then (do let x ← (do let l ← (do let x ← (do let x ← (getE env 0); attrD 1 fls "many" x); let y ← (do let x ← (do let x ← (getE env 0); attrD 1 fls "told" x); let y ← (pure []); pure (x :: y)); pure (x :: y)); pure (.tup l)); let y ← (do let l ← (do let x ← (do let x ← (getE env 1); attrD 1 fls "many" x); let y ← (do let x ← (do let x ← (getE env 1); attrD 1 fls "told" x); let y ← (pure []); pure (x :: y)); pure (x :: y)); pure (.tup l)); dEq false x y) else pure (.bl false)) fun d => pure (.ret d))
noncomputable def d_Round_eq (l : List D) : M D := callB 2 body_Round_eq l
abbrev s_round_text : Stmt := top 15
noncomputable def body_round_text : Eng.Env → M Out := (seqS (fun env => exB env (do let x ← (do let l ← (do let x ← (do let l ← (do let x ← (do let x ← (getE env 0); attrD 1 fls "many" x); let y ← (pure []); pure (x :: y)); on1 strD l); let y ← (pure []); pure (x :: y)); mkNew false (.lst l)); let y ← (do let l ← (do let d ← (do let x ← (getE env 0); attrD 1 fls "told" x); itemsD d); lcD false (fun d env => match viewT d with | some l => if l.length = 2 then (fun ds env => match ds with | d :: ds => (do let env' ← (fun d env => pure (env.set 2 (some d))) d env; (fun ds env => match ds with | d :: ds => (do let env' ← (fun d env => pure (env.set 3 (some d))) d env; (fun ds env => match ds with | [] => pure env | _ => M.fail) ds env') | [] => M.fail) ds env') | [] => M.fail) l env else M.fail | none => M.fail) (fun _ => pure true) (fun env => do let x ← (do let x ← (do let l ← (do let x ← (getE env 2); let y ← (pure []); pure (x :: y)); on1 strD l); let y ← (pure (.str " ")); dAdd false x y); let y ← (do let l ← (do let x ← (getE env 3); let y ← (pure []); pure (x :: y)); on1 strD l); dAdd false x y) (wipeE env [2, 3]) l); dAdd false x y) fun d => pure (.nx (env.set 1 (some d))))
  (fun env => exB env (do let d ← (pure (.str "")); tmD isStr d (do let l ← (do let x ← (do let l ← (do let d ← (getE env 1); itemsD d); lcD false (fun d env => pure (env.set 4 (some d))) (fun _ => pure true) (fun env => do let x ← (getE env 4); let y ← (pure (.str "\n")); dAdd false x y) (wipeE env [4]) l); let y ← (pure []); pure (x :: y)); joinD d l)) fun d => pure (.ret d)))
noncomputable def d_round_text (l : List D) : M D := callB 5 body_round_text l
abbrev s_number_of : Stmt := top 16
noncomputable def body_number_of : Eng.Env → M Out := (seqS (fun env => exB env (do let c ← (do let c ← (do let v ← (do let x ← (pure (.int 1)); let y ← (do let l ← (do let x ← (getE env 0); let y ← (pure []); pure (x :: y)); bLen l); let z ← dLe x y; let k ← asB z; if k then (do let u ← (getE env 1); dLe y u) else pure (.bl false)); asB v); pure (!c)); if c then pure true else (do let c ← (do let x ← (do let l ← (do let x ← (do let l ← (do let d ← (getE env 0); itemsD d); lcD false (fun d env => pure (env.set 2 (some d))) (fun _ => pure true) (fun env => do let x ← (getE env 2); let y ← (pure (.str "0123456789")); dIn false x y) (wipeE env [2]) l); let y ← (pure []); pure (x :: y)); on1 allD l); asB x); pure (!c))) fun c => if c then (fun env => exB env (pure .non) fun d => pure (.ret d)) env else (fun env => pure (.nx env)) env)
  (fun env => exB env (do let k ← (do let c ← (do let z ← (do let x ← (do let l ← (do let x ← (getE env 0); let y ← (pure []); pure (x :: y)); bLen l); let y ← (pure (.int 1)); dGt x y); asB z); if c then (do let z ← (do let x ← (do let x ← (getE env 0); let y ← (pure (.int 0)); dIdx x y); let y ← (pure (.str "0")); dEq false x y); asB z) else pure false); if k then (pure .non) else (do let l ← (do let x ← (getE env 0); let y ← (pure []); pure (x :: y)); on1 intD l)) fun d => pure (.ret d)))
noncomputable def d_number_of (l : List D) : M D := callB 3 body_number_of l
abbrev s_numbers_of : Stmt := top 17
noncomputable def body_numbers_of : Eng.Env → M Out := (seqS (fun env => exB env (do let l ← (do let x ← (do let l ← (do let d ← (do let d ← (getE env 0); tmD isStr d (do let l ← (do let x ← (pure (.str " ")); let y ← (pure []); pure (x :: y)); splitD false d l)); itemsD d); lcD false (fun d env => pure (env.set 3 (some d))) (fun _ => pure true) (fun env => do let l ← (do let x ← (getE env 3); let y ← (do let x ← (pure (.int 2)); let y ← (pure []); pure (x :: y)); pure (x :: y)); d_number_of l) (wipeE env [3]) l); let y ← (pure []); pure (x :: y)); on1 tupD l) fun d => pure (.nx (env.set 2 (some d))))
  (fun env => exB env (do let k ← (do let c ← (do let z ← (do let x ← (do let l ← (do let x ← (getE env 2); let y ← (pure []); pure (x :: y)); bLen l); let y ← (getE env 1); dEq true x y); asB z); if c then pure true else (do let z ← (do let x ← (pure .non); let y ← (getE env 2); dIn false x y); asB z)); if k then (pure .non) else (getE env 2)) fun d => pure (.ret d)))
noncomputable def d_numbers_of (l : List D) : M D := callB 4 body_numbers_of l
abbrev s_read_round : Stmt := top 18
noncomputable def body_read_round : Eng.Env → M Out := (seqS (fun env => exB env (do let c ← (do let x ← (do let d ← (getE env 0); isiD 1 [.bi "str"] d); asB x); pure (!c)) fun c => if c then (fun env => exB env (pure (.int 0)) fun d => pure (.exn ⟨3, some d⟩ env)) env else (fun env => pure (.nx env)) env)
  (seqS (fun env => exB env (do let d ← (getE env 0); tmD isStr d (do let l ← (do let x ← (pure (.str "\n")); let y ← (pure []); pure (x :: y)); splitD false d l)) fun d => pure (.nx (env.set 1 (some d))))
  (seqS (fun env => exB env (do let l ← (pure []); mkNew true (.lst l)) fun d => pure (.nx (env.set 2 (some d))))
  (seqS (fun env => exB env (do let d ← (do let x ← (getE env 1); let l ← (pure none); let h ← (do let x ← (do let x ← (pure (.int 1)); dNeg x); let i ← asI x; pure (some i)); dCut false x l h); let l ← seqD d; pure (enumL 0 l)) fun l => forD l (fun d env => match viewT d with | some l => if l.length = 2 then (fun ds env => match ds with | d :: ds => (do let env' ← (fun d env => pure (env.set 3 (some d))) d env; (fun ds env => match ds with | d :: ds => (do let env' ← (fun d env => pure (env.set 4 (some d))) d env; (fun ds env => match ds with | [] => pure env | _ => M.fail) ds env') | [] => M.fail) ds env') | [] => M.fail) l env else M.fail | none => M.fail) (seqS (fun env => exB env (do let l ← (do let x ← (getE env 4); let y ← (do let x ← (do let k ← (do let z ← (do let x ← (getE env 3); let y ← (pure (.int 0)); dEq false x y); asB z); if k then (pure (.int 1)) else (pure (.int 2))); let y ← (pure []); pure (x :: y)); pure (x :: y)); d_numbers_of l) fun d => pure (.nx (env.set 5 (some d))))
  (seqS (fun env => exB env (do let x ← (getE env 5); pure (isNon x)) fun c => if c then (fun env => exB env (do let x ← (getE env 3); let y ← (pure (.int 1)); dAdd false x y) fun d => pure (.exn ⟨3, some d⟩ env)) env else (fun env => pure (.nx env)) env)
  (fun env => exB env (do let d ← (getE env 2); lmD d (do let l ← (do let x ← (getE env 5); let y ← (pure []); pure (x :: y)); appD d l)) fun _ => pure (.nx env)))) env)
  (seqS (frzS 2)
  (seqS (fun env => exB env (do let c ← (do let z ← (do let x ← (do let l ← (do let x ← (getE env 2); let y ← (pure []); pure (x :: y)); bLen l); let y ← (pure (.int 0)); dEq false x y); asB z); if c then pure true else (do let z ← (do let x ← (do let x ← (getE env 1); let y ← (do let x ← (pure (.int 1)); dNeg x); dIdx x y); let y ← (pure (.str "")); dEq true x y); asB z)) fun c => if c then (fun env => exB env (do let l ← (do let x ← (getE env 1); let y ← (pure []); pure (x :: y)); bLen l) fun d => pure (.exn ⟨3, some d⟩ env)) env else (fun env => pure (.nx env)) env)
  (fun env => exB env (do let l ← (do let x ← (do let x ← (do let x ← (getE env 2); let y ← (pure (.int 0)); dIdx x y); let y ← (pure (.int 0)); dIdx x y); let y ← (do let x ← (do let l ← (do let x ← (do let x ← (getE env 2); let l ← (do let x ← (pure (.int 1)); let i ← asI x; pure (some i)); let h ← (pure none); dCut false x l h); let y ← (pure []); pure (x :: y)); on1 tupD l); let y ← (pure []); pure (x :: y)); pure (x :: y)); mkI 0 true d_Round_init l) fun d => pure (.ret d))))))))
noncomputable def d_read_round (l : List D) : M D := callB 6 body_read_round l
abbrev s_law_hand : Stmt := top 20
noncomputable def body_law_hand : Eng.Env → M Out := (seqS (fun env => exB env (do let l ← (do let d ← (do let x ← (getE env 0); let l ← (pure none); let h ← (do let x ← (pure (.int 63)); let i ← asI x; pure (some i)); dCut false x l h); itemsD d); lcD false (fun d env => pure (env.set 2 (some d))) (fun _ => pure true) (fun env => do let l ← (do let x ← (do let l ← (do let x ← (getE env 2); let y ← (pure []); pure (x :: y)); on1 intD l); let y ← (pure []); pure (x :: y)); on1 absD l) (wipeE env [2]) l) fun d => pure (.nx (env.set 1 (some d))))
  (fun env => exB env (do let l ← (do let x ← (getE env 1); let y ← (do let x ← (pure (.int 0)); let y ← (do let x ← (pure (.int 0)); let y ← (do let x ← (do let x ← (pure (.int 1503)); let y ← (do let x ← (pure (.int 7)); let y ← (do let l ← (do let x ← (getE env 1); let y ← (pure []); pure (x :: y)); bLen l); dMul false x y); dAdd false x y); let y ← (do let x ← (pure (.int 0)); let y ← (pure []); pure (x :: y)); pure (x :: y)); pure (x :: y)); pure (x :: y)); pure (x :: y)); mkNew true (.lst l)) fun d => pure (.ret d)))
noncomputable def d_law_hand (l : List D) : M D := callB 3 body_law_hand l
abbrev s_law_draw : Stmt := top 21
noncomputable def body_law_draw : Eng.Env → M Out := (seqS (fun env => exB env (do let c ← (do let z ← (do let x ← (do let x ← (getE env 0); let y ← (pure (.int 2)); dIdx x y); let y ← (pure (.int 0)); dEq false x y); asB z); if c then (do let z ← (do let x ← (do let x ← (getE env 0); let y ← (pure (.int 1)); dIdx x y); let y ← (do let l ← (do let x ← (do let x ← (getE env 0); let y ← (pure (.int 0)); dIdx x y); let y ← (pure []); pure (x :: y)); bLen l); dLt x y); asB z) else pure false) fun c => if c then (seqS (fun env => exB env (do let x ← (do let x ← (getE env 0); let y ← (pure (.int 0)); dIdx x y); let y ← (do let x ← (getE env 0); let y ← (pure (.int 1)); dIdx x y); dIdx x y) fun d => pure (.nx (env.set 2 (some d))))
  (seqS (fun env => exB env (do let x ← (do let x ← (getE env 0); let y ← (pure (.int 1)); dIdx x y); let y ← (pure (.int 1)); dAdd false x y) fun d => do let env' ← noX ((fun d env => do let x ← noX (getE env 0); let y ← noX (pure (.int 1)); setD x y d; pure env) d env); pure (.nx env'))
  (seqS (fun env => exB env (do let x ← (do let l ← (do let x ← (do let x ← (do let x ← (do let x ← (do let x ← (getE env 0); let y ← (pure (.int 3)); dIdx x y); let y ← (pure (.int 69621)); dMul false x y); let y ← (do let x ← (getE env 2); let y ← (pure (.int 40692)); dMul false x y); dAdd false x y); let y ← (pure (.int 31)); dAdd false x y); let y ← (pure []); pure (x :: y)); on1 intD l); let y ← (pure (.int 2147483629)); dMod x y) fun d => do let env' ← noX ((fun d env => do let x ← noX (getE env 0); let y ← noX (pure (.int 3)); setD x y d; pure env) d env); pure (.nx env'))
  (fun env => exB env (do let z ← (do let x ← (getE env 2); let y ← (do let x ← (pure (.int 10)); let y ← (pure (.int 18)); dPow x y); dGe x y); asB z) fun c => if c then (fun env => exB env (getE env 2) fun d => do let env' ← noX ((fun d env => do let x ← noX (getE env 0); let y ← noX (pure (.int 2)); setD x y d; pure env) d env); pure (.nx env')) env else (fun env => pure (.nx env)) env)))) env else (fun env => pure (.nx env)) env)
  (seqS (fun env => exB env (do let z ← (do let x ← (do let x ← (getE env 0); let y ← (pure (.int 2)); dIdx x y); let y ← (pure (.int 0)); dGt x y); asB z) fun c => if c then (seqS (fun env => exB env (do let x ← (do let l ← (do let x ← (do let x ← (getE env 0); let y ← (pure (.int 2)); dIdx x y); let y ← (pure []); pure (x :: y)); on1 intD l); let y ← (getE env 1); dMod x y) fun d => pure (.nx (env.set 3 (some d))))
  (seqS (fun env => exB env (do let x ← (do let x ← (getE env 0); let y ← (pure (.int 2)); dIdx x y); let y ← (getE env 1); dDiv x y) fun d => do let env' ← noX ((fun d env => do let x ← noX (getE env 0); let y ← noX (pure (.int 2)); setD x y d; pure env) d env); pure (.nx env'))
  (fun env => exB env (getE env 3) fun d => pure (.ret d)))) env else (fun env => pure (.nx env)) env)
  (seqS (fun env => exB env (do let x ← (do let x ← (getE env 0); let y ← (pure (.int 4)); dIdx x y); let y ← (pure (.int 1)); dAdd false x y) fun d => do let env' ← noX ((fun d env => do let x ← noX (getE env 0); let y ← noX (pure (.int 4)); setD x y d; pure env) d env); pure (.nx env'))
  (seqS (fun env => exB env (do let x ← (do let l ← (do let x ← (do let x ← (do let l ← (do let x ← (do let x ← (do let x ← (getE env 0); let y ← (pure (.int 3)); dIdx x y); let y ← (do let x ← (pure (.int 7919)); let y ← (do let x ← (getE env 0); let y ← (pure (.int 4)); dIdx x y); dMul false x y); dAdd false x y); let y ← (pure []); pure (x :: y)); on1 intD l); let y ← (pure (.int 48271)); dMul false x y); let y ← (pure []); pure (x :: y)); on1 intD l); let y ← (pure (.int 2147483647)); dMod x y) fun d => pure (.nx (env.set 4 (some d))))
  (seqS (fun env => exB env (do let x ← (do let l ← (do let x ← (do let x ← (getE env 4); let y ← (do let x ← (do let x ← (getE env 4); let y ← (pure (.int 1009)); dDiv x y); let y ← (pure (.int 69621)); dAdd false x y); dMul false x y); let y ← (pure []); pure (x :: y)); on1 intD l); let y ← (pure (.int 2147483647)); dMod x y) fun d => pure (.nx (env.set 4 (some d))))
  (seqS (fun env => exB env (do let x ← (do let l ← (do let x ← (do let x ← (getE env 4); let y ← (do let x ← (do let x ← (getE env 4); let y ← (pure (.int 2003)); dDiv x y); let y ← (pure (.int 40014)); dAdd false x y); dMul false x y); let y ← (pure []); pure (x :: y)); on1 intD l); let y ← (pure (.int 2147483563)); dMod x y) fun d => pure (.nx (env.set 4 (some d))))
  (fun env => exB env (do let x ← (do let l ← (do let x ← (do let x ← (getE env 4); let y ← (pure (.int 16)); dDiv x y); let y ← (pure []); pure (x :: y)); on1 intD l); let y ← (getE env 1); dMod x y) fun d => pure (.ret d))))))))
noncomputable def d_law_draw (l : List D) : M D := callB 5 body_law_draw l
abbrev s_law_any : Stmt := top 22
noncomputable def body_law_any : Eng.Env → M Out := (fun env => exB env (do let x ← (getE env 1); let y ← (do let l ← (do let x ← (getE env 0); let y ← (do let x ← (do let l ← (do let x ← (getE env 1); let y ← (pure []); pure (x :: y)); bLen l); let y ← (pure []); pure (x :: y)); pure (x :: y)); d_law_draw l); dIdx x y) fun d => pure (.ret d))
noncomputable def d_law_any (l : List D) : M D := callB 2 body_law_any l
abbrev s_law_some_round : Stmt := top 23
noncomputable def body_law_some_round : Eng.Env → M Out := (seqS (fun env => exB env (do let x ← (do let x ← (pure (.int 1)); let y ← (do let l ← (do let x ← (getE env 0); let y ← (do let x ← (do let l ← (do let x ← (getE env 0); let y ← (do let x ← (do let l ← (do let x ← (pure (.int 2)); let y ← (do let x ← (pure (.int 5)); let y ← (do let x ← (pure (.int 12)); let y ← (do let x ← (pure (.int 24)); let y ← (pure []); pure (x :: y)); pure (x :: y)); pure (x :: y)); pure (x :: y)); mkNew false (.lst l)); let y ← (pure []); pure (x :: y)); pure (x :: y)); d_law_any l); let y ← (pure []); pure (x :: y)); pure (x :: y)); d_law_draw l); dAdd false x y); let y ← (do let x ← (do let l ← (do let x ← (getE env 0); let y ← (do let x ← (pure (.int 5)); let y ← (pure []); pure (x :: y)); pure (x :: y)); d_law_draw l); let y ← (pure []); pure (x :: y)); pure (x :: y)) fun l => match l with | [d, e] => pure (.nx ((env.set 1 (some d)).set 2 (some e))) | _ => M.fail)
  (seqS (fun env => exB env (do let l ← (pure []); mkNew true (.lst l)) fun d => pure (.nx (env.set 3 (some d))))
  (seqS (fun env => exB env (do let l ← (do let x ← (getE env 1); let y ← (pure []); pure (x :: y)); rng1D l) fun l => forD l (fun d env => pure (env.set 4 (some d))) (fun env => exB env (do let l ← (do let x ← (do let x ← (getE env 4); let y ← (pure (.int 1)); dAdd false x y); let y ← (do let x ← (getE env 1); let y ← (pure []); pure (x :: y)); pure (x :: y)); rng2D l) fun l => forD l (fun d env => pure (env.set 5 (some d))) (fun env => exB env (do let z ← (do let x ← (do let l ← (do let x ← (getE env 0); let y ← (do let x ← (pure (.int 4)); let y ← (pure []); pure (x :: y)); pure (x :: y)); d_law_draw l); let y ← (getE env 2); dLt x y); asB z) fun c => if c then (fun env => exB env (do let d ← (getE env 3); lmD d (do let l ← (do let x ← (do let l ← (do let x ← (getE env 0); let y ← (do let x ← (do let l ← (do let x ← (do let l ← (do let x ← (getE env 4); let y ← (do let x ← (getE env 5); let y ← (pure []); pure (x :: y)); pure (x :: y)); pure (.tup l)); let y ← (do let x ← (do let l ← (do let x ← (getE env 5); let y ← (do let x ← (getE env 4); let y ← (pure []); pure (x :: y)); pure (x :: y)); pure (.tup l)); let y ← (pure []); pure (x :: y)); pure (x :: y)); mkNew false (.lst l)); let y ← (pure []); pure (x :: y)); pure (x :: y)); d_law_any l); let y ← (pure []); pure (x :: y)); appD d l)) fun _ => pure (.nx env)) env else (fun env => pure (.nx env)) env) env) env)
  (seqS (frzS 3)
  (fun env => exB env (do let l ← (do let x ← (getE env 1); let y ← (do let x ← (do let l ← (do let x ← (do let l ← (do let x ← (getE env 3); let y ← (pure []); pure (x :: y)); on1 (sortD false) l); let y ← (pure []); pure (x :: y)); on1 tupD l); let y ← (pure []); pure (x :: y)); pure (x :: y)); pure (.tup l)) fun d => pure (.ret d))))))
noncomputable def d_law_some_round (l : List D) : M D := callB 6 body_law_some_round l
abbrev s_law_text : Stmt := top 24
noncomputable def body_law_text : Eng.Env → M Out := (seqS (fun env => exB env (do let x ← (do let l ← (do let x ← (do let l ← (do let x ← (getE env 0); let y ← (pure []); pure (x :: y)); on1 strD l); let y ← (pure []); pure (x :: y)); mkNew false (.lst l)); let y ← (do let l ← (do let d ← (getE env 1); itemsD d); lcD false (fun d env => match viewT d with | some l => if l.length = 2 then (fun ds env => match ds with | d :: ds => (do let env' ← (fun d env => pure (env.set 3 (some d))) d env; (fun ds env => match ds with | d :: ds => (do let env' ← (fun d env => pure (env.set 4 (some d))) d env; (fun ds env => match ds with | [] => pure env | _ => M.fail) ds env') | [] => M.fail) ds env') | [] => M.fail) l env else M.fail | none => M.fail) (fun _ => pure true) (fun env => do let x ← (do let x ← (do let l ← (do let x ← (getE env 3); let y ← (pure []); pure (x :: y)); on1 strD l); let y ← (pure (.str " ")); dAdd false x y); let y ← (do let l ← (do let x ← (getE env 4); let y ← (pure []); pure (x :: y)); on1 strD l); dAdd false x y) (wipeE env [3, 4]) l); dAdd false x y) fun d => pure (.nx (env.set 2 (some d))))
  (fun env => exB env (do let d ← (pure (.str "")); tmD isStr d (do let l ← (do let x ← (do let l ← (do let d ← (getE env 2); itemsD d); lcD false (fun d env => pure (env.set 5 (some d))) (fun _ => pure true) (fun env => do let x ← (getE env 5); let y ← (pure (.str "\n")); dAdd false x y) (wipeE env [5]) l); let y ← (pure []); pure (x :: y)); joinD d l)) fun d => pure (.ret d)))
noncomputable def d_law_text (l : List D) : M D := callB 6 body_law_text l
abbrev s_law_number : Stmt := top 25
noncomputable def body_law_number : Eng.Env → M Out := (seqS (fun env => exB env (do let c ← (do let c ← (do let v ← (do let x ← (pure (.int 1)); let y ← (do let l ← (do let x ← (getE env 0); let y ← (pure []); pure (x :: y)); bLen l); let z ← dLe x y; let k ← asB z; if k then (do let u ← (pure (.int 2)); dLe y u) else pure (.bl false)); asB v); pure (!c)); if c then pure true else (do let c ← (do let x ← (do let l ← (do let x ← (do let l ← (do let d ← (getE env 0); itemsD d); lcD false (fun d env => pure (env.set 1 (some d))) (fun _ => pure true) (fun env => do let x ← (getE env 1); let y ← (pure (.str "0123456789")); dIn false x y) (wipeE env [1]) l); let y ← (pure []); pure (x :: y)); on1 allD l); asB x); pure (!c))) fun c => if c then (fun env => exB env (pure .non) fun d => pure (.ret d)) env else (fun env => pure (.nx env)) env)
  (fun env => exB env (do let k ← (do let c ← (do let z ← (do let x ← (do let l ← (do let x ← (getE env 0); let y ← (pure []); pure (x :: y)); bLen l); let y ← (pure (.int 2)); dEq false x y); asB z); if c then (do let z ← (do let x ← (do let x ← (getE env 0); let y ← (pure (.int 0)); dIdx x y); let y ← (pure (.str "0")); dEq false x y); asB z) else pure false); if k then (pure .non) else (do let l ← (do let x ← (getE env 0); let y ← (pure []); pure (x :: y)); on1 intD l)) fun d => pure (.ret d)))
noncomputable def d_law_number (l : List D) : M D := callB 2 body_law_number l
abbrev s_law_numbers : Stmt := top 26
noncomputable def body_law_numbers : Eng.Env → M Out := (seqS (fun env => exB env (do let d ← (getE env 0); tmD isStr d (do let l ← (do let x ← (pure (.str " ")); let y ← (pure []); pure (x :: y)); splitD false d l)) fun d => pure (.nx (env.set 2 (some d))))
  (seqS (fun env => exB env (do let l ← (do let x ← (do let l ← (do let d ← (getE env 2); itemsD d); lcD false (fun d env => pure (env.set 4 (some d))) (fun _ => pure true) (fun env => do let l ← (do let x ← (getE env 4); let y ← (pure []); pure (x :: y)); d_law_number l) (wipeE env [4]) l); let y ← (pure []); pure (x :: y)); on1 tupD l) fun d => pure (.nx (env.set 3 (some d))))
  (fun env => exB env (do let k ← (do let c ← (do let z ← (do let x ← (do let l ← (do let x ← (getE env 2); let y ← (pure []); pure (x :: y)); bLen l); let y ← (getE env 1); dEq true x y); asB z); if c then pure true else (do let z ← (do let x ← (pure .non); let y ← (getE env 3); dIn false x y); asB z)); if k then (pure .non) else (getE env 3)) fun d => pure (.ret d))))
noncomputable def d_law_numbers (l : List D) : M D := callB 5 body_law_numbers l
abbrev s_law_bad_place : Stmt := top 27
noncomputable def body_law_bad_place : Eng.Env → M Out := (seqS (fun env => exB env (do let c ← (do let v ← (do let x ← (pure (.int 1)); let y ← (getE env 0); let z ← dLe x y; let k ← asB z; if k then (do let u ← (pure (.int 24)); dLe y u) else pure (.bl false)); asB v); pure (!c)) fun c => if c then (fun env => exB env (do let x ← (pure (.int 1)); dNeg x) fun d => pure (.ret d)) env else (fun env => pure (.nx env)) env)
  (seqS (fun env => exB env (do let d ← (getE env 1); let l ← seqD d; pure (enumL 0 l)) fun l => forD l (fun d env => match viewT d with | some l => if l.length = 2 then (fun ds env => match ds with | d :: ds => (do let env' ← (fun d env => pure (env.set 2 (some d))) d env; (fun ds env => match ds with | d :: ds => (do let env' ← (fun d env => match viewT d with | some l => if l.length = 2 then (fun ds env => match ds with | d :: ds => (do let env' ← (fun d env => pure (env.set 3 (some d))) d env; (fun ds env => match ds with | d :: ds => (do let env' ← (fun d env => pure (env.set 4 (some d))) d env; (fun ds env => match ds with | [] => pure env | _ => M.fail) ds env') | [] => M.fail) ds env') | [] => M.fail) l env else M.fail | none => M.fail) d env; (fun ds env => match ds with | [] => pure env | _ => M.fail) ds env') | [] => M.fail) ds env') | [] => M.fail) l env else M.fail | none => M.fail) (seqS (fun env => exB env (do let c ← (do let z ← (do let x ← (getE env 3); let y ← (getE env 4); dEq false x y); asB z); if c then pure true else (do let c ← (do let z ← (do let x ← (do let l ← (do let x ← (getE env 3); let y ← (do let x ← (getE env 4); let y ← (pure []); pure (x :: y)); pure (x :: y)); on2 max2 l); let y ← (getE env 0); dGe x y); asB z); if c then pure true else (do let z ← (do let x ← (do let l ← (do let x ← (getE env 4); let y ← (do let x ← (getE env 3); let y ← (pure []); pure (x :: y)); pure (x :: y)); pure (.tup l)); let y ← (do let x ← (getE env 1); let l ← (pure none); let h ← (do let x ← (getE env 2); let i ← asI x; pure (some i)); dCut false x l h); dIn false x y); asB z))) fun c => if c then (fun env => exB env (getE env 2) fun d => pure (.ret d)) env else (fun env => pure (.nx env)) env)
  (fun env => exB env (do let c ← (do let z ← (do let x ← (getE env 2); let y ← (pure (.int 0)); dGt x y); asB z); if c then (do let z ← (do let x ← (do let x ← (getE env 1); let y ← (do let x ← (getE env 2); let y ← (pure (.int 1)); dSub x y); dIdx x y); let y ← (do let l ← (do let x ← (getE env 3); let y ← (do let x ← (getE env 4); let y ← (pure []); pure (x :: y)); pure (x :: y)); pure (.tup l)); dGe x y); asB z) else pure false) fun c => if c then (fun env => exB env (getE env 2) fun d => pure (.ret d)) env else (fun env => pure (.nx env)) env)) env)
  (fun env => exB env (pure .non) fun d => pure (.ret d))))
noncomputable def d_law_bad_place (l : List D) : M D := callB 5 body_law_bad_place l
abbrev s_law_read : Stmt := top 28
noncomputable def body_law_read : Eng.Env → M Out := (seqS (fun env => exB env (do let c ← (do let x ← (do let d ← (getE env 0); isiD 1 [.bi "str"] d); asB x); pure (!c)) fun c => if c then (fun env => exB env (do let l ← (do let x ← (pure (.str "text")); let y ← (do let x ← (pure (.int 0)); let y ← (pure []); pure (x :: y)); pure (x :: y)); pure (.tup l)) fun d => pure (.ret d)) env else (fun env => pure (.nx env)) env)
  (seqS (fun env => exB env (do let x ← (do let d ← (getE env 0); tmD isStr d (do let l ← (do let x ← (pure (.str "\n")); let y ← (pure []); pure (x :: y)); splitD false d l)); let y ← (do let x ← (do let l ← (pure []); mkNew true (.lst l)); let y ← (pure []); pure (x :: y)); pure (x :: y)) fun l => match l with | [d, e] => pure (.nx ((env.set 1 (some d)).set 2 (some e))) | _ => M.fail)
  (seqS (fun env => exB env (do let d ← (do let x ← (getE env 1); let l ← (pure none); let h ← (do let x ← (do let x ← (pure (.int 1)); dNeg x); let i ← asI x; pure (some i)); dCut false x l h); let l ← seqD d; pure (enumL 0 l)) fun l => forD l (fun d env => match viewT d with | some l => if l.length = 2 then (fun ds env => match ds with | d :: ds => (do let env' ← (fun d env => pure (env.set 3 (some d))) d env; (fun ds env => match ds with | d :: ds => (do let env' ← (fun d env => pure (env.set 4 (some d))) d env; (fun ds env => match ds with | [] => pure env | _ => M.fail) ds env') | [] => M.fail) ds env') | [] => M.fail) l env else M.fail | none => M.fail) (seqS (fun env => exB env (do let d ← (getE env 2); lmD d (do let l ← (do let x ← (do let l ← (do let x ← (getE env 4); let y ← (do let x ← (do let k ← (do let z ← (do let x ← (getE env 3); let y ← (pure (.int 0)); dEq false x y); asB z); if k then (pure (.int 1)) else (pure (.int 2))); let y ← (pure []); pure (x :: y)); pure (x :: y)); d_law_numbers l); let y ← (pure []); pure (x :: y)); appD d l)) fun _ => pure (.nx env))
  (fun env => exB env (do let x ← (do let x ← (getE env 2); let y ← (do let x ← (pure (.int 1)); dNeg x); dIdx x y); pure (isNon x)) fun c => if c then (fun env => exB env (do let l ← (do let x ← (pure (.str "text")); let y ← (do let x ← (do let x ← (getE env 3); let y ← (pure (.int 1)); dAdd false x y); let y ← (pure []); pure (x :: y)); pure (x :: y)); pure (.tup l)) fun d => pure (.ret d)) env else (fun env => pure (.nx env)) env)) env)
  (seqS (frzS 2)
  (seqS (fun env => exB env (do let c ← (do let z ← (do let x ← (do let x ← (getE env 1); let y ← (do let x ← (pure (.int 1)); dNeg x); dIdx x y); let y ← (pure (.str "")); dEq true x y); asB z); if c then pure true else (do let z ← (do let x ← (do let l ← (do let x ← (getE env 2); let y ← (pure []); pure (x :: y)); bLen l); let y ← (pure (.int 0)); dEq false x y); asB z)) fun c => if c then (fun env => exB env (do let l ← (do let x ← (pure (.str "text")); let y ← (do let x ← (do let l ← (do let x ← (getE env 1); let y ← (pure []); pure (x :: y)); bLen l); let y ← (pure []); pure (x :: y)); pure (x :: y)); pure (.tup l)) fun d => pure (.ret d)) env else (fun env => pure (.nx env)) env)
  (seqS (fun env => exB env (do let x ← (do let x ← (do let x ← (getE env 2); let y ← (pure (.int 0)); dIdx x y); let y ← (pure (.int 0)); dIdx x y); let y ← (do let x ← (do let l ← (do let x ← (do let x ← (getE env 2); let l ← (do let x ← (pure (.int 1)); let i ← asI x; pure (some i)); let h ← (pure none); dCut false x l h); let y ← (pure []); pure (x :: y)); on1 tupD l); let y ← (pure []); pure (x :: y)); pure (x :: y)) fun l => match l with | [d, e] => pure (.nx ((env.set 5 (some d)).set 6 (some e))) | _ => M.fail)
  (seqS (fun env => exB env (do let l ← (do let x ← (getE env 5); let y ← (do let x ← (getE env 6); let y ← (pure []); pure (x :: y)); pure (x :: y)); d_law_bad_place l) fun d => pure (.nx (env.set 7 (some d))))
  (fun env => exB env (do let k ← (do let x ← (getE env 7); pure (isNon x)); if k then (do let l ← (do let x ← (pure (.str "round")); let y ← (do let x ← (getE env 5); let y ← (do let x ← (getE env 6); let y ← (pure []); pure (x :: y)); pure (x :: y)); pure (x :: y)); pure (.tup l)) else (do let l ← (do let x ← (pure (.str "place")); let y ← (do let x ← (getE env 7); let y ← (pure []); pure (x :: y)); pure (x :: y)); pure (.tup l))) fun d => pure (.ret d)))))))))
noncomputable def d_law_read (l : List D) : M D := callB 8 body_law_read l
abbrev s_law_said : Stmt := top 29
noncomputable def body_law_said (n : Nat) (KK : M D) : Eng.Env → M Out := (seqS (fun env => exB env (do let l ← (do let x ← (pure (.str "other")); let y ← (do let x ← (pure (.int 0)); let y ← (pure []); pure (x :: y)); pure (x :: y)); pure (.tup l)) fun d => pure (.nx (env.set 1 (some d))))
  (seqS (tryS okX sb_RoundError 3 (seqS (fun env => exB env (do let d ← getE env 0; lamK n d KK) fun d => pure (.nx (env.set 2 (some d))))
  (fun env => exB env (do let x ← (do let d ← (getE env 2); isiD 1 [.own 0] d); asB x) fun c => if c then (fun env => exB env (do let l ← (do let x ← (pure (.str "round")); let y ← (do let x ← (do let x ← (getE env 2); attrD 1 fls "many" x); let y ← (do let x ← (do let x ← (getE env 2); attrD 1 fls "told" x); let y ← (pure []); pure (x :: y)); pure (x :: y)); pure (x :: y)); pure (.tup l)) fun d => pure (.nx (env.set 1 (some d)))) env else (fun env => pure (.nx env)) env)) (fun env => exB env (do let c ← (do let x ← (do let d ← (getE env 3); isXD okX sb_ValueError d); asB x); if c then (do let z ← (do let x ← (do let d ← (getE env 3); isXD okX sb_BadText d); let y ← (do let d ← (getE env 3); isXD okX sb_BadRound d); dEq true x y); asB z) else pure false) fun c => if c then (fun env => exB env (do let k ← (do let x ← (do let d ← (getE env 3); isXD okX sb_BadText d); asB x); if k then (do let l ← (do let x ← (pure (.str "text")); let y ← (do let x ← (do let d ← (getE env 3); xfD ok_line d); let y ← (pure []); pure (x :: y)); pure (x :: y)); pure (.tup l)) else (do let l ← (do let x ← (pure (.str "place")); let y ← (do let x ← (do let d ← (getE env 3); xfD ok_place d); let y ← (pure []); pure (x :: y)); pure (x :: y)); pure (.tup l))) fun d => pure (.nx (env.set 1 (some d)))) env else (fun env => pure (.nx env)) env))
  (fun env => exB env (getE env 1) fun d => pure (.ret d))))
abbrev s_law_is_read : Stmt := top 30
def q_law_is_read : Str := ("_law_is_read" : Str) ++ ".<locals>." ++ "<lambda>"
noncomputable def body_law_is_read : Eng.Env → M Out := (seqS (fun env => exB env (do let l ← (do let x ← (getE env 0); let y ← (pure []); pure (x :: y)); d_law_read l) fun d => pure (.nx (env.set 1 (some d))))
  (seqS (fun env => exB env (do let z ← (do let x ← (do let l ← (do let x ← (lamCall 0 q_law_is_read 4 body_law_said (do let l ← (do let x ← (getE env 0); let y ← (pure []); pure (x :: y)); d_read_round l)); let y ← (pure []); pure (x :: y)); on1 reprD l); let y ← (do let l ← (do let x ← (getE env 1); let y ← (pure []); pure (x :: y)); on1 reprD l); dEq true x y); asB z) fun c => if c then (fun env => exB env (pure (.bl false)) fun d => pure (.ret d)) env else (fun env => pure (.nx env)) env)
  (seqS (fun env => exB env (do let z ← (do let x ← (do let x ← (getE env 1); let y ← (pure (.int 0)); dIdx x y); let y ← (pure (.str "place")); dEq false x y); asB z) fun c => if c then (seqS (fun env => exB env (do let l ← (do let d ← (do let x ← (do let d ← (getE env 0); tmD isStr d (do let l ← (do let x ← (pure (.str "\n")); let y ← (pure []); pure (x :: y)); splitD false d l)); let l ← (pure none); let h ← (do let x ← (do let x ← (pure (.int 1)); dNeg x); let i ← asI x; pure (some i)); dCut false x l h); itemsD d); lcD false (fun d env => pure (env.set 4 (some d))) (fun _ => pure true) (fun env => do let l ← (do let x ← (do let l ← (do let d ← (do let d ← (getE env 4); tmD isStr d (do let l ← (do let x ← (pure (.str " ")); let y ← (pure []); pure (x :: y)); splitD false d l)); itemsD d); lcD false (fun d env => pure (env.set 5 (some d))) (fun _ => pure true) (fun env => do let l ← (do let x ← (getE env 5); let y ← (pure []); pure (x :: y)); on1 intD l) (wipeE env [5]) l); let y ← (pure []); pure (x :: y)); on1 tupD l) (wipeE env [4]) l) fun d => pure (.nx (env.set 2 (some d))))
  (seqS (fun env => exB env (lamCall 0 q_law_is_read 4 body_law_said (do let l ← (do let x ← (do let x ← (do let x ← (getE env 2); let y ← (pure (.int 0)); dIdx x y); let y ← (pure (.int 0)); dIdx x y); let y ← (do let x ← (do let l ← (do let x ← (do let x ← (getE env 2); let l ← (do let x ← (pure (.int 1)); let i ← asI x; pure (some i)); let h ← (pure none); dCut false x l h); let y ← (pure []); pure (x :: y)); on1 tupD l); let y ← (pure []); pure (x :: y)); pure (x :: y)); mkI 0 true d_Round_init l)) fun d => pure (.nx (env.set 3 (some d))))
  (fun env => exB env (do let x ← (do let l ← (do let x ← (getE env 3); let y ← (pure []); pure (x :: y)); on1 reprD l); let y ← (do let l ← (do let x ← (getE env 1); let y ← (pure []); pure (x :: y)); on1 reprD l); dEq false x y) fun d => pure (.ret d)))) env else (fun env => pure (.nx env)) env)
  (seqS (fun env => exB env (do let z ← (do let x ← (do let x ← (getE env 1); let y ← (pure (.int 0)); dIdx x y); let y ← (pure (.str "text")); dEq false x y); asB z) fun c => if c then (fun env => exB env (pure (.bl true)) fun d => pure (.ret d)) env else (fun env => pure (.nx env)) env)
  (fun env => exB env (do let x ← (do let x ← (do let l ← (do let x ← (do let l ← (do let x ← (getE env 0); let y ← (pure []); pure (x :: y)); d_read_round l); let y ← (pure []); pure (x :: y)); d_round_text l); let y ← (getE env 0); dEq false x y); let c ← asB x; if c then (do let x ← (do let l ← (do let x ← (getE env 0); let y ← (pure []); pure (x :: y)); d_read_round l); let y ← (do let l ← (do let x ← (do let x ← (getE env 1); let y ← (pure (.int 1)); dIdx x y); let y ← (do let x ← (do let x ← (getE env 1); let y ← (pure (.int 2)); dIdx x y); let y ← (pure []); pure (x :: y)); pure (x :: y)); mkI 0 true d_Round_init l); eqO 0 1 d_Round_eq false (dEq false) x y) else pure (.bl false)) fun d => pure (.ret d))))))
noncomputable def d_law_is_read (l : List D) : M D := callB 6 body_law_is_read l
abbrev s_law_bent : Stmt := top 31
noncomputable def body_law_bent : Eng.Env → M Out := (seqS (fun env => exB env (do let x ← (do let l ← (do let x ← (getE env 0); let y ← (do let x ← (pure (.int 11)); let y ← (pure []); pure (x :: y)); pure (x :: y)); d_law_draw l); let y ← (do let x ← (do let l ← (do let x ← (getE env 0); let y ← (do let x ← (do let x ← (do let l ← (do let x ← (getE env 1); let y ← (pure []); pure (x :: y)); bLen l); let y ← (pure (.int 1)); dAdd false x y); let y ← (pure []); pure (x :: y)); pure (x :: y)); d_law_draw l); let y ← (pure []); pure (x :: y)); pure (x :: y)) fun l => match l with | [d, e] => pure (.nx ((env.set 2 (some d)).set 3 (some e))) | _ => M.fail)
  (seqS (fun env => exB env (do let x ← (do let l ← (do let x ← (getE env 0); let y ← (do let x ← (do let l ← (do let x ← (pure (.str "0123456789 -\nax+")); let y ← (pure []); pure (x :: y)); on1 (lsgD false) l); let y ← (pure []); pure (x :: y)); pure (x :: y)); d_law_any l); let y ← (do let x ← (do let d ← (getE env 1); tmD isStr d (do let l ← (do let x ← (pure (.str "\n")); let y ← (pure []); pure (x :: y)); splitD true d l)); let y ← (pure []); pure (x :: y)); pure (x :: y)) fun l => match l with | [d, e] => pure (.nx ((env.set 4 (some d)).set 5 (some e))) | _ => M.fail)
  (seqS (fun env => exB env (do let l ← (do let x ← (getE env 0); let y ← (do let x ← (do let l ← (do let x ← (getE env 5); let y ← (pure []); pure (x :: y)); bLen l); let y ← (pure []); pure (x :: y)); pure (x :: y)); d_law_draw l) fun d => pure (.nx (env.set 6 (some d))))
  (seqS (fun env => exB env (do let z ← (do let x ← (getE env 2); let y ← (pure (.int 3)); dLt x y); asB z) fun c => if c then (fun env => exB env (do let x ← (do let x ← (do let x ← (getE env 1); let l ← (pure none); let h ← (do let x ← (getE env 3); let i ← asI x; pure (some i)); dCut false x l h); let y ← (getE env 4); dAdd false x y); let y ← (do let x ← (getE env 1); let l ← (do let x ← (do let x ← (getE env 3); let y ← (do let l ← (do let x ← (do let x ← (getE env 2); let y ← (pure (.int 0)); dGt x y); let y ← (pure []); pure (x :: y)); on1 intD l); dAdd false x y); let i ← asI x; pure (some i)); let h ← (pure none); dCut false x l h); dAdd false x y) fun d => pure (.ret d)) env else (fun env => pure (.nx env)) env)
  (seqS (fun env => exB env (do let z ← (do let x ← (getE env 2); let y ← (pure (.int 3)); dEq false x y); asB z) fun c => if c then (fun env => exB env (do let x ← (do let x ← (getE env 1); let l ← (pure none); let h ← (do let x ← (getE env 3); let i ← asI x; pure (some i)); dCut false x l h); let y ← (do let x ← (getE env 1); let l ← (do let x ← (do let x ← (getE env 3); let y ← (pure (.int 1)); dAdd false x y); let i ← asI x; pure (some i)); let h ← (pure none); dCut false x l h); dAdd false x y) fun d => pure (.ret d)) env else (fun env => pure (.nx env)) env)
  (seqS (fun env => exB env (do let d ← (do let x ← (getE env 5); let y ← (getE env 6); dIdx x y); tmD isStr d (do let l ← (do let x ← (pure (.str " ")); let y ← (pure []); pure (x :: y)); splitD false d l)) fun d => pure (.nx (env.set 7 (some d))))
  (seqS (fun env => exB env (do let l ← (do let x ← (getE env 0); let y ← (do let x ← (do let l ← (do let x ← (getE env 7); let y ← (pure []); pure (x :: y)); bLen l); let y ← (pure []); pure (x :: y)); pure (x :: y)); d_law_draw l) fun d => pure (.nx (env.set 8 (some d))))
  (seqS (fun env => exB env (do let l ← (do let x ← (pure (.str "00")); let y ← (do let x ← (pure (.str "01")); let y ← (do let x ← (pure (.str "0")); let y ← (do let x ← (pure (.str "1")); let y ← (do let x ← (pure (.str "2")); let y ← (do let x ← (pure (.str "23")); let y ← (do let x ← (pure (.str "24")); let y ← (do let x ← (pure (.str "25")); let y ← (do let x ← (pure (.str "99")); let y ← (do let x ← (pure (.str "100")); let y ← (do let x ← (pure (.str "-")); let y ← (do let x ← (pure (.str "")); let y ← (do let x ← (pure (.str "-1")); let y ← (do let x ← (pure (.str "+1")); let y ← (do let x ← (do let l ← (do let x ← (getE env 6); let y ← (pure []); pure (x :: y)); on1 strD l); let y ← (pure []); pure (x :: y)); pure (x :: y)); pure (x :: y)); pure (x :: y)); pure (x :: y)); pure (x :: y)); pure (x :: y)); pure (x :: y)); pure (x :: y)); pure (x :: y)); pure (x :: y)); pure (x :: y)); pure (x :: y)); pure (x :: y)); pure (x :: y)); mkNew false (.lst l)) fun d => pure (.nx (env.set 9 (some d))))
  (seqS (fun env => exB env (do let z ← (do let x ← (getE env 2); let y ← (pure (.int 7)); dLt x y); asB z) fun c => if c then (seqS (fun env => exB env (do let d ← (pure (.str " ")); tmD isStr d (do let l ← (do let x ← (do let x ← (do let x ← (do let x ← (getE env 7); let l ← (pure none); let h ← (do let x ← (getE env 8); let i ← asI x; pure (some i)); dCut false x l h); let y ← (do let l ← (do let x ← (do let l ← (do let x ← (getE env 0); let y ← (do let x ← (getE env 9); let y ← (pure []); pure (x :: y)); pure (x :: y)); d_law_any l); let y ← (pure []); pure (x :: y)); mkNew false (.lst l)); dAdd false x y); let y ← (do let x ← (getE env 7); let l ← (do let x ← (do let x ← (getE env 8); let y ← (do let l ← (do let x ← (do let x ← (getE env 2); let y ← (pure (.int 4)); dGt x y); let y ← (pure []); pure (x :: y)); on1 intD l); dAdd false x y); let i ← asI x; pure (some i)); let h ← (pure none); dCut false x l h); dAdd false x y); let y ← (pure []); pure (x :: y)); joinD d l)) fun d => do let env' ← noX ((fun d env => do let x ← noX (getE env 5); let y ← noX (getE env 6); setD x y d; pure env) d env); pure (.nx env'))
  (fun env => exB env (do let d ← (pure (.str "\n")); tmD isStr d (do let l ← (do let x ← (getE env 5); let y ← (pure []); pure (x :: y)); joinD d l)) fun d => pure (.ret d))) env else (fun env => pure (.nx env)) env)
  (seqS (fun env => exB env (do let l ← (do let x ← (getE env 0); let y ← (do let x ← (do let l ← (do let x ← (getE env 5); let y ← (pure []); pure (x :: y)); bLen l); let y ← (pure []); pure (x :: y)); pure (x :: y)); d_law_draw l) fun d => pure (.nx (env.set 10 (some d))))
  (seqS (fun env => exB env (do let z ← (do let x ← (getE env 2); let y ← (pure (.int 7)); dEq false x y); asB z) fun c => if c then (seqS (fun env => exB env (do let l ← (do let x ← (do let x ← (getE env 5); let y ← (getE env 10); dIdx x y); let y ← (do let x ← (do let x ← (getE env 5); let y ← (getE env 6); dIdx x y); let y ← (pure []); pure (x :: y)); pure (x :: y)); pure (.tup l)) fun d => do let env' ← noX ((fun d env => match viewT d with | some l => if l.length = 2 then (fun ds env => match ds with | d :: ds => (do let env' ← (fun d env => do let x ← noX (getE env 5); let y ← noX (getE env 6); setD x y d; pure env) d env; (fun ds env => match ds with | d :: ds => (do let env' ← (fun d env => do let x ← noX (getE env 5); let y ← noX (getE env 10); setD x y d; pure env) d env; (fun ds env => match ds with | [] => pure env | _ => M.fail) ds env') | [] => M.fail) ds env') | [] => M.fail) l env else M.fail | none => M.fail) d env); pure (.nx env'))
  (fun env => exB env (do let d ← (pure (.str "\n")); tmD isStr d (do let l ← (do let x ← (getE env 5); let y ← (pure []); pure (x :: y)); joinD d l)) fun d => pure (.ret d))) env else (fun env => pure (.nx env)) env)
  (seqS (fun env => exB env (do let z ← (do let x ← (getE env 2); let y ← (pure (.int 8)); dEq false x y); asB z) fun c => if c then (seqS (fun env => exB env (do let d ← (pure (.str " ")); tmD isStr d (do let l ← (do let x ← (do let x ← (getE env 7); dRev false x); let y ← (pure []); pure (x :: y)); joinD d l)) fun d => do let env' ← noX ((fun d env => do let x ← noX (getE env 5); let y ← noX (getE env 6); setD x y d; pure env) d env); pure (.nx env'))
  (fun env => exB env (do let d ← (pure (.str "\n")); tmD isStr d (do let l ← (do let x ← (getE env 5); let y ← (pure []); pure (x :: y)); joinD d l)) fun d => pure (.ret d))) env else (fun env => pure (.nx env)) env)
  (seqS (frzS 5)
  (seqS (fun env => exB env (do let x ← (do let l ← (do let x ← (do let l ← (do let x ← (getE env 0); let y ← (do let x ← (do let l ← (do let x ← (pure (.str "0 1")); let y ← (do let x ← (pure (.str "")); let y ← (do let x ← (pure (.str "1 0")); let y ← (do let x ← (do let x ← (getE env 5); let y ← (getE env 10); dIdx x y); let y ← (do let x ← (pure (.str " ")); let y ← (do let x ← (pure (.str "0 0")); let y ← (pure []); pure (x :: y)); pure (x :: y)); pure (x :: y)); pure (x :: y)); pure (x :: y)); pure (x :: y)); mkNew false (.lst l)); let y ← (pure []); pure (x :: y)); pure (x :: y)); d_law_any l); let y ← (pure []); pure (x :: y)); mkNew false (.lst l)); let y ← (do let l ← (do let x ← (do let x ← (getE env 2); let y ← (pure (.int 9)); dEq false x y); let y ← (pure []); pure (x :: y)); on1 intD l); dMul false x y) fun d => pure (.nx (env.set 11 (some d))))
  (fun env => exB env (do let d ← (pure (.str "\n")); tmD isStr d (do let l ← (do let x ← (do let x ← (do let x ← (do let x ← (getE env 5); let l ← (pure none); let h ← (do let x ← (getE env 6); let i ← asI x; pure (some i)); dCut false x l h); let y ← (getE env 11); dAdd false x y); let y ← (do let x ← (getE env 5); let l ← (do let x ← (do let x ← (getE env 6); let y ← (pure (.int 1)); dAdd false x y); let i ← asI x; pure (some i)); let h ← (pure none); dCut false x l h); dAdd false x y); let y ← (pure []); pure (x :: y)); joinD d l)) fun d => pure (.ret d))))))))))))))))
noncomputable def d_law_bent (l : List D) : M D := callB 12 body_law_bent l
abbrev s_law_edges : Stmt := top 32
noncomputable def body_law_edges : Eng.Env → M Out := (seqS (fun env => exB env (do let l ← (do let x ← (pure (.str "")); let y ← (do let x ← (pure (.str "\n")); let y ← (do let x ← (pure (.str "1")); let y ← (do let x ← (pure (.str "1\n")); let y ← (do let x ← (pure (.str "0\n")); let y ← (do let x ← (pure (.str "24\n")); let y ← (do let x ← (pure (.str "25\n")); let y ← (do let x ← (pure (.str "99\n")); let y ← (do let x ← (pure (.str "100\n")); let y ← (do let x ← (pure (.str "01\n")); let y ← (do let x ← (pure (.str "2\n0 1\n")); let y ← (do let x ← (pure (.str "2\n0 1")); let y ← (pure []); pure (x :: y)); pure (x :: y)); pure (x :: y)); pure (x :: y)); pure (x :: y)); pure (x :: y)); pure (x :: y)); pure (x :: y)); pure (x :: y)); pure (x :: y)); pure (x :: y)); pure (x :: y)); mkNew false (.lst l)) fun d => pure (.nx (env.set 0 (some d))))
  (seqS (fun env => exB env (do let x ← (getE env 0); let y ← (do let l ← (do let x ← (pure (.str "2\n1 0\n")); let y ← (do let x ← (pure (.str "2\n0 0\n")); let y ← (do let x ← (pure (.str "2\n0 2\n")); let y ← (do let x ← (pure (.str "2\n0 1\n0 1\n")); let y ← (do let x ← (pure (.str "2\n0 1\n1 0\n")); let y ← (do let x ← (pure (.str "3\n1 0\n0 2\n")); let y ← (pure []); pure (x :: y)); pure (x :: y)); pure (x :: y)); pure (x :: y)); pure (x :: y)); pure (x :: y)); mkNew false (.lst l)); dAdd false x y) fun d => pure (.nx (env.set 0 (some d))))
  (seqS (fun env => exB env (do let x ← (getE env 0); let y ← (do let l ← (do let x ← (pure (.str "2\n0  1\n")); let y ← (do let x ← (pure (.str "2\n 0 1\n")); let y ← (do let x ← (pure (.str "2\n0 1 \n")); let y ← (do let x ← (pure (.str "2\n0 1\n\n")); let y ← (do let x ← (pure (.str "2 3\n")); let y ← (do let x ← (pure (.str "2\n0\n")); let y ← (do let x ← (pure (.str "2\n0 1 1\n")); let y ← (pure []); pure (x :: y)); pure (x :: y)); pure (x :: y)); pure (x :: y)); pure (x :: y)); pure (x :: y)); pure (x :: y)); mkNew false (.lst l)); dAdd false x y) fun d => pure (.nx (env.set 0 (some d))))
  (seqS (fun env => exB env (do let x ← (getE env 0); let y ← (do let l ← (do let x ← (pure (.str "-\n")); let y ← (do let x ← (pure (.str "2\n0 01\n")); let y ← (do let x ← (pure (.str "2\n0 1\nx")); let y ← (do let x ← (pure (.str "25\n0 1\n")); let y ← (do let x ← (pure (.str "0\n0 1\n")); let y ← (do let x ← (pure (.str "1\n0 1\n")); let y ← (do let x ← (pure (.str "1\t\n")); let y ← (do let x ← (pure (.str "3\n2 0\n2 1\n")); let y ← (pure []); pure (x :: y)); pure (x :: y)); pure (x :: y)); pure (x :: y)); pure (x :: y)); pure (x :: y)); pure (x :: y)); pure (x :: y)); mkNew false (.lst l)); dAdd false x y) fun d => pure (.nx (env.set 0 (some d))))
  (fun env => exB env (do let x ← (getE env 0); let y ← (do let l ← (do let x ← (pure .non); let y ← (do let x ← (pure (.int 0)); let y ← (do let x ← (pure (.bl true)); let y ← (do let x ← (do let l ← (do let x ← (pure (.str "1\n")); let y ← (pure []); pure (x :: y)); mkNew false (.lst l)); let y ← (do let x ← (do let l ← (do let x ← (pure (.str "1\n")); let y ← (pure []); pure (x :: y)); pure (.tup l)); let y ← (do let x ← (mkNew false (.dK [] [])); let y ← (do let x ← (pure (.int 1)); let y ← (pure []); pure (x :: y)); pure (x :: y)); pure (x :: y)); pure (x :: y)); pure (x :: y)); pure (x :: y)); pure (x :: y)); mkNew false (.lst l)); dAdd false x y) fun d => pure (.ret d))))))
noncomputable def d_law_edges (l : List D) : M D := callB 1 body_law_edges l
abbrev s_law : Stmt := top 33
noncomputable def body_law : Eng.Env → M Out := (seqS (fun env => exB env (do let l ← (do let x ← (getE env 0); let y ← (pure []); pure (x :: y)); d_law_hand l) fun d => pure (.nx (env.set 1 (some d))))
  (seqS (fun env => exB env (do let c ← (do let x ← (do let l ← (do let x ← (do let l ← (do let d ← (d_law_edges []); itemsD d); lcD false (fun d env => pure (env.set 5 (some d))) (fun _ => pure true) (fun env => do let l ← (do let x ← (getE env 5); let y ← (pure []); pure (x :: y)); d_law_is_read l) (wipeE env [5]) l); let y ← (pure []); pure (x :: y)); on1 allD l); asB x); pure (!c)) fun c => if c then (fun env => exB env (pure (.bl false)) fun d => pure (.ret d)) env else (fun env => pure (.nx env)) env)
  (seqS (fun env => exB env (do let l ← (do let x ← (pure (.int 4)); let y ← (pure []); pure (x :: y)); rng1D l) fun l => forD l (fun d env => pure (env.set 2 (some d))) (seqS (fun env => exB env (do let l ← (do let x ← (getE env 1); let y ← (pure []); pure (x :: y)); d_law_some_round l) fun d => do let env' ← noX ((fun d env => match viewT d with | some l => if l.length = 2 then (fun ds env => match ds with | d :: ds => (do let env' ← (fun d env => pure (env.set 3 (some d))) d env; (fun ds env => match ds with | d :: ds => (do let env' ← (fun d env => pure (env.set 4 (some d))) d env; (fun ds env => match ds with | [] => pure env | _ => M.fail) ds env') | [] => M.fail) ds env') | [] => M.fail) l env else M.fail | none => M.fail) d env); pure (.nx env'))
  (seqS (fun env => exB env (do let x ← (do let l ← (do let x ← (getE env 3); let y ← (do let x ← (getE env 4); let y ← (pure []); pure (x :: y)); pure (x :: y)); d_law_text l); let y ← (do let x ← (do let l ← (do let x ← (do let l ← (do let x ← (getE env 3); let y ← (do let x ← (getE env 4); let y ← (pure []); pure (x :: y)); pure (x :: y)); mkI 0 true d_Round_init l); let y ← (pure []); pure (x :: y)); d_round_text l); let y ← (pure []); pure (x :: y)); pure (x :: y)) fun l => match l with | [d, e] => pure (.nx ((env.set 5 (some d)).set 6 (some e))) | _ => M.fail)
  (seqS (fun env => exB env (do let c ← (do let c ← (do let x ← (do let d ← (getE env 6); isiD 1 [.bi "str"] d); asB x); pure (!c)); if c then pure true else (do let c ← (do let z ← (do let x ← (getE env 6); let y ← (getE env 5); dEq true x y); asB z); if c then pure true else (do let c ← (do let x ← (do let l ← (do let x ← (getE env 5); let y ← (pure []); pure (x :: y)); d_law_is_read l); asB x); pure (!c)))) fun c => if c then (fun env => exB env (pure (.bl false)) fun d => pure (.ret d)) env else (fun env => pure (.nx env)) env)
  (seqS (fun env => exB env (do let z ← (do let x ← (do let l ← (do let x ← (do let l ← (do let x ← (getE env 3); let y ← (do let x ← (getE env 4); let y ← (pure []); pure (x :: y)); pure (x :: y)); mkI 0 true d_Round_init l); let y ← (pure []); pure (x :: y)); d_round_text l); let y ← (getE env 5); dEq true x y); asB z) fun c => if c then (fun env => exB env (pure (.bl false)) fun d => pure (.ret d)) env else (fun env => pure (.nx env)) env)
  (fun env => exB env (do let l ← (do let x ← (pure (.int 8)); let y ← (pure []); pure (x :: y)); rng1D l) fun l => forD l (fun d env => pure (env.set 7 (some d))) (seqS (fun env => exB env (do let l ← (do let x ← (getE env 1); let y ← (do let x ← (getE env 5); let y ← (pure []); pure (x :: y)); pure (x :: y)); d_law_bent l) fun d => pure (.nx (env.set 8 (some d))))
  (seqS (fun env => exB env (do let k ← (do let z ← (do let x ← (do let l ← (do let x ← (getE env 1); let y ← (do let x ← (pure (.int 3)); let y ← (pure []); pure (x :: y)); pure (x :: y)); d_law_draw l); let y ← (pure (.int 0)); dEq false x y); asB z); if k then (do let l ← (do let x ← (getE env 1); let y ← (do let x ← (getE env 8); let y ← (pure []); pure (x :: y)); pure (x :: y)); d_law_bent l) else (getE env 8)) fun d => pure (.nx (env.set 8 (some d))))
  (fun env => exB env (do let c ← (do let x ← (do let l ← (do let x ← (getE env 8); let y ← (pure []); pure (x :: y)); d_law_is_read l); asB x); pure (!c)) fun c => if c then (fun env => exB env (pure (.bl false)) fun d => pure (.ret d)) env else (fun env => pure (.nx env)) env))) env))))) env)
  (fun env => exB env (pure (.bl true)) fun d => pure (.ret d)))))
noncomputable def d_law (l : List D) : M D := callB 9 body_law l
structure Ad where
  f_is_integer : Addr
  fd_is_integer : FuncData
  f_is_below : Addr
  fd_is_below : FuncData
  f_is_result : Addr
  fd_is_result : FuncData
  f_first_bad : Addr
  fd_first_bad : FuncData
  f_Round_init : Addr
  fd_Round_init : FuncData
  f_Round_eq : Addr
  fd_Round_eq : FuncData
  f_round_text : Addr
  fd_round_text : FuncData
  f_number_of : Addr
  fd_number_of : FuncData
  f_numbers_of : Addr
  fd_numbers_of : FuncData
  f_read_round : Addr
  fd_read_round : FuncData
  f_law_hand : Addr
  fd_law_hand : FuncData
  f_law_draw : Addr
  fd_law_draw : FuncData
  f_law_any : Addr
  fd_law_any : FuncData
  f_law_some_round : Addr
  fd_law_some_round : FuncData
  f_law_text : Addr
  fd_law_text : FuncData
  f_law_number : Addr
  fd_law_number : FuncData
  f_law_numbers : Addr
  fd_law_numbers : FuncData
  f_law_bad_place : Addr
  fd_law_bad_place : FuncData
  f_law_read : Addr
  fd_law_read : FuncData
  f_law_said : Addr
  fd_law_said : FuncData
  f_law_is_read : Addr
  fd_law_is_read : FuncData
  f_law_bent : Addr
  fd_law_bent : FuncData
  f_law_edges : Addr
  fd_law_edges : FuncData
  f_law : Addr
  fd_law : FuncData
  c_law_is_read : Addr
  p_law_is_read : Addr
  f_BadRound : Addr
  fd_BadRound : FuncData
  f_BadText : Addr
  fd_BadText : FuncData
structure Tab (P : Program) (w : World) (K : PySem.W.Frag) (mg : Str → Option Value) (base : Heap) (L : Lk) (A : Ad) : Prop where
  hL : L.K = K
  kb : K.In base
  xa : L.xa = none
  ok : LkOk L 1
  fo : FlOk L 1 fls
  nb : ∀ x ∈ (["ValueError", "abs", "all", "bool", "enumerate", "int", "isinstance", "len", "list", "max", "range", "repr", "sorted", "str", "super", "tuple"] : List Str), mg x = none
  c_MOST : ∃ t, mg "MOST" = some (.int 24 t)
  c_MOST_FIGURES : ∃ t, mg "MOST_FIGURES" = some (.int 2 t)
  c_FIGURES : ∃ t, mg "FIGURES" = some (.str "0123456789" t)
  F_is_integer : Fun K "is_integer" "is_integer" s_is_integer A.f_is_integer A.fd_is_integer
  t_is_integer : FnT K mg "is_integer" A.f_is_integer A.fd_is_integer ["thing"]
  F_is_below : Fun K "is_below" "is_below" s_is_below A.f_is_below A.fd_is_below
  t_is_below : FnT K mg "is_below" A.f_is_below A.fd_is_below ["thing", "many"]
  F_is_result : Fun K "is_result" "is_result" s_is_result A.f_is_result A.fd_is_result
  t_is_result : FnT K mg "is_result" A.f_is_result A.fd_is_result ["thing", "many"]
  F_first_bad : Fun K "first_bad" "first_bad" s_first_bad A.f_first_bad A.fd_first_bad
  t_first_bad : FnT K mg "first_bad" A.f_first_bad A.fd_first_bad ["many", "told"]
  F_Round_init : Fun K "__init__" "Round.__init__" s_Round_init A.f_Round_init A.fd_Round_init
  t_Round : ClT K mg "Round" (L.cA 0) A.f_Round_init A.fd_Round_init ["self", "many", "told"]
  F_Round_eq : Fun K "__eq__" "Round.__eq__" s_Round_eq A.f_Round_eq A.fd_Round_eq
  q_Round : EqC K (L.cA 0) A.f_Round_eq 1 L.cA
  b_Round_eq : Binds K A.fd_Round_eq ["self", "other"] []
  F_round_text : Fun K "round_text" "round_text" s_round_text A.f_round_text A.fd_round_text
  t_round_text : FnT K mg "round_text" A.f_round_text A.fd_round_text ["known"]
  F_number_of : Fun K "number_of" "number_of" s_number_of A.f_number_of A.fd_number_of
  t_number_of : FnT K mg "number_of" A.f_number_of A.fd_number_of ["word", "most"]
  F_numbers_of : Fun K "numbers_of" "numbers_of" s_numbers_of A.f_numbers_of A.fd_numbers_of
  t_numbers_of : FnT K mg "numbers_of" A.f_numbers_of A.fd_numbers_of ["line", "many"]
  F_read_round : Fun K "read_round" "read_round" s_read_round A.f_read_round A.fd_read_round
  t_read_round : FnT K mg "read_round" A.f_read_round A.fd_read_round ["text"]
  F_law_hand : Fun K "_law_hand" "_law_hand" s_law_hand A.f_law_hand A.fd_law_hand
  t_law_hand : FnT K mg "_law_hand" A.f_law_hand A.fd_law_hand ["script"]
  F_law_draw : Fun K "_law_draw" "_law_draw" s_law_draw A.f_law_draw A.fd_law_draw
  t_law_draw : FnT K mg "_law_draw" A.f_law_draw A.fd_law_draw ["hand", "below"]
  F_law_any : Fun K "_law_any" "_law_any" s_law_any A.f_law_any A.fd_law_any
  t_law_any : FnT K mg "_law_any" A.f_law_any A.fd_law_any ["hand", "some"]
  F_law_some_round : Fun K "_law_some_round" "_law_some_round" s_law_some_round A.f_law_some_round A.fd_law_some_round
  t_law_some_round : FnT K mg "_law_some_round" A.f_law_some_round A.fd_law_some_round ["hand"]
  F_law_text : Fun K "_law_text" "_law_text" s_law_text A.f_law_text A.fd_law_text
  t_law_text : FnT K mg "_law_text" A.f_law_text A.fd_law_text ["many", "pairs"]
  F_law_number : Fun K "_law_number" "_law_number" s_law_number A.f_law_number A.fd_law_number
  t_law_number : FnT K mg "_law_number" A.f_law_number A.fd_law_number ["word"]
  F_law_numbers : Fun K "_law_numbers" "_law_numbers" s_law_numbers A.f_law_numbers A.fd_law_numbers
  t_law_numbers : FnT K mg "_law_numbers" A.f_law_numbers A.fd_law_numbers ["row", "size"]
  F_law_bad_place : Fun K "_law_bad_place" "_law_bad_place" s_law_bad_place A.f_law_bad_place A.fd_law_bad_place
  t_law_bad_place : FnT K mg "_law_bad_place" A.f_law_bad_place A.fd_law_bad_place ["many", "pairs"]
  F_law_read : Fun K "_law_read" "_law_read" s_law_read A.f_law_read A.fd_law_read
  t_law_read : FnT K mg "_law_read" A.f_law_read A.fd_law_read ["text"]
  F_law_said : Fun K "_law_said" "_law_said" s_law_said A.f_law_said A.fd_law_said
  t_law_said : FnT K mg "_law_said" A.f_law_said A.fd_law_said ["call"]
  F_law_is_read : Fun K "_law_is_read" "_law_is_read" s_law_is_read A.f_law_is_read A.fd_law_is_read
  t_law_is_read : FnT K mg "_law_is_read" A.f_law_is_read A.fd_law_is_read ["text"]
  F_law_bent : Fun K "_law_bent" "_law_bent" s_law_bent A.f_law_bent A.fd_law_bent
  t_law_bent : FnT K mg "_law_bent" A.f_law_bent A.fd_law_bent ["hand", "text"]
  F_law_edges : Fun K "_law_edges" "_law_edges" s_law_edges A.f_law_edges A.fd_law_edges
  t_law_edges : FnT K mg "_law_edges" A.f_law_edges A.fd_law_edges []
  F_law : Fun K "law" "law" s_law A.f_law A.fd_law
  t_law : FnT K mg "law" A.f_law A.fd_law ["script"]
  m_RoundError : mg "RoundError" = some (.ref (L.cA 1))
  m_BadRound : mg "BadRound" = some (.ref (L.cA 2))
  m_BadText : mg "BadText" = some (.ref (L.cA 3))
  m_Round : mg "Round" = some (.ref (L.cA 0))
  x_BadRound : X1T P K mg "BadRound" (L.cA 2) A.f_BadRound A.fd_BadRound "self" "place" (L.xf 2)
  x_BadText : X1T P K mg "BadText" (L.cA 3) A.f_BadText A.fd_BadText "self" "line" (L.xf 3)
  is_BadRound : ∀ c, okX c = true → ExcC L.K (L.cA c) ∧ PySem.W.kitOne L.K (.ref (L.cA c)) (.ref (L.cA 2)) = some (sb_BadRound c)
  is_BadText : ∀ c, okX c = true → ExcC L.K (L.cA c) ∧ PySem.W.kitOne L.K (.ref (L.cA c)) (.ref (L.cA 3)) = some (sb_BadText c)
  is_ValueError : ∀ c, okX c = true → ExcC L.K (L.cA c) ∧ PySem.W.kitOne L.K (.ref (L.cA c)) (.type "ValueError") = some (sb_ValueError c)
  ex_RoundError : ∀ c, okX c = true → PySem.W.exmOne L.K (.ref (L.cA c)) (.ref (L.cA 1)) = some (sb_RoundError c)
  xf_line : ∀ c, ok_line c = true → XfC L.K (L.cA c) ∧ PySem.W.findIn L.K (.ref (L.cA c)) "line" = some none ∧ L.xf c = "line"
  xf_place : ∀ c, ok_place c = true → XfC L.K (L.cA c) ∧ PySem.W.findIn L.K (.ref (L.cA c)) "place" = some none ∧ L.xf c = "place"
  tb_law_is_read : LamX.TabB base mg A.c_law_is_read A.p_law_is_read
  cd_law_is_read : A.fd_law_is_read.code = .ref A.c_law_is_read
  lj_law_is_read : L.lf.1[0]? = some A.p_law_is_read
theorem Tab.lf {P : Program} {w : World} {K : PySem.W.Frag} {mg : Str → Option Value} {base : Heap} {L : Lk} {A : Ad} (T : Tab P w K mg base L A) {z : List Addr × Hp} (hz : L.lf.1 <+: z.1) : Tab P w K mg base (withF L z) A :=
  ⟨T.hL, T.kb, T.xa, T.ok.lf z, T.fo.lf z, T.nb, T.c_MOST, T.c_MOST_FIGURES, T.c_FIGURES, T.F_is_integer, T.t_is_integer, T.F_is_below, T.t_is_below, T.F_is_result, T.t_is_result, T.F_first_bad, T.t_first_bad, T.F_Round_init, T.t_Round, T.F_Round_eq, T.q_Round, T.b_Round_eq, T.F_round_text, T.t_round_text, T.F_number_of, T.t_number_of, T.F_numbers_of, T.t_numbers_of, T.F_read_round, T.t_read_round, T.F_law_hand, T.t_law_hand, T.F_law_draw, T.t_law_draw, T.F_law_any, T.t_law_any, T.F_law_some_round, T.t_law_some_round, T.F_law_text, T.t_law_text, T.F_law_number, T.t_law_number, T.F_law_numbers, T.t_law_numbers, T.F_law_bad_place, T.t_law_bad_place, T.F_law_read, T.t_law_read, T.F_law_said, T.t_law_said, T.F_law_is_read, T.t_law_is_read, T.F_law_bent, T.t_law_bent, T.F_law_edges, T.t_law_edges, T.F_law, T.t_law, T.m_RoundError, T.m_BadRound, T.m_BadText, T.m_Round, T.x_BadRound, T.x_BadText, T.is_BadRound, T.is_BadText, T.is_ValueError, T.ex_RoundError, T.xf_line, T.xf_place, T.tb_law_is_read, T.cd_law_is_read, pre_get hz T.lj_law_is_read⟩
section
variable {P : Program} {w : World} {K : PySem.W.Frag} {mg : Str → Option Value} {base : Heap} {L : Lk} {A : Ad} {X : Cx} {Wx : WX}
theorem ss_is_integer (T : Tab P w K mg base L A) (g : Good P w K mg base ["thing"] (defScope s_is_integer) (fun _ => true) 2 Wx X) (tp : Top X "is_integer" A.fd_is_integer.code) : SSs X L Wx (defBody s_is_integer) body_is_integer :=
  (ss_one (ss_ret (se_and (se_isi (T := .bi "int") T.ok (g.q T.hL).hK (g.b.gl (by decide +kernel)) (g.b.m (T.nb "isinstance" (by decide +kernel))) (g.b.name 0 rfl (by decide +kernel)) (pe_bltn (v := .ty "int") (u := .type "int") (g.b.gl (by decide +kernel)) (g.b.m (T.nb "int" (by decide +kernel))) (by decide +kernel) rfl (by decide +kernel) (by decide +kernel)) (fun _ _ h => nomatch h) (fun _ _ h => nomatch h)) (se_one (se_not (se_isi (T := .bi "bool") T.ok (g.q T.hL).hK (g.b.gl (by decide +kernel)) (g.b.m (T.nb "isinstance" (by decide +kernel))) (g.b.name 0 rfl (by decide +kernel)) (pe_bltn (v := .ty "bool") (u := .type "bool") (g.b.gl (by decide +kernel)) (g.b.m (T.nb "bool" (by decide +kernel))) (by decide +kernel) rfl (by decide +kernel) (by decide +kernel)) (fun _ _ h => nomatch h) (fun _ _ h => nomatch h)))))))
theorem df_is_integer (T : Tab P w K mg base L A) : Df P w K mg base L 3 A.f_is_integer A.fd_is_integer ["thing"] d_is_integer :=
  df_of (N := ["thing"]) T.F_is_integer ⟨rfl, rfl, rfl, by decide +kernel, rfl, by decide +kernel, by decide +kernel⟩ rfl fun X Wx g tp => ss_is_integer T g tp
theorem ss_is_below (T : Tab P w K mg base L A) (g : Good P w K mg base ["thing", "many"] (defScope s_is_below) (fun _ => true) 3 Wx X) (tp : Top X "is_below" A.fd_is_below.code) : SSs X L Wx (defBody s_is_below) body_is_below :=
  (ss_one (ss_ret (se_and (g.call (df_is_integer T) (by decide) T.t_is_integer (by decide +kernel) (sa_cons (g.b.name 0 rfl (by decide +kernel)) sa_nil (fun _ _ h => nomatch h)) rfl) (se_one (w_chain (c_le (g.q T.hL)) (c_lt (g.q T.hL)) se_int (g.b.name 0 rfl (by decide +kernel)) (g.b.name 1 rfl (by decide +kernel)) rfl)))))
theorem df_is_below (T : Tab P w K mg base L A) : Df P w K mg base L 4 A.f_is_below A.fd_is_below ["thing", "many"] d_is_below :=
  df_of (N := ["thing", "many"]) T.F_is_below ⟨rfl, rfl, rfl, by decide +kernel, rfl, by decide +kernel, by decide +kernel⟩ rfl fun X Wx g tp => ss_is_below T g tp
theorem ss_is_result (T : Tab P w K mg base L A) (g : Good P w K mg base ["thing", "many"] (defScope s_is_result) (fun _ => true) 4 Wx X) (tp : Top X "is_result" A.fd_is_result.code) : SSs X L Wx (defBody s_is_result) body_is_result :=
  (ss_cons (ss_if (sw_st (sw_or (st_not (st_val (se_isi (T := .bi "tuple") T.ok (g.q T.hL).hK (g.b.gl (by decide +kernel)) (g.b.m (T.nb "isinstance" (by decide +kernel))) (g.b.name 0 rfl (by decide +kernel)) (pe_bltn (v := .ty "tuple") (u := .type "tuple") (g.b.gl (by decide +kernel)) (g.b.m (T.nb "tuple" (by decide +kernel))) (by decide +kernel) rfl (by decide +kernel) (by decide +kernel)) (fun _ _ h => nomatch h) (fun _ _ h => nomatch h)) (fun _ => rfl))) (sw_or1 (t_cmp (c_ne (g.q T.hL)) (b_len (g.q T.hL) (g.b.gl (by decide +kernel)) (g.b.m (T.nb "len" (by decide +kernel))) (sa_cons (g.b.name 0 rfl (by decide +kernel)) sa_nil (fun _ _ h => nomatch h))) se_int rfl)))) (ss_one (ss_ret se_bl)) ss_nil)
  (ss_one (ss_ret (se_and (g.call (df_is_below T) (by decide) T.t_is_below (by decide +kernel) (sa_cons (se_idx (Nat.lt_of_le_of_lt (Nat.add_le_add_left (by decide) _) (g.q T.hL).hu) (g.q T.hL).hK (g.b.name 0 rfl (by decide +kernel)) se_int (fun _ _ => rfl)) (sa_cons (g.b.name 1 rfl (by decide +kernel)) sa_nil (fun _ _ h => nomatch h)) (fun _ _ h => nomatch h)) rfl) (se_and (g.call (df_is_below T) (by decide) T.t_is_below (by decide +kernel) (sa_cons (se_idx (Nat.lt_of_le_of_lt (Nat.add_le_add_left (by decide) _) (g.q T.hL).hu) (g.q T.hL).hK (g.b.name 0 rfl (by decide +kernel)) se_int (fun _ _ => rfl)) (sa_cons (g.b.name 1 rfl (by decide +kernel)) sa_nil (fun _ _ h => nomatch h)) (fun _ _ h => nomatch h)) rfl) (se_one (w_cmp (c_ne (g.q T.hL)) (se_idx (Nat.lt_of_le_of_lt (Nat.add_le_add_left (by decide) _) (g.q T.hL).hu) (g.q T.hL).hK (g.b.name 0 rfl (by decide +kernel)) se_int (fun _ _ => rfl)) (se_idx (Nat.lt_of_le_of_lt (Nat.add_le_add_left (by decide) _) (g.q T.hL).hu) (g.q T.hL).hK (g.b.name 0 rfl (by decide +kernel)) se_int (fun _ _ => rfl)) rfl)))))))
theorem df_is_result (T : Tab P w K mg base L A) : Df P w K mg base L 5 A.f_is_result A.fd_is_result ["thing", "many"] d_is_result :=
  df_of (N := ["thing", "many"]) T.F_is_result ⟨rfl, rfl, rfl, by decide +kernel, rfl, by decide +kernel, by decide +kernel⟩ rfl fun X Wx g tp => ss_is_result T g tp
theorem ss_first_bad (T : Tab P w K mg base L A) (g : Good P w K mg base ["many", "told", "place", "one"] (defScope s_first_bad) (fun _ => true) 5 Wx X) (tp : Top X "first_bad" A.fd_first_bad.code) : SSs X L Wx (defBody s_first_bad) body_first_bad :=
  (ss_cons (ss_if (sw_st (sw_or (st_not (st_val (g.call (df_is_integer T) (by decide) T.t_is_integer (by decide +kernel) (sa_cons (g.b.name 0 rfl (by decide +kernel)) sa_nil (fun _ _ h => nomatch h)) rfl) (fun _ => rfl))) (sw_or1 (st_not (t_chain (c_le (g.q T.hL)) (c_le (g.q T.hL)) se_int (g.b.name 0 rfl (by decide +kernel)) (g.b.con T.c_MOST.choose_spec (by decide +kernel)) rfl))))) (ss_one (ss_ret (se_neg se_int))) ss_nil)
  (ss_cons (ss_if (st_not (st_val (se_isi (T := .bi "tuple") T.ok (g.q T.hL).hK (g.b.gl (by decide +kernel)) (g.b.m (T.nb "isinstance" (by decide +kernel))) (g.b.name 1 rfl (by decide +kernel)) (pe_bltn (v := .ty "tuple") (u := .type "tuple") (g.b.gl (by decide +kernel)) (g.b.m (T.nb "tuple" (by decide +kernel))) (by decide +kernel) rfl (by decide +kernel) (by decide +kernel)) (fun _ _ h => nomatch h) (fun _ _ h => nomatch h)) (fun _ => rfl))) (ss_one (ss_ret se_int)) ss_nil)
  (ss_cons (g.for_ (own := [2, 3]) (si_enum (g.q T.hL).hK (g.b.gl (by decide +kernel)) (g.b.m (T.nb "enumerate" (by decide +kernel))) (g.b.name 1 rfl (by decide +kernel)) rfl) (g.tup (sgs_cons (g.b.tgt 2 rfl (by decide +kernel) (by decide +kernel)) (sgs_cons (g.b.tgt 3 rfl (by decide +kernel) (by decide +kernel)) sgs_nil rfl) rfl) rfl rfl) (ss_one (ss_if (sw_st (sw_or (st_not (st_val (g.call (df_is_result T) (by decide) T.t_is_result (by decide +kernel) (sa_cons (g.b.name 3 rfl (by decide +kernel)) (sa_cons (g.b.name 0 rfl (by decide +kernel)) sa_nil (fun _ _ h => nomatch h)) (fun _ _ h => nomatch h)) rfl) (fun _ => rfl))) (sw_or (sw_st (sw_and (t_cmp (c_gt) (g.b.name 2 rfl (by decide +kernel)) se_int rfl) (sw_and1 (t_cmp (c_le (g.q T.hL)) (g.b.name 3 rfl (by decide +kernel)) (se_idx (Nat.lt_of_le_of_lt (Nat.add_le_add_left (by decide) _) (g.q T.hL).hu) (g.q T.hL).hK (g.b.name 1 rfl (by decide +kernel)) (w_sub (g.b.name 2 rfl (by decide +kernel)) se_int) (fun _ _ => rfl)) rfl)))) (sw_or1 (t_cmp (c_in (g.q T.hL)) (se_rev (c := false) (g.q T.hL).hK (g.b.name 3 rfl (by decide +kernel))) (se_cut (c := false) (g.q T.hL).hK (g.b.name 1 rfl (by decide +kernel)) so_none (so_some (g.b.name 2 rfl (by decide +kernel)))) rfl))))) (ss_one (ss_ret (g.b.name 2 rfl (by decide +kernel)))) ss_nil)) (fun _ => rfl))
  (ss_one (ss_ret se_non)))))
theorem df_first_bad (T : Tab P w K mg base L A) : Df P w K mg base L 6 A.f_first_bad A.fd_first_bad ["many", "told"] d_first_bad :=
  df_of (N := ["many", "told", "place", "one"]) T.F_first_bad ⟨rfl, rfl, rfl, by decide +kernel, rfl, by decide +kernel, by decide +kernel⟩ rfl fun X Wx g tp => ss_first_bad T g tp
theorem ss_Round_init (T : Tab P w K mg base L A) (g : Good P w K mg base ["self", "many", "told", "place"] (defScope s_Round_init) (fun _ => true) 6 Wx X) (tp : Top X "Round.__init__" A.fd_Round_init.code) : SSs X L Wx (defBody s_Round_init) body_Round_init :=
  (ss_cons (g.b.set 3 rfl (by decide +kernel) (g.call (df_first_bad T) (by decide) T.t_first_bad (by decide +kernel) (sa_cons (g.b.name 1 rfl (by decide +kernel)) (sa_cons (g.b.name 2 rfl (by decide +kernel)) sa_nil (fun _ _ h => nomatch h)) (fun _ _ h => nomatch h)) rfl) rfl)
  (ss_cons (ss_if (st_notN (g.b.name 3 rfl (by decide +kernel))) (ss_one (g.raise1 (c := 2) T.x_BadRound (by decide) (by decide +kernel) (g.b.name 3 rfl (by decide +kernel)) rfl)) ss_nil)
  (ss_cons (ss_setA T.ok T.fo (g.q T.hL).hK (g.b.name 0 rfl (by decide +kernel)) (g.b.name 1 rfl (by decide +kernel)) rfl)
  (ss_one (ss_setA T.ok T.fo (g.q T.hL).hK (g.b.name 0 rfl (by decide +kernel)) (g.b.name 2 rfl (by decide +kernel)) rfl)))))
theorem df_Round_init (T : Tab P w K mg base L A) : Df P w K mg base L 7 A.f_Round_init A.fd_Round_init ["self", "many", "told"] d_Round_init :=
  df_of (N := ["self", "many", "told", "place"]) T.F_Round_init ⟨rfl, rfl, rfl, by decide +kernel, rfl, by decide +kernel, by decide +kernel⟩ rfl fun X Wx g tp => ss_Round_init T g tp
theorem ss_Round_eq (T : Tab P w K mg base L A) (g : Good P w K mg base ["self", "other"] (defScope s_Round_eq) (fun _ => true) 2 Wx X) (tp : Top X "Round.__eq__" A.fd_Round_eq.code) : SSs X L Wx (defBody s_Round_eq) body_Round_eq :=
  (ss_one (ss_ret (se_and (se_isi (T := .own 0) T.ok (g.q T.hL).hK (g.b.gl (by decide +kernel)) (g.b.m (T.nb "isinstance" (by decide +kernel))) (g.b.name 1 rfl (by decide +kernel)) (pe_glob (v := .ref (L.cA 0)) (g.b.gl (by decide +kernel)) (g.b.m T.m_Round) rfl (by decide +kernel)) (fun _ _ h => nomatch h) (fun _ _ h => nomatch h)) (se_one (w_cmp (c_eq (g.q T.hL)) (se_tup (sa_cons (se_attr T.ok T.fo (g.q T.hL).hK (g.b.name 0 rfl (by decide +kernel)) rfl) (sa_cons (se_attr T.ok T.fo (g.q T.hL).hK (g.b.name 0 rfl (by decide +kernel)) rfl) sa_nil (fun _ _ h => nomatch h)) (fun _ _ h => nomatch h)) (by decide +kernel)) (se_tup (sa_cons (se_attr T.ok T.fo (g.q T.hL).hK (g.b.name 1 rfl (by decide +kernel)) rfl) (sa_cons (se_attr T.ok T.fo (g.q T.hL).hK (g.b.name 1 rfl (by decide +kernel)) rfl) sa_nil (fun _ _ h => nomatch h)) (fun _ _ h => nomatch h)) (by decide +kernel)) rfl)))))
theorem df_Round_eq (T : Tab P w K mg base L A) : Df P w K mg base L 3 A.f_Round_eq A.fd_Round_eq ["self", "other"] d_Round_eq :=
  df_of (N := ["self", "other"]) T.F_Round_eq ⟨rfl, rfl, rfl, by decide +kernel, rfl, by decide +kernel, by decide +kernel⟩ rfl fun X Wx g tp => ss_Round_eq T g tp
theorem ss_round_text (T : Tab P w K mg base L A) (g : Good P w K mg base ["known", "lines", "winner", "loser", "line"] (defScope s_round_text) (fun _ => true) 2 Wx X) (tp : Top X "round_text" A.fd_round_text.code) : SSs X L Wx (defBody s_round_text) body_round_text :=
  (ss_cons (g.b.set 1 rfl (by decide +kernel) (w_add false (g.q T.hL) (se_lst (c := false) (sa_cons (b_str (g.b.gl (by decide +kernel)) (g.b.m (T.nb "str" (by decide +kernel))) (sa_cons (se_attr T.ok T.fo (g.q T.hL).hK (g.b.name 0 rfl (by decide +kernel)) rfl) sa_nil (fun _ _ h => nomatch h))) sa_nil (fun _ _ h => nomatch h)) (by decide +kernel)) (g.lc (c := false) [("winner", 2), ("loser", 3)] (by decide +kernel) (si_e (g.q T.hL).hK (se_attr T.ok T.fo (g.q T.hL).hK (g.b.name 0 rfl (by decide +kernel)) rfl)) (by decide +kernel) (fun Y1 h1 => ⟨(h1.tup (sgs_cons (h1.b.tgt 2 rfl (by decide +kernel) (by decide +kernel)) (sgs_cons (h1.b.tgt 3 rfl (by decide +kernel) (by decide +kernel)) sgs_nil rfl) rfl) rfl rfl), spt_nil, (w_add false (h1.q T.hL) (w_add false (h1.q T.hL) (b_str (h1.b.gl (by decide +kernel)) (h1.b.m (T.nb "str" (by decide +kernel))) (sa_cons (h1.b.name 2 rfl (by decide +kernel)) sa_nil (fun _ _ h => nomatch h))) se_str) (b_str (h1.b.gl (by decide +kernel)) (h1.b.m (T.nb "str" (by decide +kernel))) (sa_cons (h1.b.name 3 rfl (by decide +kernel)) sa_nil (fun _ _ h => nomatch h))))⟩) (fun _ => rfl))) rfl)
  (ss_one (ss_ret (m_join (g.q T.hL) se_str (sa_cons (g.lc (c := false) [("line", 4)] (by decide +kernel) (si_e (g.q T.hL).hK (g.b.name 1 rfl (by decide +kernel))) (by decide +kernel) (fun Y2 h2 => ⟨(h2.b.tgt 4 rfl (by decide +kernel) (by decide +kernel)), spt_nil, (w_add false (h2.q T.hL) (h2.b.name 4 rfl (by decide +kernel)) se_str)⟩) (fun _ => rfl)) sa_nil (fun _ _ h => nomatch h)) rfl rfl rfl))))
theorem df_round_text (T : Tab P w K mg base L A) : Df P w K mg base L 3 A.f_round_text A.fd_round_text ["known"] d_round_text :=
  df_of (N := ["known", "lines", "winner", "loser", "line"]) T.F_round_text ⟨rfl, rfl, rfl, by decide +kernel, rfl, by decide +kernel, by decide +kernel⟩ rfl fun X Wx g tp => ss_round_text T g tp
theorem ss_number_of (T : Tab P w K mg base L A) (g : Good P w K mg base ["word", "most", "sign"] (defScope s_number_of) (fun _ => true) 2 Wx X) (tp : Top X "number_of" A.fd_number_of.code) : SSs X L Wx (defBody s_number_of) body_number_of :=
  (ss_cons (ss_if (sw_st (sw_or (st_not (t_chain (c_le (g.q T.hL)) (c_le (g.q T.hL)) se_int (b_len (g.q T.hL) (g.b.gl (by decide +kernel)) (g.b.m (T.nb "len" (by decide +kernel))) (sa_cons (g.b.name 0 rfl (by decide +kernel)) sa_nil (fun _ _ h => nomatch h))) (g.b.name 1 rfl (by decide +kernel)) rfl)) (sw_or1 (st_not (st_val (b_all (g.q T.hL) g.calm (g.b.gl (by decide +kernel)) (g.b.m (T.nb "all" (by decide +kernel))) (sa_cons (g.lc (c := false) [("sign", 2)] (by decide +kernel) (si_e (g.q T.hL).hK (g.b.name 0 rfl (by decide +kernel))) (by decide +kernel) (fun Y1 h1 => ⟨(h1.b.tgt 2 rfl (by decide +kernel) (by decide +kernel)), spt_nil, (w_cmp (c_in (h1.q T.hL)) (h1.b.name 2 rfl (by decide +kernel)) (h1.b.conS T.c_FIGURES.choose_spec (by decide +kernel)) rfl)⟩) (fun _ => rfl)) sa_nil (fun _ _ h => nomatch h))) (fun _ => rfl)))))) (ss_one (ss_ret se_non)) ss_nil)
  (ss_one (ss_ret (se_ite (sw_st (sw_and (t_cmp (c_gt) (b_len (g.q T.hL) (g.b.gl (by decide +kernel)) (g.b.m (T.nb "len" (by decide +kernel))) (sa_cons (g.b.name 0 rfl (by decide +kernel)) sa_nil (fun _ _ h => nomatch h))) se_int rfl) (sw_and1 (t_cmp (c_eq (g.q T.hL)) (se_idx (Nat.lt_of_le_of_lt (Nat.add_le_add_left (by decide) _) (g.q T.hL).hu) (g.q T.hL).hK (g.b.name 0 rfl (by decide +kernel)) se_int (fun _ _ => rfl)) se_str rfl)))) se_non (b_int (g.b.gl (by decide +kernel)) (g.b.m (T.nb "int" (by decide +kernel))) (sa_cons (g.b.name 0 rfl (by decide +kernel)) sa_nil (fun _ _ h => nomatch h)))))))
theorem df_number_of (T : Tab P w K mg base L A) : Df P w K mg base L 3 A.f_number_of A.fd_number_of ["word", "most"] d_number_of :=
  df_of (N := ["word", "most", "sign"]) T.F_number_of ⟨rfl, rfl, rfl, by decide +kernel, rfl, by decide +kernel, by decide +kernel⟩ rfl fun X Wx g tp => ss_number_of T g tp
theorem ss_numbers_of (T : Tab P w K mg base L A) (g : Good P w K mg base ["line", "many", "found", "word"] (defScope s_numbers_of) (fun _ => true) 3 Wx X) (tp : Top X "numbers_of" A.fd_numbers_of.code) : SSs X L Wx (defBody s_numbers_of) body_numbers_of :=
  (ss_cons (g.b.set 2 rfl (by decide +kernel) (b_tup (g.q T.hL) (g.b.gl (by decide +kernel)) (g.b.m (T.nb "tuple" (by decide +kernel))) (sa_cons (g.lc (c := false) [("word", 3)] (by decide +kernel) (si_e (g.q T.hL).hK (m_split false (g.q T.hL) (g.b.name 0 rfl (by decide +kernel)) (sa_cons se_str sa_nil (fun _ _ h => nomatch h)) rfl rfl rfl)) (by decide +kernel) (fun Y1 h1 => ⟨(h1.b.tgt 3 rfl (by decide +kernel) (by decide +kernel)), spt_nil, (h1.call (df_number_of T) (by decide) T.t_number_of (by decide +kernel) (sa_cons (h1.b.name 3 rfl (by decide +kernel)) (sa_cons (h1.b.con T.c_MOST_FIGURES.choose_spec (by decide +kernel)) sa_nil (fun _ _ h => nomatch h)) (fun _ _ h => nomatch h)) rfl)⟩) (fun _ => rfl)) sa_nil (fun _ _ h => nomatch h))) rfl)
  (ss_one (ss_ret (se_ite (sw_st (sw_or (t_cmp (c_ne (g.q T.hL)) (b_len (g.q T.hL) (g.b.gl (by decide +kernel)) (g.b.m (T.nb "len" (by decide +kernel))) (sa_cons (g.b.name 2 rfl (by decide +kernel)) sa_nil (fun _ _ h => nomatch h))) (g.b.name 1 rfl (by decide +kernel)) rfl) (sw_or1 (t_cmp (c_in (g.q T.hL)) se_non (g.b.name 2 rfl (by decide +kernel)) rfl)))) se_non (g.b.name 2 rfl (by decide +kernel))))))
theorem df_numbers_of (T : Tab P w K mg base L A) : Df P w K mg base L 4 A.f_numbers_of A.fd_numbers_of ["line", "many"] d_numbers_of :=
  df_of (N := ["line", "many", "found", "word"]) T.F_numbers_of ⟨rfl, rfl, rfl, by decide +kernel, rfl, by decide +kernel, by decide +kernel⟩ rfl fun X Wx g tp => ss_numbers_of T g tp
theorem ss_read_round (T : Tab P w K mg base L A) (g : Good P w K mg base ["text", "lines", "found", "at", "line", "numbers"] (defScope s_read_round) (fun _ => true) 8 Wx X) (tp : Top X "read_round" A.fd_read_round.code) : SSs X L Wx (defBody s_read_round) body_read_round :=
  (ss_cons (ss_if (st_not (st_val (se_isi (T := .bi "str") T.ok (g.q T.hL).hK (g.b.gl (by decide +kernel)) (g.b.m (T.nb "isinstance" (by decide +kernel))) (g.b.name 0 rfl (by decide +kernel)) (pe_bltn (v := .ty "str") (u := .type "str") (g.b.gl (by decide +kernel)) (g.b.m (T.nb "str" (by decide +kernel))) (by decide +kernel) rfl (by decide +kernel) (by decide +kernel)) (fun _ _ h => nomatch h) (fun _ _ h => nomatch h)) (fun _ => rfl))) (ss_one (g.raise1 (c := 3) T.x_BadText (by decide) (by decide +kernel) se_int rfl)) ss_nil)
  (ss_cons (g.b.set 1 rfl (by decide +kernel) (m_split false (g.q T.hL) (g.b.name 0 rfl (by decide +kernel)) (sa_cons se_str sa_nil (fun _ _ h => nomatch h)) rfl rfl rfl) rfl)
  (ss_cons (g.b.set 2 rfl (by decide +kernel) (se_lst (c := true) sa_nil (by decide +kernel)) rfl)
  (ss_cons (g.for_ (own := [3, 4]) (si_enum (g.q T.hL).hK (g.b.gl (by decide +kernel)) (g.b.m (T.nb "enumerate" (by decide +kernel))) (se_cut (c := false) (g.q T.hL).hK (g.b.name 1 rfl (by decide +kernel)) so_none (so_some (se_neg se_int))) rfl) (g.tup (sgs_cons (g.b.tgt 3 rfl (by decide +kernel) (by decide +kernel)) (sgs_cons (g.b.tgt 4 rfl (by decide +kernel) (by decide +kernel)) sgs_nil rfl) rfl) rfl rfl) (ss_cons (g.b.set 5 rfl (by decide +kernel) (g.call (df_numbers_of T) (by decide) T.t_numbers_of (by decide +kernel) (sa_cons (g.b.name 4 rfl (by decide +kernel)) (sa_cons (se_ite (t_cmp (c_eq (g.q T.hL)) (g.b.name 3 rfl (by decide +kernel)) se_int rfl) se_int se_int) sa_nil (fun _ _ h => nomatch h)) (fun _ _ h => nomatch h)) rfl) rfl)
  (ss_cons (ss_if (st_isN (g.b.name 5 rfl (by decide +kernel))) (ss_one (g.raise1 (c := 3) T.x_BadText (by decide) (by decide +kernel) (w_add false (g.q T.hL) (g.b.name 3 rfl (by decide +kernel)) se_int) rfl)) ss_nil)
  (ss_one (ss_expr (m_app (g.q T.hL) (g.b.name 2 rfl (by decide +kernel)) (sa_cons (g.b.name 5 rfl (by decide +kernel)) sa_nil (fun _ _ h => nomatch h)) rfl rfl rfl) rfl)))) (fun _ => rfl))
  (ss_frz 2 (ss_cons (ss_if (sw_st (sw_or (t_cmp (c_eq (g.q T.hL)) (b_len (g.q T.hL) (g.b.gl (by decide +kernel)) (g.b.m (T.nb "len" (by decide +kernel))) (sa_cons (g.b.name 2 rfl (by decide +kernel)) sa_nil (fun _ _ h => nomatch h))) se_int rfl) (sw_or1 (t_cmp (c_ne (g.q T.hL)) (se_idx (Nat.lt_of_le_of_lt (Nat.add_le_add_left (by decide) _) (g.q T.hL).hu) (g.q T.hL).hK (g.b.name 1 rfl (by decide +kernel)) (se_neg se_int) (fun _ _ => rfl)) se_str rfl)))) (ss_one (g.raise1 (c := 3) T.x_BadText (by decide) (by decide +kernel) (b_len (g.q T.hL) (g.b.gl (by decide +kernel)) (g.b.m (T.nb "len" (by decide +kernel))) (sa_cons (g.b.name 1 rfl (by decide +kernel)) sa_nil (fun _ _ h => nomatch h))) rfl)) ss_nil)
  (ss_one (ss_ret (g.make (c := 0) true (df_Round_init T) (by decide) T.t_Round (by decide +kernel) (sa_cons (se_idx (Nat.lt_of_le_of_lt (Nat.add_le_add_left (by decide) _) (g.q T.hL).hu) (g.q T.hL).hK (se_idx (Nat.lt_of_le_of_lt (Nat.add_le_add_left (by decide) _) (g.q T.hL).hu) (g.q T.hL).hK (g.b.name 2 rfl (by decide +kernel)) se_int (fun _ _ => rfl)) se_int (fun _ _ => rfl)) (sa_cons (b_tup (g.q T.hL) (g.b.gl (by decide +kernel)) (g.b.m (T.nb "tuple" (by decide +kernel))) (sa_cons (se_cut (c := false) (g.q T.hL).hK (g.b.name 2 rfl (by decide +kernel)) (so_some se_int) so_none) sa_nil (fun _ _ h => nomatch h))) sa_nil (fun _ _ h => nomatch h)) (fun _ _ h => nomatch h)) rfl)))))))))
theorem df_read_round (T : Tab P w K mg base L A) : Df P w K mg base L 9 A.f_read_round A.fd_read_round ["text"] d_read_round :=
  df_of (N := ["text", "lines", "found", "at", "line", "numbers"]) T.F_read_round ⟨rfl, rfl, rfl, by decide +kernel, rfl, by decide +kernel, by decide +kernel⟩ rfl fun X Wx g tp => ss_read_round T g tp
theorem ss_law_hand (T : Tab P w K mg base L A) (g : Good P w K mg base ["script", "cells", "cell"] (defScope s_law_hand) (fun _ => true) 2 Wx X) (tp : Top X "_law_hand" A.fd_law_hand.code) : SSs X L Wx (defBody s_law_hand) body_law_hand :=
  (ss_cons (g.setLc (c := false) [("cell", 2)] 1 rfl (by decide +kernel) rfl (by decide +kernel) (si_e (g.q T.hL).hK (se_cut (c := false) (g.q T.hL).hK (g.b.name 0 rfl (by decide +kernel)) so_none (so_some se_int))) (by decide +kernel) (fun Y1 h1 => ⟨(h1.b.tgt 2 rfl (by decide +kernel) (by decide +kernel)), spt_nil, (b_abs (h1.b.gl (by decide +kernel)) (h1.b.m (T.nb "abs" (by decide +kernel))) (sa_cons (b_int (h1.b.gl (by decide +kernel)) (h1.b.m (T.nb "int" (by decide +kernel))) (sa_cons (h1.b.name 2 rfl (by decide +kernel)) sa_nil (fun _ _ h => nomatch h))) sa_nil (fun _ _ h => nomatch h)))⟩) (fun _ => rfl))
  (ss_one (ss_ret (se_lst (c := true) (sa_cons (g.b.name 1 rfl (by decide +kernel)) (sa_cons se_int (sa_cons se_int (sa_cons (w_add false (g.q T.hL) se_int (w_mul false (g.q T.hL) se_int (b_len (g.q T.hL) (g.b.gl (by decide +kernel)) (g.b.m (T.nb "len" (by decide +kernel))) (sa_cons (g.b.name 1 rfl (by decide +kernel)) sa_nil (fun _ _ h => nomatch h))))) (sa_cons se_int sa_nil (fun _ _ h => nomatch h)) (fun _ _ h => nomatch h)) (fun _ _ h => nomatch h)) (fun _ _ h => nomatch h)) (fun _ _ h => nomatch h)) (by decide +kernel)))))
theorem df_law_hand (T : Tab P w K mg base L A) : Df P w K mg base L 3 A.f_law_hand A.fd_law_hand ["script"] d_law_hand :=
  df_of (N := ["script", "cells", "cell"]) T.F_law_hand ⟨rfl, rfl, rfl, by decide +kernel, rfl, by decide +kernel, by decide +kernel⟩ rfl fun X Wx g tp => ss_law_hand T g tp
theorem ss_law_draw (T : Tab P w K mg base L A) (g : Good P w K mg base ["hand", "below", "cell", "digit", "number"] (defScope s_law_draw) (fun _ => true) 2 Wx X) (tp : Top X "_law_draw" A.fd_law_draw.code) : SSs X L Wx (defBody s_law_draw) body_law_draw :=
  (ss_cons (ss_if (sw_st (sw_and (t_cmp (c_eq (g.q T.hL)) (se_idx (Nat.lt_of_le_of_lt (Nat.add_le_add_left (by decide) _) (g.q T.hL).hu) (g.q T.hL).hK (g.b.name 0 rfl (by decide +kernel)) se_int (fun _ _ => rfl)) se_int rfl) (sw_and1 (t_cmp (c_lt (g.q T.hL)) (se_idx (Nat.lt_of_le_of_lt (Nat.add_le_add_left (by decide) _) (g.q T.hL).hu) (g.q T.hL).hK (g.b.name 0 rfl (by decide +kernel)) se_int (fun _ _ => rfl)) (b_len (g.q T.hL) (g.b.gl (by decide +kernel)) (g.b.m (T.nb "len" (by decide +kernel))) (sa_cons (se_idx (Nat.lt_of_le_of_lt (Nat.add_le_add_left (by decide) _) (g.q T.hL).hu) (g.q T.hL).hK (g.b.name 0 rfl (by decide +kernel)) se_int (fun _ _ => rfl)) sa_nil (fun _ _ h => nomatch h))) rfl)))) (ss_cons (g.b.set 2 rfl (by decide +kernel) (se_idx (Nat.lt_of_le_of_lt (Nat.add_le_add_left (by decide) _) (g.q T.hL).hu) (g.q T.hL).hK (se_idx (Nat.lt_of_le_of_lt (Nat.add_le_add_left (by decide) _) (g.q T.hL).hu) (g.q T.hL).hK (g.b.name 0 rfl (by decide +kernel)) se_int (fun _ _ => rfl)) (se_idx (Nat.lt_of_le_of_lt (Nat.add_le_add_left (by decide) _) (g.q T.hL).hu) (g.q T.hL).hK (g.b.name 0 rfl (by decide +kernel)) se_int (fun _ _ => rfl)) (fun _ _ => rfl)) rfl)
  (ss_cons (ss_asg (own := []) (w_add false (g.q T.hL) (se_idx (Nat.lt_of_le_of_lt (Nat.add_le_add_left (by decide) _) (g.q T.hL).hu) (g.q T.hL).hK (g.b.name 0 rfl (by decide +kernel)) se_int (fun _ _ => rfl)) se_int) (sg_sub (Nat.lt_of_le_of_lt (Nat.add_le_add_left (by decide) _) (g.q T.hL).hu) (g.b.name 0 rfl (by decide +kernel)) se_int (fun _ => rfl)) rfl (g.b.swS rfl) rfl)
  (ss_cons (ss_asg (own := []) (w_mod (b_int (g.b.gl (by decide +kernel)) (g.b.m (T.nb "int" (by decide +kernel))) (sa_cons (w_add false (g.q T.hL) (w_add false (g.q T.hL) (w_mul false (g.q T.hL) (se_idx (Nat.lt_of_le_of_lt (Nat.add_le_add_left (by decide) _) (g.q T.hL).hu) (g.q T.hL).hK (g.b.name 0 rfl (by decide +kernel)) se_int (fun _ _ => rfl)) se_int) (w_mul false (g.q T.hL) (g.b.name 2 rfl (by decide +kernel)) se_int)) se_int) sa_nil (fun _ _ h => nomatch h))) se_int) (sg_sub (Nat.lt_of_le_of_lt (Nat.add_le_add_left (by decide) _) (g.q T.hL).hu) (g.b.name 0 rfl (by decide +kernel)) se_int (fun _ => rfl)) rfl (g.b.swS rfl) rfl)
  (ss_one (ss_if (t_cmp (c_ge (g.q T.hL)) (g.b.name 2 rfl (by decide +kernel)) (w_pow se_int se_int) rfl) (ss_one (ss_asg (own := []) (g.b.name 2 rfl (by decide +kernel)) (sg_sub (Nat.lt_of_le_of_lt (Nat.add_le_add_left (by decide) _) (g.q T.hL).hu) (g.b.name 0 rfl (by decide +kernel)) se_int (fun _ => rfl)) rfl (g.b.swS rfl) rfl)) ss_nil))))) ss_nil)
  (ss_cons (ss_if (t_cmp (c_gt) (se_idx (Nat.lt_of_le_of_lt (Nat.add_le_add_left (by decide) _) (g.q T.hL).hu) (g.q T.hL).hK (g.b.name 0 rfl (by decide +kernel)) se_int (fun _ _ => rfl)) se_int rfl) (ss_cons (g.b.set 3 rfl (by decide +kernel) (w_mod (b_int (g.b.gl (by decide +kernel)) (g.b.m (T.nb "int" (by decide +kernel))) (sa_cons (se_idx (Nat.lt_of_le_of_lt (Nat.add_le_add_left (by decide) _) (g.q T.hL).hu) (g.q T.hL).hK (g.b.name 0 rfl (by decide +kernel)) se_int (fun _ _ => rfl)) sa_nil (fun _ _ h => nomatch h))) (g.b.name 1 rfl (by decide +kernel))) rfl)
  (ss_cons (ss_asg (own := []) (w_div (se_idx (Nat.lt_of_le_of_lt (Nat.add_le_add_left (by decide) _) (g.q T.hL).hu) (g.q T.hL).hK (g.b.name 0 rfl (by decide +kernel)) se_int (fun _ _ => rfl)) (g.b.name 1 rfl (by decide +kernel))) (sg_sub (Nat.lt_of_le_of_lt (Nat.add_le_add_left (by decide) _) (g.q T.hL).hu) (g.b.name 0 rfl (by decide +kernel)) se_int (fun _ => rfl)) rfl (g.b.swS rfl) rfl)
  (ss_one (ss_ret (g.b.name 3 rfl (by decide +kernel)))))) ss_nil)
  (ss_cons (ss_asg (own := []) (w_add false (g.q T.hL) (se_idx (Nat.lt_of_le_of_lt (Nat.add_le_add_left (by decide) _) (g.q T.hL).hu) (g.q T.hL).hK (g.b.name 0 rfl (by decide +kernel)) se_int (fun _ _ => rfl)) se_int) (sg_sub (Nat.lt_of_le_of_lt (Nat.add_le_add_left (by decide) _) (g.q T.hL).hu) (g.b.name 0 rfl (by decide +kernel)) se_int (fun _ => rfl)) rfl (g.b.swS rfl) rfl)
  (ss_cons (g.b.set 4 rfl (by decide +kernel) (w_mod (b_int (g.b.gl (by decide +kernel)) (g.b.m (T.nb "int" (by decide +kernel))) (sa_cons (w_mul false (g.q T.hL) (b_int (g.b.gl (by decide +kernel)) (g.b.m (T.nb "int" (by decide +kernel))) (sa_cons (w_add false (g.q T.hL) (se_idx (Nat.lt_of_le_of_lt (Nat.add_le_add_left (by decide) _) (g.q T.hL).hu) (g.q T.hL).hK (g.b.name 0 rfl (by decide +kernel)) se_int (fun _ _ => rfl)) (w_mul false (g.q T.hL) se_int (se_idx (Nat.lt_of_le_of_lt (Nat.add_le_add_left (by decide) _) (g.q T.hL).hu) (g.q T.hL).hK (g.b.name 0 rfl (by decide +kernel)) se_int (fun _ _ => rfl)))) sa_nil (fun _ _ h => nomatch h))) se_int) sa_nil (fun _ _ h => nomatch h))) se_int) rfl)
  (ss_cons (g.b.set 4 rfl (by decide +kernel) (w_mod (b_int (g.b.gl (by decide +kernel)) (g.b.m (T.nb "int" (by decide +kernel))) (sa_cons (w_mul false (g.q T.hL) (g.b.name 4 rfl (by decide +kernel)) (w_add false (g.q T.hL) (w_div (g.b.name 4 rfl (by decide +kernel)) se_int) se_int)) sa_nil (fun _ _ h => nomatch h))) se_int) rfl)
  (ss_cons (g.b.set 4 rfl (by decide +kernel) (w_mod (b_int (g.b.gl (by decide +kernel)) (g.b.m (T.nb "int" (by decide +kernel))) (sa_cons (w_mul false (g.q T.hL) (g.b.name 4 rfl (by decide +kernel)) (w_add false (g.q T.hL) (w_div (g.b.name 4 rfl (by decide +kernel)) se_int) se_int)) sa_nil (fun _ _ h => nomatch h))) se_int) rfl)
  (ss_one (ss_ret (w_mod (b_int (g.b.gl (by decide +kernel)) (g.b.m (T.nb "int" (by decide +kernel))) (sa_cons (w_div (g.b.name 4 rfl (by decide +kernel)) se_int) sa_nil (fun _ _ h => nomatch h))) (g.b.name 1 rfl (by decide +kernel)))))))))))
theorem df_law_draw (T : Tab P w K mg base L A) : Df P w K mg base L 3 A.f_law_draw A.fd_law_draw ["hand", "below"] d_law_draw :=
  df_of (N := ["hand", "below", "cell", "digit", "number"]) T.F_law_draw ⟨rfl, rfl, rfl, by decide +kernel, rfl, by decide +kernel, by decide +kernel⟩ rfl fun X Wx g tp => ss_law_draw T g tp
theorem ss_law_any (T : Tab P w K mg base L A) (g : Good P w K mg base ["hand", "some"] (defScope s_law_any) (fun _ => true) 3 Wx X) (tp : Top X "_law_any" A.fd_law_any.code) : SSs X L Wx (defBody s_law_any) body_law_any :=
  (ss_one (ss_ret (se_idx (Nat.lt_of_le_of_lt (Nat.add_le_add_left (by decide) _) (g.q T.hL).hu) (g.q T.hL).hK (g.b.name 1 rfl (by decide +kernel)) (g.call (df_law_draw T) (by decide) T.t_law_draw (by decide +kernel) (sa_cons (g.b.name 0 rfl (by decide +kernel)) (sa_cons (b_len (g.q T.hL) (g.b.gl (by decide +kernel)) (g.b.m (T.nb "len" (by decide +kernel))) (sa_cons (g.b.name 1 rfl (by decide +kernel)) sa_nil (fun _ _ h => nomatch h))) sa_nil (fun _ _ h => nomatch h)) (fun _ _ h => nomatch h)) rfl) (fun _ _ => rfl))))
theorem df_law_any (T : Tab P w K mg base L A) : Df P w K mg base L 4 A.f_law_any A.fd_law_any ["hand", "some"] d_law_any :=
  df_of (N := ["hand", "some"]) T.F_law_any ⟨rfl, rfl, rfl, by decide +kernel, rfl, by decide +kernel, by decide +kernel⟩ rfl fun X Wx g tp => ss_law_any T g tp
theorem ss_law_some_round (T : Tab P w K mg base L A) (g : Good P w K mg base ["hand", "many", "share", "pairs", "one", "other"] (defScope s_law_some_round) (fun _ => true) 4 Wx X) (tp : Top X "_law_some_round" A.fd_law_some_round.code) : SSs X L Wx (defBody s_law_some_round) body_law_some_round :=
  (ss_cons (g.par 1 2 rfl rfl (by decide) (by decide +kernel) (by decide +kernel) (sa_cons (w_add false (g.q T.hL) se_int (g.call (df_law_draw T) (by decide) T.t_law_draw (by decide +kernel) (sa_cons (g.b.name 0 rfl (by decide +kernel)) (sa_cons (g.call (df_law_any T) (by decide) T.t_law_any (by decide +kernel) (sa_cons (g.b.name 0 rfl (by decide +kernel)) (sa_cons (se_lst (c := false) (sa_cons se_int (sa_cons se_int (sa_cons se_int (sa_cons se_int sa_nil (fun _ _ h => nomatch h)) (fun _ _ h => nomatch h)) (fun _ _ h => nomatch h)) (fun _ _ h => nomatch h)) (by decide +kernel)) sa_nil (fun _ _ h => nomatch h)) (fun _ _ h => nomatch h)) rfl) sa_nil (fun _ _ h => nomatch h)) (fun _ _ h => nomatch h)) rfl)) (sa_cons (g.call (df_law_draw T) (by decide) T.t_law_draw (by decide +kernel) (sa_cons (g.b.name 0 rfl (by decide +kernel)) (sa_cons se_int sa_nil (fun _ _ h => nomatch h)) (fun _ _ h => nomatch h)) rfl) sa_nil (fun _ _ h => nomatch h)) (fun _ _ h => nomatch h)) rfl)
  (ss_cons (g.b.set 3 rfl (by decide +kernel) (se_lst (c := true) sa_nil (by decide +kernel)) rfl)
  (ss_cons (g.for_ (own := [4]) (si_rng1 (g.b.gl (by decide +kernel)) (g.b.m (T.nb "range" (by decide +kernel))) (sa_cons (g.b.name 1 rfl (by decide +kernel)) sa_nil (fun _ _ h => nomatch h)) rfl) (g.b.tgt 4 rfl (by decide +kernel) (by decide +kernel)) (ss_one (g.for_ (own := [5]) (si_rng2 (g.b.gl (by decide +kernel)) (g.b.m (T.nb "range" (by decide +kernel))) (sa_cons (w_add false (g.q T.hL) (g.b.name 4 rfl (by decide +kernel)) se_int) (sa_cons (g.b.name 1 rfl (by decide +kernel)) sa_nil (fun _ _ h => nomatch h)) (fun _ _ h => nomatch h)) rfl rfl) (g.b.tgt 5 rfl (by decide +kernel) (by decide +kernel)) (ss_one (ss_if (t_cmp (c_lt (g.q T.hL)) (g.call (df_law_draw T) (by decide) T.t_law_draw (by decide +kernel) (sa_cons (g.b.name 0 rfl (by decide +kernel)) (sa_cons se_int sa_nil (fun _ _ h => nomatch h)) (fun _ _ h => nomatch h)) rfl) (g.b.name 2 rfl (by decide +kernel)) rfl) (ss_one (ss_expr (m_app (g.q T.hL) (g.b.name 3 rfl (by decide +kernel)) (sa_cons (g.call (df_law_any T) (by decide) T.t_law_any (by decide +kernel) (sa_cons (g.b.name 0 rfl (by decide +kernel)) (sa_cons (se_lst (c := false) (sa_cons (se_tup (sa_cons (g.b.name 4 rfl (by decide +kernel)) (sa_cons (g.b.name 5 rfl (by decide +kernel)) sa_nil (fun _ _ h => nomatch h)) (fun _ _ h => nomatch h)) (by decide +kernel)) (sa_cons (se_tup (sa_cons (g.b.name 5 rfl (by decide +kernel)) (sa_cons (g.b.name 4 rfl (by decide +kernel)) sa_nil (fun _ _ h => nomatch h)) (fun _ _ h => nomatch h)) (by decide +kernel)) sa_nil (fun _ _ h => nomatch h)) (fun _ _ h => nomatch h)) (by decide +kernel)) sa_nil (fun _ _ h => nomatch h)) (fun _ _ h => nomatch h)) rfl) sa_nil (fun _ _ h => nomatch h)) rfl rfl rfl) rfl)) ss_nil)) (fun _ => rfl))) (fun _ => rfl))
  (ss_frz 3 (ss_one (ss_ret (se_tup (sa_cons (g.b.name 1 rfl (by decide +kernel)) (sa_cons (b_tup (g.q T.hL) (g.b.gl (by decide +kernel)) (g.b.m (T.nb "tuple" (by decide +kernel))) (sa_cons (b_sorted false (g.q T.hL) (g.b.gl (by decide +kernel)) (g.b.m (T.nb "sorted" (by decide +kernel))) (sa_cons (g.b.name 3 rfl (by decide +kernel)) sa_nil (fun _ _ h => nomatch h))) sa_nil (fun _ _ h => nomatch h))) sa_nil (fun _ _ h => nomatch h)) (fun _ _ h => nomatch h)) (by decide +kernel))))))))
theorem df_law_some_round (T : Tab P w K mg base L A) : Df P w K mg base L 5 A.f_law_some_round A.fd_law_some_round ["hand"] d_law_some_round :=
  df_of (N := ["hand", "many", "share", "pairs", "one", "other"]) T.F_law_some_round ⟨rfl, rfl, rfl, by decide +kernel, rfl, by decide +kernel, by decide +kernel⟩ rfl fun X Wx g tp => ss_law_some_round T g tp
theorem ss_law_text (T : Tab P w K mg base L A) (g : Good P w K mg base ["many", "pairs", "rows", "one", "other", "row"] (defScope s_law_text) (fun _ => true) 2 Wx X) (tp : Top X "_law_text" A.fd_law_text.code) : SSs X L Wx (defBody s_law_text) body_law_text :=
  (ss_cons (g.b.set 2 rfl (by decide +kernel) (w_add false (g.q T.hL) (se_lst (c := false) (sa_cons (b_str (g.b.gl (by decide +kernel)) (g.b.m (T.nb "str" (by decide +kernel))) (sa_cons (g.b.name 0 rfl (by decide +kernel)) sa_nil (fun _ _ h => nomatch h))) sa_nil (fun _ _ h => nomatch h)) (by decide +kernel)) (g.lc (c := false) [("one", 3), ("other", 4)] (by decide +kernel) (si_e (g.q T.hL).hK (g.b.name 1 rfl (by decide +kernel))) (by decide +kernel) (fun Y1 h1 => ⟨(h1.tup (sgs_cons (h1.b.tgt 3 rfl (by decide +kernel) (by decide +kernel)) (sgs_cons (h1.b.tgt 4 rfl (by decide +kernel) (by decide +kernel)) sgs_nil rfl) rfl) rfl rfl), spt_nil, (w_add false (h1.q T.hL) (w_add false (h1.q T.hL) (b_str (h1.b.gl (by decide +kernel)) (h1.b.m (T.nb "str" (by decide +kernel))) (sa_cons (h1.b.name 3 rfl (by decide +kernel)) sa_nil (fun _ _ h => nomatch h))) se_str) (b_str (h1.b.gl (by decide +kernel)) (h1.b.m (T.nb "str" (by decide +kernel))) (sa_cons (h1.b.name 4 rfl (by decide +kernel)) sa_nil (fun _ _ h => nomatch h))))⟩) (fun _ => rfl))) rfl)
  (ss_one (ss_ret (m_join (g.q T.hL) se_str (sa_cons (g.lc (c := false) [("row", 5)] (by decide +kernel) (si_e (g.q T.hL).hK (g.b.name 2 rfl (by decide +kernel))) (by decide +kernel) (fun Y2 h2 => ⟨(h2.b.tgt 5 rfl (by decide +kernel) (by decide +kernel)), spt_nil, (w_add false (h2.q T.hL) (h2.b.name 5 rfl (by decide +kernel)) se_str)⟩) (fun _ => rfl)) sa_nil (fun _ _ h => nomatch h)) rfl rfl rfl))))
theorem df_law_text (T : Tab P w K mg base L A) : Df P w K mg base L 3 A.f_law_text A.fd_law_text ["many", "pairs"] d_law_text :=
  df_of (N := ["many", "pairs", "rows", "one", "other", "row"]) T.F_law_text ⟨rfl, rfl, rfl, by decide +kernel, rfl, by decide +kernel, by decide +kernel⟩ rfl fun X Wx g tp => ss_law_text T g tp
theorem ss_law_number (T : Tab P w K mg base L A) (g : Good P w K mg base ["word", "sign"] (defScope s_law_number) (fun _ => true) 2 Wx X) (tp : Top X "_law_number" A.fd_law_number.code) : SSs X L Wx (defBody s_law_number) body_law_number :=
  (ss_cons (ss_if (sw_st (sw_or (st_not (t_chain (c_le (g.q T.hL)) (c_le (g.q T.hL)) se_int (b_len (g.q T.hL) (g.b.gl (by decide +kernel)) (g.b.m (T.nb "len" (by decide +kernel))) (sa_cons (g.b.name 0 rfl (by decide +kernel)) sa_nil (fun _ _ h => nomatch h))) se_int rfl)) (sw_or1 (st_not (st_val (b_all (g.q T.hL) g.calm (g.b.gl (by decide +kernel)) (g.b.m (T.nb "all" (by decide +kernel))) (sa_cons (g.lc (c := false) [("sign", 1)] (by decide +kernel) (si_e (g.q T.hL).hK (g.b.name 0 rfl (by decide +kernel))) (by decide +kernel) (fun Y1 h1 => ⟨(h1.b.tgt 1 rfl (by decide +kernel) (by decide +kernel)), spt_nil, (w_cmp (c_in (h1.q T.hL)) (h1.b.name 1 rfl (by decide +kernel)) se_str rfl)⟩) (fun _ => rfl)) sa_nil (fun _ _ h => nomatch h))) (fun _ => rfl)))))) (ss_one (ss_ret se_non)) ss_nil)
  (ss_one (ss_ret (se_ite (sw_st (sw_and (t_cmp (c_eq (g.q T.hL)) (b_len (g.q T.hL) (g.b.gl (by decide +kernel)) (g.b.m (T.nb "len" (by decide +kernel))) (sa_cons (g.b.name 0 rfl (by decide +kernel)) sa_nil (fun _ _ h => nomatch h))) se_int rfl) (sw_and1 (t_cmp (c_eq (g.q T.hL)) (se_idx (Nat.lt_of_le_of_lt (Nat.add_le_add_left (by decide) _) (g.q T.hL).hu) (g.q T.hL).hK (g.b.name 0 rfl (by decide +kernel)) se_int (fun _ _ => rfl)) se_str rfl)))) se_non (b_int (g.b.gl (by decide +kernel)) (g.b.m (T.nb "int" (by decide +kernel))) (sa_cons (g.b.name 0 rfl (by decide +kernel)) sa_nil (fun _ _ h => nomatch h)))))))
theorem df_law_number (T : Tab P w K mg base L A) : Df P w K mg base L 3 A.f_law_number A.fd_law_number ["word"] d_law_number :=
  df_of (N := ["word", "sign"]) T.F_law_number ⟨rfl, rfl, rfl, by decide +kernel, rfl, by decide +kernel, by decide +kernel⟩ rfl fun X Wx g tp => ss_law_number T g tp
theorem ss_law_numbers (T : Tab P w K mg base L A) (g : Good P w K mg base ["row", "size", "words", "numbers", "word"] (defScope s_law_numbers) (fun _ => true) 3 Wx X) (tp : Top X "_law_numbers" A.fd_law_numbers.code) : SSs X L Wx (defBody s_law_numbers) body_law_numbers :=
  (ss_cons (g.b.set 2 rfl (by decide +kernel) (m_split false (g.q T.hL) (g.b.name 0 rfl (by decide +kernel)) (sa_cons se_str sa_nil (fun _ _ h => nomatch h)) rfl rfl rfl) rfl)
  (ss_cons (g.b.set 3 rfl (by decide +kernel) (b_tup (g.q T.hL) (g.b.gl (by decide +kernel)) (g.b.m (T.nb "tuple" (by decide +kernel))) (sa_cons (g.lc (c := false) [("word", 4)] (by decide +kernel) (si_e (g.q T.hL).hK (g.b.name 2 rfl (by decide +kernel))) (by decide +kernel) (fun Y1 h1 => ⟨(h1.b.tgt 4 rfl (by decide +kernel) (by decide +kernel)), spt_nil, (h1.call (df_law_number T) (by decide) T.t_law_number (by decide +kernel) (sa_cons (h1.b.name 4 rfl (by decide +kernel)) sa_nil (fun _ _ h => nomatch h)) rfl)⟩) (fun _ => rfl)) sa_nil (fun _ _ h => nomatch h))) rfl)
  (ss_one (ss_ret (se_ite (sw_st (sw_or (t_cmp (c_ne (g.q T.hL)) (b_len (g.q T.hL) (g.b.gl (by decide +kernel)) (g.b.m (T.nb "len" (by decide +kernel))) (sa_cons (g.b.name 2 rfl (by decide +kernel)) sa_nil (fun _ _ h => nomatch h))) (g.b.name 1 rfl (by decide +kernel)) rfl) (sw_or1 (t_cmp (c_in (g.q T.hL)) se_non (g.b.name 3 rfl (by decide +kernel)) rfl)))) se_non (g.b.name 3 rfl (by decide +kernel)))))))
theorem df_law_numbers (T : Tab P w K mg base L A) : Df P w K mg base L 4 A.f_law_numbers A.fd_law_numbers ["row", "size"] d_law_numbers :=
  df_of (N := ["row", "size", "words", "numbers", "word"]) T.F_law_numbers ⟨rfl, rfl, rfl, by decide +kernel, rfl, by decide +kernel, by decide +kernel⟩ rfl fun X Wx g tp => ss_law_numbers T g tp
theorem ss_law_bad_place (T : Tab P w K mg base L A) (g : Good P w K mg base ["many", "pairs", "at", "one", "other"] (defScope s_law_bad_place) (fun _ => true) 2 Wx X) (tp : Top X "_law_bad_place" A.fd_law_bad_place.code) : SSs X L Wx (defBody s_law_bad_place) body_law_bad_place :=
  (ss_cons (ss_if (st_not (t_chain (c_le (g.q T.hL)) (c_le (g.q T.hL)) se_int (g.b.name 0 rfl (by decide +kernel)) se_int rfl)) (ss_one (ss_ret (se_neg se_int))) ss_nil)
  (ss_cons (g.for_ (own := [2, 3, 4]) (si_enum (g.q T.hL).hK (g.b.gl (by decide +kernel)) (g.b.m (T.nb "enumerate" (by decide +kernel))) (g.b.name 1 rfl (by decide +kernel)) rfl) (g.tup (sgs_cons (g.b.tgt 2 rfl (by decide +kernel) (by decide +kernel)) (sgs_cons (g.tup (sgs_cons (g.b.tgt 3 rfl (by decide +kernel) (by decide +kernel)) (sgs_cons (g.b.tgt 4 rfl (by decide +kernel) (by decide +kernel)) sgs_nil rfl) rfl) rfl rfl) sgs_nil rfl) rfl) rfl rfl) (ss_cons (ss_if (sw_st (sw_or (t_cmp (c_eq (g.q T.hL)) (g.b.name 3 rfl (by decide +kernel)) (g.b.name 4 rfl (by decide +kernel)) rfl) (sw_or (t_cmp (c_ge (g.q T.hL)) (b_max2 g.calm (g.b.gl (by decide +kernel)) (g.b.m (T.nb "max" (by decide +kernel))) (sa_cons (g.b.name 3 rfl (by decide +kernel)) (sa_cons (g.b.name 4 rfl (by decide +kernel)) sa_nil (fun _ _ h => nomatch h)) (fun _ _ h => nomatch h))) (g.b.name 0 rfl (by decide +kernel)) rfl) (sw_or1 (t_cmp (c_in (g.q T.hL)) (se_tup (sa_cons (g.b.name 4 rfl (by decide +kernel)) (sa_cons (g.b.name 3 rfl (by decide +kernel)) sa_nil (fun _ _ h => nomatch h)) (fun _ _ h => nomatch h)) (by decide +kernel)) (se_cut (c := false) (g.q T.hL).hK (g.b.name 1 rfl (by decide +kernel)) so_none (so_some (g.b.name 2 rfl (by decide +kernel)))) rfl))))) (ss_one (ss_ret (g.b.name 2 rfl (by decide +kernel)))) ss_nil)
  (ss_one (ss_if (sw_st (sw_and (t_cmp (c_gt) (g.b.name 2 rfl (by decide +kernel)) se_int rfl) (sw_and1 (t_cmp (c_ge (g.q T.hL)) (se_idx (Nat.lt_of_le_of_lt (Nat.add_le_add_left (by decide) _) (g.q T.hL).hu) (g.q T.hL).hK (g.b.name 1 rfl (by decide +kernel)) (w_sub (g.b.name 2 rfl (by decide +kernel)) se_int) (fun _ _ => rfl)) (se_tup (sa_cons (g.b.name 3 rfl (by decide +kernel)) (sa_cons (g.b.name 4 rfl (by decide +kernel)) sa_nil (fun _ _ h => nomatch h)) (fun _ _ h => nomatch h)) (by decide +kernel)) rfl)))) (ss_one (ss_ret (g.b.name 2 rfl (by decide +kernel)))) ss_nil))) (fun _ => rfl))
  (ss_one (ss_ret se_non))))
theorem df_law_bad_place (T : Tab P w K mg base L A) : Df P w K mg base L 3 A.f_law_bad_place A.fd_law_bad_place ["many", "pairs"] d_law_bad_place :=
  df_of (N := ["many", "pairs", "at", "one", "other"]) T.F_law_bad_place ⟨rfl, rfl, rfl, by decide +kernel, rfl, by decide +kernel, by decide +kernel⟩ rfl fun X Wx g tp => ss_law_bad_place T g tp
theorem ss_law_read (T : Tab P w K mg base L A) (g : Good P w K mg base ["text", "rows", "found", "at", "row", "many", "pairs", "bad"] (defScope s_law_read) (fun _ => true) 4 Wx X) (tp : Top X "_law_read" A.fd_law_read.code) : SSs X L Wx (defBody s_law_read) body_law_read :=
  (ss_cons (ss_if (st_not (st_val (se_isi (T := .bi "str") T.ok (g.q T.hL).hK (g.b.gl (by decide +kernel)) (g.b.m (T.nb "isinstance" (by decide +kernel))) (g.b.name 0 rfl (by decide +kernel)) (pe_bltn (v := .ty "str") (u := .type "str") (g.b.gl (by decide +kernel)) (g.b.m (T.nb "str" (by decide +kernel))) (by decide +kernel) rfl (by decide +kernel) (by decide +kernel)) (fun _ _ h => nomatch h) (fun _ _ h => nomatch h)) (fun _ => rfl))) (ss_one (ss_ret (se_tup (sa_cons se_str (sa_cons se_int sa_nil (fun _ _ h => nomatch h)) (fun _ _ h => nomatch h)) (by decide +kernel)))) ss_nil)
  (ss_cons (g.par 1 2 rfl rfl (by decide) (by decide +kernel) (by decide +kernel) (sa_cons (m_split false (g.q T.hL) (g.b.name 0 rfl (by decide +kernel)) (sa_cons se_str sa_nil (fun _ _ h => nomatch h)) rfl rfl rfl) (sa_cons (se_lst (c := true) sa_nil (by decide +kernel)) sa_nil (fun _ _ h => nomatch h)) (fun _ _ h => nomatch h)) rfl)
  (ss_cons (g.for_ (own := [3, 4]) (si_enum (g.q T.hL).hK (g.b.gl (by decide +kernel)) (g.b.m (T.nb "enumerate" (by decide +kernel))) (se_cut (c := false) (g.q T.hL).hK (g.b.name 1 rfl (by decide +kernel)) so_none (so_some (se_neg se_int))) rfl) (g.tup (sgs_cons (g.b.tgt 3 rfl (by decide +kernel) (by decide +kernel)) (sgs_cons (g.b.tgt 4 rfl (by decide +kernel) (by decide +kernel)) sgs_nil rfl) rfl) rfl rfl) (ss_cons (ss_expr (m_app (g.q T.hL) (g.b.name 2 rfl (by decide +kernel)) (sa_cons (g.call (df_law_numbers T) (by decide) T.t_law_numbers (by decide +kernel) (sa_cons (g.b.name 4 rfl (by decide +kernel)) (sa_cons (se_ite (t_cmp (c_eq (g.q T.hL)) (g.b.name 3 rfl (by decide +kernel)) se_int rfl) se_int se_int) sa_nil (fun _ _ h => nomatch h)) (fun _ _ h => nomatch h)) rfl) sa_nil (fun _ _ h => nomatch h)) rfl rfl rfl) rfl)
  (ss_one (ss_if (st_isN (se_idx (Nat.lt_of_le_of_lt (Nat.add_le_add_left (by decide) _) (g.q T.hL).hu) (g.q T.hL).hK (g.b.name 2 rfl (by decide +kernel)) (se_neg se_int) (fun _ _ => rfl))) (ss_one (ss_ret (se_tup (sa_cons se_str (sa_cons (w_add false (g.q T.hL) (g.b.name 3 rfl (by decide +kernel)) se_int) sa_nil (fun _ _ h => nomatch h)) (fun _ _ h => nomatch h)) (by decide +kernel)))) ss_nil))) (fun _ => rfl))
  (ss_frz 2 (ss_cons (ss_if (sw_st (sw_or (t_cmp (c_ne (g.q T.hL)) (se_idx (Nat.lt_of_le_of_lt (Nat.add_le_add_left (by decide) _) (g.q T.hL).hu) (g.q T.hL).hK (g.b.name 1 rfl (by decide +kernel)) (se_neg se_int) (fun _ _ => rfl)) se_str rfl) (sw_or1 (t_cmp (c_eq (g.q T.hL)) (b_len (g.q T.hL) (g.b.gl (by decide +kernel)) (g.b.m (T.nb "len" (by decide +kernel))) (sa_cons (g.b.name 2 rfl (by decide +kernel)) sa_nil (fun _ _ h => nomatch h))) se_int rfl)))) (ss_one (ss_ret (se_tup (sa_cons se_str (sa_cons (b_len (g.q T.hL) (g.b.gl (by decide +kernel)) (g.b.m (T.nb "len" (by decide +kernel))) (sa_cons (g.b.name 1 rfl (by decide +kernel)) sa_nil (fun _ _ h => nomatch h))) sa_nil (fun _ _ h => nomatch h)) (fun _ _ h => nomatch h)) (by decide +kernel)))) ss_nil)
  (ss_cons (g.par 5 6 rfl rfl (by decide) (by decide +kernel) (by decide +kernel) (sa_cons (se_idx (Nat.lt_of_le_of_lt (Nat.add_le_add_left (by decide) _) (g.q T.hL).hu) (g.q T.hL).hK (se_idx (Nat.lt_of_le_of_lt (Nat.add_le_add_left (by decide) _) (g.q T.hL).hu) (g.q T.hL).hK (g.b.name 2 rfl (by decide +kernel)) se_int (fun _ _ => rfl)) se_int (fun _ _ => rfl)) (sa_cons (b_tup (g.q T.hL) (g.b.gl (by decide +kernel)) (g.b.m (T.nb "tuple" (by decide +kernel))) (sa_cons (se_cut (c := false) (g.q T.hL).hK (g.b.name 2 rfl (by decide +kernel)) (so_some se_int) so_none) sa_nil (fun _ _ h => nomatch h))) sa_nil (fun _ _ h => nomatch h)) (fun _ _ h => nomatch h)) rfl)
  (ss_cons (g.b.set 7 rfl (by decide +kernel) (g.call (df_law_bad_place T) (by decide) T.t_law_bad_place (by decide +kernel) (sa_cons (g.b.name 5 rfl (by decide +kernel)) (sa_cons (g.b.name 6 rfl (by decide +kernel)) sa_nil (fun _ _ h => nomatch h)) (fun _ _ h => nomatch h)) rfl) rfl)
  (ss_one (ss_ret (se_ite (st_isN (g.b.name 7 rfl (by decide +kernel))) (se_tup (sa_cons se_str (sa_cons (g.b.name 5 rfl (by decide +kernel)) (sa_cons (g.b.name 6 rfl (by decide +kernel)) sa_nil (fun _ _ h => nomatch h)) (fun _ _ h => nomatch h)) (fun _ _ h => nomatch h)) (by decide +kernel)) (se_tup (sa_cons se_str (sa_cons (g.b.name 7 rfl (by decide +kernel)) sa_nil (fun _ _ h => nomatch h)) (fun _ _ h => nomatch h)) (by decide +kernel))))))))))))
theorem df_law_read (T : Tab P w K mg base L A) : Df P w K mg base L 5 A.f_law_read A.fd_law_read ["text"] d_law_read :=
  df_of (N := ["text", "rows", "found", "at", "row", "many", "pairs", "bad"]) T.F_law_read ⟨rfl, rfl, rfl, by decide +kernel, rfl, by decide +kernel, by decide +kernel⟩ rfl fun X Wx g tp => ss_law_read T g tp
theorem ss_law_said (T : Tab P w K mg base L A) (g : Good P w K mg base ["call", "found", "got", "error"] (defScope s_law_said) (fun _ => true) 2 Wx X) (tp : Top X "_law_said" A.fd_law_said.code) {n : Nat} {KK : M D} (act : ∀ (W : WX) (pn : List (Addr × Obj)) (xe : Value → Shared → Prop) (p1 p2 : Pos), L2N.Takes (X.tr pn xe) W → SE (X.tr pn xe) L W (.Call (.Name "call" p1) [] [] p2) (fun env => do let d ← getE env 0; lamK n d KK)) : SSs X L Wx (defBody s_law_said) (body_law_said n KK) :=
  (ss_cons (g.b.set 1 rfl (by decide +kernel) (se_tup (sa_cons se_str (sa_cons se_int sa_nil (fun _ _ h => nomatch h)) (fun _ _ h => nomatch h)) (by decide +kernel)) rfl)
  (ss_cons (ss_try (cv := .ref (L.cA 1)) tp.hs tp.hf (by rw [g.hN]; exact g.nd) (i := 3) (by rw [g.hN]; rfl) (g.b.kind (by decide +kernel)) ⟨g.b.gl (by decide +kernel), (by decide +kernel), .inl (g.b.m T.m_RoundError)⟩ g.tk T.xa (ok := okX) (sb := sb_RoundError) (fun c h => by rw [g.hK, ← T.hL]; exact T.ex_RoundError c h)
    (fun W1 pn1 xe1 tk1 po1 => have gt := g.tr tk1 po1; (ss_cons (gt.b.set 2 rfl (by decide +kernel) (act W1 pn1 xe1 _ _ tk1) rfl)
  (ss_one (ss_if (st_val (se_isi (T := .own 0) T.ok (gt.q T.hL).hK (gt.b.gl (by decide +kernel)) (gt.b.m (T.nb "isinstance" (by decide +kernel))) (gt.b.name 2 rfl (by decide +kernel)) (pe_glob (v := .ref (L.cA 0)) (gt.b.gl (by decide +kernel)) (gt.b.m T.m_Round) rfl (by decide +kernel)) (fun _ _ h => nomatch h) (fun _ _ h => nomatch h)) (fun _ => rfl)) (ss_one (gt.b.set 1 rfl (by decide +kernel) (se_tup (sa_cons se_str (sa_cons (se_attr T.ok T.fo (gt.q T.hL).hK (gt.b.name 2 rfl (by decide +kernel)) rfl) (sa_cons (se_attr T.ok T.fo (gt.q T.hL).hK (gt.b.name 2 rfl (by decide +kernel)) rfl) sa_nil (fun _ _ h => nomatch h)) (fun _ _ h => nomatch h)) (fun _ _ h => nomatch h)) (by decide +kernel)) rfl)) ss_nil))))
    (fun a oe cc dd pn hok hz hf => have gs := g.b.suite a ((a, oe) :: pn); have qo := (g.q T.hL); have qs := ((g.q T.hL).suite a ((a, oe) :: pn)).withX (some (a, cc, dd)); have hot : L2H.HotC (X.suite a ((a, oe) :: pn)) := hot_of hz hf; (ss_one (ss_if (sw_st (sw_and (st_val (se_isX (ok := okX) (sb := sb_ValueError) (vc := .ty "ValueError") qo.hK rfl hz hf (fun c h => T.is_ValueError c h) hok (fun _ h => h) (gs.gl (by decide +kernel)) (gs.m (T.nb "isinstance" (by decide +kernel))) (gs.name 3 rfl (by decide +kernel)) (pe_bltn (v := .ty "ValueError") (u := .type "ValueError") (gs.gl (by decide +kernel)) (gs.m (T.nb "ValueError" (by decide +kernel))) (by decide +kernel) rfl (by decide +kernel) (by decide +kernel)) (fun _ _ h => nomatch h) (fun _ _ h => nomatch h)) (fun _ => rfl)) (sw_and1 (t_cmp (c_ne qs) (se_isX (ok := okX) (sb := sb_BadText) (vc := .ref (L.cA 3)) qo.hK rfl hz hf (fun c h => T.is_BadText c h) hok (fun _ h => h) (gs.gl (by decide +kernel)) (gs.m (T.nb "isinstance" (by decide +kernel))) (gs.name 3 rfl (by decide +kernel)) (pe_glob (v := .ref (L.cA 3)) (gs.gl (by decide +kernel)) (gs.m T.m_BadText) rfl (by decide +kernel)) (fun _ _ h => nomatch h) (fun _ _ h => nomatch h)) (se_isX (ok := okX) (sb := sb_BadRound) (vc := .ref (L.cA 2)) qo.hK rfl hz hf (fun c h => T.is_BadRound c h) hok (fun _ h => h) (gs.gl (by decide +kernel)) (gs.m (T.nb "isinstance" (by decide +kernel))) (gs.name 3 rfl (by decide +kernel)) (pe_glob (v := .ref (L.cA 2)) (gs.gl (by decide +kernel)) (gs.m T.m_BadRound) rfl (by decide +kernel)) (fun _ _ h => nomatch h) (fun _ _ h => nomatch h)) rfl)))) (ss_one (gs.set 1 rfl (by decide +kernel) (se_ite (st_val (se_isX (ok := okX) (sb := sb_BadText) (vc := .ref (L.cA 3)) qo.hK rfl hz hf (fun c h => T.is_BadText c h) hok (fun _ h => h) (gs.gl (by decide +kernel)) (gs.m (T.nb "isinstance" (by decide +kernel))) (gs.name 3 rfl (by decide +kernel)) (pe_glob (v := .ref (L.cA 3)) (gs.gl (by decide +kernel)) (gs.m T.m_BadText) rfl (by decide +kernel)) (fun _ _ h => nomatch h) (fun _ _ h => nomatch h)) (fun _ => rfl)) (se_tup (sa_cons se_str (sa_cons (se_xf (ok := ok_line) qo.hK rfl hz hf (fun h => T.xf_line _ h) (gs.name 3 rfl (by decide +kernel)) rfl) sa_nil (fun _ _ h => nomatch h)) (fun _ _ h => nomatch h)) (by decide +kernel)) (se_tup (sa_cons se_str (sa_cons (se_xf (ok := ok_place) qo.hK rfl hz hf (fun h => T.xf_place _ h) (gs.name 3 rfl (by decide +kernel)) rfl) sa_nil (fun _ _ h => nomatch h)) (fun _ _ h => nomatch h)) (by decide +kernel))) rfl)) ss_nil))))
  (ss_one (ss_ret (g.b.name 1 rfl (by decide +kernel))))))
theorem sco_law_said : FnScope ["call", "found", "got", "error"] ["call"] (defScope s_law_said) := ⟨rfl, rfl, rfl, by decide +kernel, rfl, by decide +kernel, by decide +kernel⟩
theorem ld_law_said (T : Tab P w K mg base L A) : LamDef P w K mg base L "_law_said" "call" s_law_said A.fd_law_said ["call", "found", "got", "error"] 2 body_law_said := fun _ hz _ _ _ _ g tp act => ss_law_said (T.lf hz) g tp act
theorem ss_law_is_read (T : Tab P w K mg base L A) (g : Good P w K mg base ["text", "due", "numbers", "again", "row", "word"] (defScope s_law_is_read) (fun _ => true) 11 Wx X) (tp : Top X "_law_is_read" A.fd_law_is_read.code) : SSs X L Wx (defBody s_law_is_read) body_law_is_read :=
  (ss_cons (g.b.set 1 rfl (by decide +kernel) (g.call (df_law_read T) (by decide) T.t_law_read (by decide +kernel) (sa_cons (g.b.name 0 rfl (by decide +kernel)) sa_nil (fun _ _ h => nomatch h)) rfl) rfl)
  (ss_cons (ss_if (t_cmp (c_ne (g.q T.hL)) (b_repr (g.q T.hL) g.hg (g.b.gl (by decide +kernel)) (g.b.m (T.nb "repr" (by decide +kernel))) (sa_cons (se_lam (jk := 9) (kz := 2) g tp T.F_law_said T.t_law_said sco_law_said (ld_law_said T) (by decide) (by decide) (fun _ _ hl => (hl.call (df_read_round T) (by decide) T.t_read_round (by decide +kernel) (sa_cons (hl.b.name 0 rfl (by decide +kernel)) sa_nil (fun _ _ h => nomatch h)) rfl)) T.tb_law_is_read T.cd_law_is_read T.lj_law_is_read rfl (by decide +kernel) (by decide +kernel) (fun _ => rfl) (fun _ _ _ _ _ => rfl) rfl (by decide +kernel)) sa_nil (fun _ _ h => nomatch h))) (b_repr (g.q T.hL) g.hg (g.b.gl (by decide +kernel)) (g.b.m (T.nb "repr" (by decide +kernel))) (sa_cons (g.b.name 1 rfl (by decide +kernel)) sa_nil (fun _ _ h => nomatch h))) rfl) (ss_one (ss_ret se_bl)) ss_nil)
  (ss_cons (ss_if (t_cmp (c_eq (g.q T.hL)) (se_idx (Nat.lt_of_le_of_lt (Nat.add_le_add_left (by decide) _) (g.q T.hL).hu) (g.q T.hL).hK (g.b.name 1 rfl (by decide +kernel)) se_int (fun _ _ => rfl)) se_str rfl) (ss_cons (g.b.set 2 rfl (by decide +kernel) (g.lc (c := false) [("row", 4)] (by decide +kernel) (si_e (g.q T.hL).hK (se_cut (c := false) (g.q T.hL).hK (m_split false (g.q T.hL) (g.b.name 0 rfl (by decide +kernel)) (sa_cons se_str sa_nil (fun _ _ h => nomatch h)) rfl rfl rfl) so_none (so_some (se_neg se_int)))) (by decide +kernel) (fun Y2 h1 => ⟨(h1.b.tgt 4 rfl (by decide +kernel) (by decide +kernel)), spt_nil, (b_tup (h1.q T.hL) (h1.b.gl (by decide +kernel)) (h1.b.m (T.nb "tuple" (by decide +kernel))) (sa_cons (h1.lc (c := false) [("word", 5)] (by decide +kernel) (si_e (h1.q T.hL).hK (m_split false (h1.q T.hL) (h1.b.name 4 rfl (by decide +kernel)) (sa_cons se_str sa_nil (fun _ _ h => nomatch h)) rfl rfl rfl)) (by decide +kernel) (fun Y2 h2 => ⟨(h2.b.tgt 5 rfl (by decide +kernel) (by decide +kernel)), spt_nil, (b_int (h2.b.gl (by decide +kernel)) (h2.b.m (T.nb "int" (by decide +kernel))) (sa_cons (h2.b.name 5 rfl (by decide +kernel)) sa_nil (fun _ _ h => nomatch h)))⟩) (fun _ => rfl)) sa_nil (fun _ _ h => nomatch h)))⟩) (fun _ => rfl)) (g.b.sw rfl))
  (ss_cons (g.b.set 3 rfl (by decide +kernel) (se_lam (jk := 8) (kz := 2) g tp T.F_law_said T.t_law_said sco_law_said (ld_law_said T) (by decide) (by decide) (fun _ _ hl => (hl.make (c := 0) true (df_Round_init T) (by decide) T.t_Round (by decide +kernel) (sa_cons (se_idx (Nat.lt_of_le_of_lt (Nat.add_le_add_left (by decide) _) (hl.q T.hL).hu) (hl.q T.hL).hK (se_idx (Nat.lt_of_le_of_lt (Nat.add_le_add_left (by decide) _) (hl.q T.hL).hu) (hl.q T.hL).hK (hl.b.name 2 rfl (by decide +kernel)) se_int (fun _ _ => rfl)) se_int (fun _ _ => rfl)) (sa_cons (b_tup (hl.q T.hL) (hl.b.gl (by decide +kernel)) (hl.b.m (T.nb "tuple" (by decide +kernel))) (sa_cons (se_cut (c := false) (hl.q T.hL).hK (hl.b.name 2 rfl (by decide +kernel)) (so_some se_int) so_none) sa_nil (fun _ _ h => nomatch h))) sa_nil (fun _ _ h => nomatch h)) (fun _ _ h => nomatch h)) rfl)) T.tb_law_is_read T.cd_law_is_read T.lj_law_is_read rfl (by decide +kernel) (by decide +kernel) (fun _ => rfl) (fun _ _ _ _ _ => rfl) rfl (by decide +kernel)) rfl)
  (ss_one (ss_ret (w_cmp (c_eq (g.q T.hL)) (b_repr (g.q T.hL) g.hg (g.b.gl (by decide +kernel)) (g.b.m (T.nb "repr" (by decide +kernel))) (sa_cons (g.b.name 3 rfl (by decide +kernel)) sa_nil (fun _ _ h => nomatch h))) (b_repr (g.q T.hL) g.hg (g.b.gl (by decide +kernel)) (g.b.m (T.nb "repr" (by decide +kernel))) (sa_cons (g.b.name 1 rfl (by decide +kernel)) sa_nil (fun _ _ h => nomatch h))) rfl))))) ss_nil)
  (ss_cons (ss_if (t_cmp (c_eq (g.q T.hL)) (se_idx (Nat.lt_of_le_of_lt (Nat.add_le_add_left (by decide) _) (g.q T.hL).hu) (g.q T.hL).hK (g.b.name 1 rfl (by decide +kernel)) se_int (fun _ _ => rfl)) se_str rfl) (ss_one (ss_ret se_bl)) ss_nil)
  (ss_one (ss_ret (se_and (w_cmp (c_eq (g.q T.hL)) (g.call (df_round_text T) (by decide) T.t_round_text (by decide +kernel) (sa_cons (g.call (df_read_round T) (by decide) T.t_read_round (by decide +kernel) (sa_cons (g.b.name 0 rfl (by decide +kernel)) sa_nil (fun _ _ h => nomatch h)) rfl) sa_nil (fun _ _ h => nomatch h)) rfl) (g.b.name 0 rfl (by decide +kernel)) rfl) (se_one (w_cmp (c_own (c := 0) (g.q T.hL) T.ok (by rw [g.hK]; exact T.q_Round) (g.df (df_Round_eq T)) (g.hr.mono (by decide)) g.hg (by rw [g.hK]; exact T.b_Round_eq) rfl) (g.call (df_read_round T) (by decide) T.t_read_round (by decide +kernel) (sa_cons (g.b.name 0 rfl (by decide +kernel)) sa_nil (fun _ _ h => nomatch h)) rfl) (g.make (c := 0) true (df_Round_init T) (by decide) T.t_Round (by decide +kernel) (sa_cons (se_idx (Nat.lt_of_le_of_lt (Nat.add_le_add_left (by decide) _) (g.q T.hL).hu) (g.q T.hL).hK (g.b.name 1 rfl (by decide +kernel)) se_int (fun _ _ => rfl)) (sa_cons (se_idx (Nat.lt_of_le_of_lt (Nat.add_le_add_left (by decide) _) (g.q T.hL).hu) (g.q T.hL).hK (g.b.name 1 rfl (by decide +kernel)) se_int (fun _ _ => rfl)) sa_nil (fun _ _ h => nomatch h)) (fun _ _ h => nomatch h)) rfl) rfl)))))))))
theorem df_law_is_read (T : Tab P w K mg base L A) : Df P w K mg base L 12 A.f_law_is_read A.fd_law_is_read ["text"] d_law_is_read :=
  df_of (N := ["text", "due", "numbers", "again", "row", "word"]) T.F_law_is_read ⟨rfl, rfl, rfl, by decide +kernel, rfl, by decide +kernel, by decide +kernel⟩ rfl fun X Wx g tp => ss_law_is_read T g tp
theorem ss_law_bent (T : Tab P w K mg base L A) (g : Good P w K mg base ["hand", "text", "kind", "at", "sign", "rows", "spot", "words", "to", "odd", "other", "new"] (defScope s_law_bent) (fun _ => true) 4 Wx X) (tp : Top X "_law_bent" A.fd_law_bent.code) : SSs X L Wx (defBody s_law_bent) body_law_bent :=
  (ss_cons (g.par 2 3 rfl rfl (by decide) (by decide +kernel) (by decide +kernel) (sa_cons (g.call (df_law_draw T) (by decide) T.t_law_draw (by decide +kernel) (sa_cons (g.b.name 0 rfl (by decide +kernel)) (sa_cons se_int sa_nil (fun _ _ h => nomatch h)) (fun _ _ h => nomatch h)) rfl) (sa_cons (g.call (df_law_draw T) (by decide) T.t_law_draw (by decide +kernel) (sa_cons (g.b.name 0 rfl (by decide +kernel)) (sa_cons (w_add false (g.q T.hL) (b_len (g.q T.hL) (g.b.gl (by decide +kernel)) (g.b.m (T.nb "len" (by decide +kernel))) (sa_cons (g.b.name 1 rfl (by decide +kernel)) sa_nil (fun _ _ h => nomatch h))) se_int) sa_nil (fun _ _ h => nomatch h)) (fun _ _ h => nomatch h)) rfl) sa_nil (fun _ _ h => nomatch h)) (fun _ _ h => nomatch h)) rfl)
  (ss_cons (g.par 4 5 rfl rfl (by decide) (by decide +kernel) (by decide +kernel) (sa_cons (g.call (df_law_any T) (by decide) T.t_law_any (by decide +kernel) (sa_cons (g.b.name 0 rfl (by decide +kernel)) (sa_cons (b_lsg false (g.q T.hL) g.calm (g.b.gl (by decide +kernel)) (g.b.m (T.nb "list" (by decide +kernel))) (sa_cons se_str sa_nil (fun _ _ h => nomatch h))) sa_nil (fun _ _ h => nomatch h)) (fun _ _ h => nomatch h)) rfl) (sa_cons (m_split true (g.q T.hL) (g.b.name 1 rfl (by decide +kernel)) (sa_cons se_str sa_nil (fun _ _ h => nomatch h)) rfl rfl rfl) sa_nil (fun _ _ h => nomatch h)) (fun _ _ h => nomatch h)) rfl)
  (ss_cons (g.b.set 6 rfl (by decide +kernel) (g.call (df_law_draw T) (by decide) T.t_law_draw (by decide +kernel) (sa_cons (g.b.name 0 rfl (by decide +kernel)) (sa_cons (b_len (g.q T.hL) (g.b.gl (by decide +kernel)) (g.b.m (T.nb "len" (by decide +kernel))) (sa_cons (g.b.name 5 rfl (by decide +kernel)) sa_nil (fun _ _ h => nomatch h))) sa_nil (fun _ _ h => nomatch h)) (fun _ _ h => nomatch h)) rfl) rfl)
  (ss_cons (ss_if (t_cmp (c_lt (g.q T.hL)) (g.b.name 2 rfl (by decide +kernel)) se_int rfl) (ss_one (ss_ret (w_add false (g.q T.hL) (w_add false (g.q T.hL) (se_cut (c := false) (g.q T.hL).hK (g.b.name 1 rfl (by decide +kernel)) so_none (so_some (g.b.name 3 rfl (by decide +kernel)))) (g.b.name 4 rfl (by decide +kernel))) (se_cut (c := false) (g.q T.hL).hK (g.b.name 1 rfl (by decide +kernel)) (so_some (w_add false (g.q T.hL) (g.b.name 3 rfl (by decide +kernel)) (b_int (g.b.gl (by decide +kernel)) (g.b.m (T.nb "int" (by decide +kernel))) (sa_cons (w_cmp (c_gt) (g.b.name 2 rfl (by decide +kernel)) se_int rfl) sa_nil (fun _ _ h => nomatch h))))) so_none)))) ss_nil)
  (ss_cons (ss_if (t_cmp (c_eq (g.q T.hL)) (g.b.name 2 rfl (by decide +kernel)) se_int rfl) (ss_one (ss_ret (w_add false (g.q T.hL) (se_cut (c := false) (g.q T.hL).hK (g.b.name 1 rfl (by decide +kernel)) so_none (so_some (g.b.name 3 rfl (by decide +kernel)))) (se_cut (c := false) (g.q T.hL).hK (g.b.name 1 rfl (by decide +kernel)) (so_some (w_add false (g.q T.hL) (g.b.name 3 rfl (by decide +kernel)) se_int)) so_none)))) ss_nil)
  (ss_cons (g.b.set 7 rfl (by decide +kernel) (m_split false (g.q T.hL) (se_idx (Nat.lt_of_le_of_lt (Nat.add_le_add_left (by decide) _) (g.q T.hL).hu) (g.q T.hL).hK (g.b.name 5 rfl (by decide +kernel)) (g.b.name 6 rfl (by decide +kernel)) (fun _ _ => rfl)) (sa_cons se_str sa_nil (fun _ _ h => nomatch h)) rfl rfl rfl) rfl)
  (ss_cons (g.b.set 8 rfl (by decide +kernel) (g.call (df_law_draw T) (by decide) T.t_law_draw (by decide +kernel) (sa_cons (g.b.name 0 rfl (by decide +kernel)) (sa_cons (b_len (g.q T.hL) (g.b.gl (by decide +kernel)) (g.b.m (T.nb "len" (by decide +kernel))) (sa_cons (g.b.name 7 rfl (by decide +kernel)) sa_nil (fun _ _ h => nomatch h))) sa_nil (fun _ _ h => nomatch h)) (fun _ _ h => nomatch h)) rfl) rfl)
  (ss_cons (g.b.set 9 rfl (by decide +kernel) (se_lst (c := false) (sa_cons se_str (sa_cons se_str (sa_cons se_str (sa_cons se_str (sa_cons se_str (sa_cons se_str (sa_cons se_str (sa_cons se_str (sa_cons se_str (sa_cons se_str (sa_cons se_str (sa_cons se_str (sa_cons se_str (sa_cons se_str (sa_cons (b_str (g.b.gl (by decide +kernel)) (g.b.m (T.nb "str" (by decide +kernel))) (sa_cons (g.b.name 6 rfl (by decide +kernel)) sa_nil (fun _ _ h => nomatch h))) sa_nil (fun _ _ h => nomatch h)) (fun _ _ h => nomatch h)) (fun _ _ h => nomatch h)) (fun _ _ h => nomatch h)) (fun _ _ h => nomatch h)) (fun _ _ h => nomatch h)) (fun _ _ h => nomatch h)) (fun _ _ h => nomatch h)) (fun _ _ h => nomatch h)) (fun _ _ h => nomatch h)) (fun _ _ h => nomatch h)) (fun _ _ h => nomatch h)) (fun _ _ h => nomatch h)) (fun _ _ h => nomatch h)) (fun _ _ h => nomatch h)) (by decide +kernel)) rfl)
  (ss_cons (ss_if (t_cmp (c_lt (g.q T.hL)) (g.b.name 2 rfl (by decide +kernel)) se_int rfl) (ss_cons (ss_asg (own := []) (m_join (g.q T.hL) se_str (sa_cons (w_add false (g.q T.hL) (w_add false (g.q T.hL) (se_cut (c := false) (g.q T.hL).hK (g.b.name 7 rfl (by decide +kernel)) so_none (so_some (g.b.name 8 rfl (by decide +kernel)))) (se_lst (c := false) (sa_cons (g.call (df_law_any T) (by decide) T.t_law_any (by decide +kernel) (sa_cons (g.b.name 0 rfl (by decide +kernel)) (sa_cons (g.b.name 9 rfl (by decide +kernel)) sa_nil (fun _ _ h => nomatch h)) (fun _ _ h => nomatch h)) rfl) sa_nil (fun _ _ h => nomatch h)) (by decide +kernel))) (se_cut (c := false) (g.q T.hL).hK (g.b.name 7 rfl (by decide +kernel)) (so_some (w_add false (g.q T.hL) (g.b.name 8 rfl (by decide +kernel)) (b_int (g.b.gl (by decide +kernel)) (g.b.m (T.nb "int" (by decide +kernel))) (sa_cons (w_cmp (c_gt) (g.b.name 2 rfl (by decide +kernel)) se_int rfl) sa_nil (fun _ _ h => nomatch h))))) so_none)) sa_nil (fun _ _ h => nomatch h)) rfl rfl rfl) (sg_sub (Nat.lt_of_le_of_lt (Nat.add_le_add_left (by decide) _) (g.q T.hL).hu) (g.b.name 5 rfl (by decide +kernel)) (g.b.name 6 rfl (by decide +kernel)) (fun _ => rfl)) rfl (g.b.swS rfl) rfl)
  (ss_one (ss_ret (m_join (g.q T.hL) se_str (sa_cons (g.b.name 5 rfl (by decide +kernel)) sa_nil (fun _ _ h => nomatch h)) rfl rfl rfl)))) ss_nil)
  (ss_cons (g.b.set 10 rfl (by decide +kernel) (g.call (df_law_draw T) (by decide) T.t_law_draw (by decide +kernel) (sa_cons (g.b.name 0 rfl (by decide +kernel)) (sa_cons (b_len (g.q T.hL) (g.b.gl (by decide +kernel)) (g.b.m (T.nb "len" (by decide +kernel))) (sa_cons (g.b.name 5 rfl (by decide +kernel)) sa_nil (fun _ _ h => nomatch h))) sa_nil (fun _ _ h => nomatch h)) (fun _ _ h => nomatch h)) rfl) rfl)
  (ss_cons (ss_if (t_cmp (c_eq (g.q T.hL)) (g.b.name 2 rfl (by decide +kernel)) se_int rfl) (ss_cons (ss_asg (own := []) (se_tup (sa_cons (se_idx (Nat.lt_of_le_of_lt (Nat.add_le_add_left (by decide) _) (g.q T.hL).hu) (g.q T.hL).hK (g.b.name 5 rfl (by decide +kernel)) (g.b.name 10 rfl (by decide +kernel)) (fun _ _ => rfl)) (sa_cons (se_idx (Nat.lt_of_le_of_lt (Nat.add_le_add_left (by decide) _) (g.q T.hL).hu) (g.q T.hL).hK (g.b.name 5 rfl (by decide +kernel)) (g.b.name 6 rfl (by decide +kernel)) (fun _ _ => rfl)) sa_nil (fun _ _ h => nomatch h)) (fun _ _ h => nomatch h)) (by decide +kernel)) (g.tup (sgs_cons (sg_sub (Nat.lt_of_le_of_lt (Nat.add_le_add_left (by decide) _) (g.q T.hL).hu) (g.b.name 5 rfl (by decide +kernel)) (g.b.name 6 rfl (by decide +kernel)) (fun _ => rfl)) (sgs_cons (sg_sub (Nat.lt_of_le_of_lt (Nat.add_le_add_left (by decide) _) (g.q T.hL).hu) (g.b.name 5 rfl (by decide +kernel)) (g.b.name 10 rfl (by decide +kernel)) (fun _ => rfl)) sgs_nil rfl) rfl) rfl rfl) rfl (g.b.swS rfl) rfl)
  (ss_one (ss_ret (m_join (g.q T.hL) se_str (sa_cons (g.b.name 5 rfl (by decide +kernel)) sa_nil (fun _ _ h => nomatch h)) rfl rfl rfl)))) ss_nil)
  (ss_cons (ss_if (t_cmp (c_eq (g.q T.hL)) (g.b.name 2 rfl (by decide +kernel)) se_int rfl) (ss_cons (ss_asg (own := []) (m_join (g.q T.hL) se_str (sa_cons (se_rev (c := false) (g.q T.hL).hK (g.b.name 7 rfl (by decide +kernel))) sa_nil (fun _ _ h => nomatch h)) rfl rfl rfl) (sg_sub (Nat.lt_of_le_of_lt (Nat.add_le_add_left (by decide) _) (g.q T.hL).hu) (g.b.name 5 rfl (by decide +kernel)) (g.b.name 6 rfl (by decide +kernel)) (fun _ => rfl)) rfl (g.b.swS rfl) rfl)
  (ss_one (ss_ret (m_join (g.q T.hL) se_str (sa_cons (g.b.name 5 rfl (by decide +kernel)) sa_nil (fun _ _ h => nomatch h)) rfl rfl rfl)))) ss_nil)
  (ss_frz 5 (ss_cons (g.b.set 11 rfl (by decide +kernel) (w_mul false (g.q T.hL) (se_lst (c := false) (sa_cons (g.call (df_law_any T) (by decide) T.t_law_any (by decide +kernel) (sa_cons (g.b.name 0 rfl (by decide +kernel)) (sa_cons (se_lst (c := false) (sa_cons se_str (sa_cons se_str (sa_cons se_str (sa_cons (se_idx (Nat.lt_of_le_of_lt (Nat.add_le_add_left (by decide) _) (g.q T.hL).hu) (g.q T.hL).hK (g.b.name 5 rfl (by decide +kernel)) (g.b.name 10 rfl (by decide +kernel)) (fun _ _ => rfl)) (sa_cons se_str (sa_cons se_str sa_nil (fun _ _ h => nomatch h)) (fun _ _ h => nomatch h)) (fun _ _ h => nomatch h)) (fun _ _ h => nomatch h)) (fun _ _ h => nomatch h)) (fun _ _ h => nomatch h)) (by decide +kernel)) sa_nil (fun _ _ h => nomatch h)) (fun _ _ h => nomatch h)) rfl) sa_nil (fun _ _ h => nomatch h)) (by decide +kernel)) (b_int (g.b.gl (by decide +kernel)) (g.b.m (T.nb "int" (by decide +kernel))) (sa_cons (w_cmp (c_eq (g.q T.hL)) (g.b.name 2 rfl (by decide +kernel)) se_int rfl) sa_nil (fun _ _ h => nomatch h)))) rfl)
  (ss_one (ss_ret (m_join (g.q T.hL) se_str (sa_cons (w_add false (g.q T.hL) (w_add false (g.q T.hL) (se_cut (c := false) (g.q T.hL).hK (g.b.name 5 rfl (by decide +kernel)) so_none (so_some (g.b.name 6 rfl (by decide +kernel)))) (g.b.name 11 rfl (by decide +kernel))) (se_cut (c := false) (g.q T.hL).hK (g.b.name 5 rfl (by decide +kernel)) (so_some (w_add false (g.q T.hL) (g.b.name 6 rfl (by decide +kernel)) se_int)) so_none)) sa_nil (fun _ _ h => nomatch h)) rfl rfl rfl)))))))))))))))))
theorem df_law_bent (T : Tab P w K mg base L A) : Df P w K mg base L 5 A.f_law_bent A.fd_law_bent ["hand", "text"] d_law_bent :=
  df_of (N := ["hand", "text", "kind", "at", "sign", "rows", "spot", "words", "to", "odd", "other", "new"]) T.F_law_bent ⟨rfl, rfl, rfl, by decide +kernel, rfl, by decide +kernel, by decide +kernel⟩ rfl fun X Wx g tp => ss_law_bent T g tp
theorem ss_law_edges (T : Tab P w K mg base L A) (g : Good P w K mg base ["found"] (defScope s_law_edges) (fun _ => true) 2 Wx X) (tp : Top X "_law_edges" A.fd_law_edges.code) : SSs X L Wx (defBody s_law_edges) body_law_edges :=
  (ss_cons (g.b.set 0 rfl (by decide +kernel) (se_lst (c := false) (sa_cons se_str (sa_cons se_str (sa_cons se_str (sa_cons se_str (sa_cons se_str (sa_cons se_str (sa_cons se_str (sa_cons se_str (sa_cons se_str (sa_cons se_str (sa_cons se_str (sa_cons se_str sa_nil (fun _ _ h => nomatch h)) (fun _ _ h => nomatch h)) (fun _ _ h => nomatch h)) (fun _ _ h => nomatch h)) (fun _ _ h => nomatch h)) (fun _ _ h => nomatch h)) (fun _ _ h => nomatch h)) (fun _ _ h => nomatch h)) (fun _ _ h => nomatch h)) (fun _ _ h => nomatch h)) (fun _ _ h => nomatch h)) (fun _ _ h => nomatch h)) (by decide +kernel)) rfl)
  (ss_cons (g.b.set 0 rfl (by decide +kernel) (w_add false (g.q T.hL) (g.b.name 0 rfl (by decide +kernel)) (se_lst (c := false) (sa_cons se_str (sa_cons se_str (sa_cons se_str (sa_cons se_str (sa_cons se_str (sa_cons se_str sa_nil (fun _ _ h => nomatch h)) (fun _ _ h => nomatch h)) (fun _ _ h => nomatch h)) (fun _ _ h => nomatch h)) (fun _ _ h => nomatch h)) (fun _ _ h => nomatch h)) (by decide +kernel))) rfl)
  (ss_cons (g.b.set 0 rfl (by decide +kernel) (w_add false (g.q T.hL) (g.b.name 0 rfl (by decide +kernel)) (se_lst (c := false) (sa_cons se_str (sa_cons se_str (sa_cons se_str (sa_cons se_str (sa_cons se_str (sa_cons se_str (sa_cons se_str sa_nil (fun _ _ h => nomatch h)) (fun _ _ h => nomatch h)) (fun _ _ h => nomatch h)) (fun _ _ h => nomatch h)) (fun _ _ h => nomatch h)) (fun _ _ h => nomatch h)) (fun _ _ h => nomatch h)) (by decide +kernel))) rfl)
  (ss_cons (g.b.set 0 rfl (by decide +kernel) (w_add false (g.q T.hL) (g.b.name 0 rfl (by decide +kernel)) (se_lst (c := false) (sa_cons se_str (sa_cons se_str (sa_cons se_str (sa_cons se_str (sa_cons se_str (sa_cons se_str (sa_cons se_str (sa_cons se_str sa_nil (fun _ _ h => nomatch h)) (fun _ _ h => nomatch h)) (fun _ _ h => nomatch h)) (fun _ _ h => nomatch h)) (fun _ _ h => nomatch h)) (fun _ _ h => nomatch h)) (fun _ _ h => nomatch h)) (fun _ _ h => nomatch h)) (by decide +kernel))) rfl)
  (ss_one (ss_ret (w_add false (g.q T.hL) (g.b.name 0 rfl (by decide +kernel)) (se_lst (c := false) (sa_cons se_non (sa_cons se_int (sa_cons se_bl (sa_cons (se_lst (c := false) (sa_cons se_str sa_nil (fun _ _ h => nomatch h)) (by decide +kernel)) (sa_cons (se_tup (sa_cons se_str sa_nil (fun _ _ h => nomatch h)) (by decide +kernel)) (sa_cons (se_dict0 (c := false)) (sa_cons se_int sa_nil (fun _ _ h => nomatch h)) (fun _ _ h => nomatch h)) (fun _ _ h => nomatch h)) (fun _ _ h => nomatch h)) (fun _ _ h => nomatch h)) (fun _ _ h => nomatch h)) (fun _ _ h => nomatch h)) (by decide +kernel)))))))))
theorem df_law_edges (T : Tab P w K mg base L A) : Df P w K mg base L 3 A.f_law_edges A.fd_law_edges [] d_law_edges :=
  df_of (N := ["found"]) T.F_law_edges ⟨rfl, rfl, rfl, by decide +kernel, rfl, by decide +kernel, by decide +kernel⟩ rfl fun X Wx g tp => ss_law_edges T g tp
theorem ss_law (T : Tab P w K mg base L A) (g : Good P w K mg base ["script", "hand", "lap", "many", "pairs", "text", "got", "again", "bent"] (defScope s_law) (fun _ => true) 12 Wx X) (tp : Top X "law" A.fd_law.code) : SSs X L Wx (defBody s_law) body_law :=
  (ss_cons (g.b.set 1 rfl (by decide +kernel) (g.call (df_law_hand T) (by decide) T.t_law_hand (by decide +kernel) (sa_cons (g.b.name 0 rfl (by decide +kernel)) sa_nil (fun _ _ h => nomatch h)) rfl) rfl)
  (ss_cons (ss_if (st_not (st_val (b_all (g.q T.hL) g.calm (g.b.gl (by decide +kernel)) (g.b.m (T.nb "all" (by decide +kernel))) (sa_cons (g.lc (c := false) [("text", 5)] (by decide +kernel) (si_e (g.q T.hL).hK (g.call0 (df_law_edges T) (by decide) T.t_law_edges (by decide +kernel))) (by decide +kernel) (fun Y1 h1 => ⟨(h1.b.tgt 5 rfl (by decide +kernel) (by decide +kernel)), spt_nil, (h1.call (df_law_is_read T) (by decide) T.t_law_is_read (by decide +kernel) (sa_cons (h1.b.name 5 rfl (by decide +kernel)) sa_nil (fun _ _ h => nomatch h)) rfl)⟩) (fun _ => rfl)) sa_nil (fun _ _ h => nomatch h))) (fun _ => rfl))) (ss_one (ss_ret se_bl)) ss_nil)
  (ss_cons (g.for_ (own := [2]) (si_rng1 (g.b.gl (by decide +kernel)) (g.b.m (T.nb "range" (by decide +kernel))) (sa_cons se_int sa_nil (fun _ _ h => nomatch h)) rfl) (g.b.tgt 2 rfl (by decide +kernel) (by decide +kernel)) (ss_cons (ss_asg (own := [3, 4]) (g.call (df_law_some_round T) (by decide) T.t_law_some_round (by decide +kernel) (sa_cons (g.b.name 1 rfl (by decide +kernel)) sa_nil (fun _ _ h => nomatch h)) rfl) (g.tup (sgs_cons (g.b.tgt 3 rfl (by decide +kernel) (by decide +kernel)) (sgs_cons (g.b.tgt 4 rfl (by decide +kernel) (by decide +kernel)) sgs_nil rfl) rfl) rfl rfl) rfl (g.b.swS rfl) rfl)
  (ss_cons (g.par 5 6 rfl rfl (by decide) (by decide +kernel) (by decide +kernel) (sa_cons (g.call (df_law_text T) (by decide) T.t_law_text (by decide +kernel) (sa_cons (g.b.name 3 rfl (by decide +kernel)) (sa_cons (g.b.name 4 rfl (by decide +kernel)) sa_nil (fun _ _ h => nomatch h)) (fun _ _ h => nomatch h)) rfl) (sa_cons (g.call (df_round_text T) (by decide) T.t_round_text (by decide +kernel) (sa_cons (g.make (c := 0) true (df_Round_init T) (by decide) T.t_Round (by decide +kernel) (sa_cons (g.b.name 3 rfl (by decide +kernel)) (sa_cons (g.b.name 4 rfl (by decide +kernel)) sa_nil (fun _ _ h => nomatch h)) (fun _ _ h => nomatch h)) rfl) sa_nil (fun _ _ h => nomatch h)) rfl) sa_nil (fun _ _ h => nomatch h)) (fun _ _ h => nomatch h)) rfl)
  (ss_cons (ss_if (sw_st (sw_or (st_not (st_val (se_isi (T := .bi "str") T.ok (g.q T.hL).hK (g.b.gl (by decide +kernel)) (g.b.m (T.nb "isinstance" (by decide +kernel))) (g.b.name 6 rfl (by decide +kernel)) (pe_bltn (v := .ty "str") (u := .type "str") (g.b.gl (by decide +kernel)) (g.b.m (T.nb "str" (by decide +kernel))) (by decide +kernel) rfl (by decide +kernel) (by decide +kernel)) (fun _ _ h => nomatch h) (fun _ _ h => nomatch h)) (fun _ => rfl))) (sw_or (t_cmp (c_ne (g.q T.hL)) (g.b.name 6 rfl (by decide +kernel)) (g.b.name 5 rfl (by decide +kernel)) rfl) (sw_or1 (st_not (st_val (g.call (df_law_is_read T) (by decide) T.t_law_is_read (by decide +kernel) (sa_cons (g.b.name 5 rfl (by decide +kernel)) sa_nil (fun _ _ h => nomatch h)) rfl) (fun _ => rfl))))))) (ss_one (ss_ret se_bl)) ss_nil)
  (ss_cons (ss_if (t_cmp (c_ne (g.q T.hL)) (g.call (df_round_text T) (by decide) T.t_round_text (by decide +kernel) (sa_cons (g.make (c := 0) true (df_Round_init T) (by decide) T.t_Round (by decide +kernel) (sa_cons (g.b.name 3 rfl (by decide +kernel)) (sa_cons (g.b.name 4 rfl (by decide +kernel)) sa_nil (fun _ _ h => nomatch h)) (fun _ _ h => nomatch h)) rfl) sa_nil (fun _ _ h => nomatch h)) rfl) (g.b.name 5 rfl (by decide +kernel)) rfl) (ss_one (ss_ret se_bl)) ss_nil)
  (ss_one (g.for_ (own := [7]) (si_rng1 (g.b.gl (by decide +kernel)) (g.b.m (T.nb "range" (by decide +kernel))) (sa_cons se_int sa_nil (fun _ _ h => nomatch h)) rfl) (g.b.tgt 7 rfl (by decide +kernel) (by decide +kernel)) (ss_cons (g.b.set 8 rfl (by decide +kernel) (g.call (df_law_bent T) (by decide) T.t_law_bent (by decide +kernel) (sa_cons (g.b.name 1 rfl (by decide +kernel)) (sa_cons (g.b.name 5 rfl (by decide +kernel)) sa_nil (fun _ _ h => nomatch h)) (fun _ _ h => nomatch h)) rfl) rfl)
  (ss_cons (g.b.set 8 rfl (by decide +kernel) (se_ite (t_cmp (c_eq (g.q T.hL)) (g.call (df_law_draw T) (by decide) T.t_law_draw (by decide +kernel) (sa_cons (g.b.name 1 rfl (by decide +kernel)) (sa_cons se_int sa_nil (fun _ _ h => nomatch h)) (fun _ _ h => nomatch h)) rfl) se_int rfl) (g.call (df_law_bent T) (by decide) T.t_law_bent (by decide +kernel) (sa_cons (g.b.name 1 rfl (by decide +kernel)) (sa_cons (g.b.name 8 rfl (by decide +kernel)) sa_nil (fun _ _ h => nomatch h)) (fun _ _ h => nomatch h)) rfl) (g.b.name 8 rfl (by decide +kernel))) rfl)
  (ss_one (ss_if (st_not (st_val (g.call (df_law_is_read T) (by decide) T.t_law_is_read (by decide +kernel) (sa_cons (g.b.name 8 rfl (by decide +kernel)) sa_nil (fun _ _ h => nomatch h)) rfl) (fun _ => rfl))) (ss_one (ss_ret se_bl)) ss_nil)))) (fun _ => rfl))))))) (fun _ => rfl))
  (ss_one (ss_ret se_bl)))))
theorem df_law (T : Tab P w K mg base L A) : Df P w K mg base L 13 A.f_law A.fd_law ["script"] d_law :=
  df_of (N := ["script", "hand", "lap", "many", "pairs", "text", "got", "again", "bent"]) T.F_law ⟨rfl, rfl, rfl, by decide +kernel, rfl, by decide +kernel, by decide +kernel⟩ rfl fun X Wx g tp => ss_law T g tp
end
end Wk

set_option maxRecDepth 100000
set_option maxHeartbeats 1000000
namespace Wk
open PySem PySem.Spec PyProof.Rows L2 Eng
variable {m : Mem}
theorem is_integer_shw {d : D} (h : Shw d) : d_is_integer [d] m = .ok (.bl (isIntD d)) m := by
  unfold d_is_integer body_is_integer
  cases d <;> first | (exfalso; simp [Shw, py1] at h; done) | simp [startE, isiD, tyOf, isTys, isTy, tyB, bnames, dNot, isIntD]
def below (n : Int) : D → Bool
  | .int i => decide (0 ≤ i) && decide (i < n)
  | _ => false
theorem is_below_shw {d : D} {n : Int} (h : Shw d) : d_is_below [d, .int n] m = .ok (.bl (below n d)) m := by
  unfold d_is_below body_is_below
  cases hd : isIntD d with
  | false =>
    have e : below n d = false := by cases d <;> first | rfl | cases hd
    simp [startE, is_integer_shw h, hd, e]
  | true =>
    cases d <;> first | (cases hd; done) | skip
    rename_i i
    by_cases h0 : 0 ≤ i
    · simp [startE, is_integer_shw h, hd, below, dLe, dLt, cmp2, h0]
    · simp [startE, is_integer_shw h, hd, below, dLe, dLt, cmp2, h0]
def pr (a b : Int) : D := .tup [.int a, .int b]
def neI : D → D → Bool
  | .int i, .int j => !(i == j)
  | _, _ => false
def res2 (n : Int) : List D → Bool
  | [a, b] => below n a && (below n b && neI a b)
  | _ => false
def resB (n : Int) : D → Bool
  | .tup l => res2 n l
  | _ => false
theorem eq_int (neg : Bool) (a b : Int) : dEq neg (.int a) (.int b) m = .ok (.bl (if neg then !(a == b) else a == b)) m := by
  simp [dEq, strsD, eqD, pyM, viewL, py0, SeqAt.shaped, PyData.canLay0, PyData.depth, PyData.eqv]
theorem idx_tup (l : List D) (i : Int) (d : D) (h : atI l i = some d) : dIdx (.tup l) (.int i) m = .ok d m := by
  simp [dIdx, viewS, viewL, viewT, h]
theorem len_tup (l : List D) : bLen [.tup l] m = .ok (.int l.length) m := rfl
theorem below_int {n : Int} {d : D} (h : below n d = true) : ∃ i, d = .int i ∧ 0 ≤ i ∧ i < n := by
  cases d <;> first | (cases h; done) | (simp [below] at h; exact ⟨_, rfl, h⟩)
theorem resB_len {n : Int} {l : List D} (h : l.length ≠ 2) : resB n (.tup l) = false := by
  match l, h with
  | [], _ => rfl
  | [_], _ => rfl
  | _ :: _ :: _ :: _, _ => rfl
  | [_, _], h => exact absurd rfl h
theorem is_result_shw {d : D} {n : Int} (h : Shw d) : d_is_result [d, .int n] m = .ok (.bl (resB n d)) m := by
  unfold d_is_result body_is_result
  cases ht : isTupD d with
  | false =>
    have e : resB n d = false := by cases d <;> first | rfl | cases ht
    simp [startE, isi_tup h, ht, e]
  | true =>
    cases d <;> first | (cases ht; done) | skip
    rename_i l
    have hl := shw_tup.mp h
    by_cases h2 : l.length = 2
    · match l, h2, hl with
      | [a, b], _, hl =>
        have ha := hl a (by simp)
        have hb := hl b (by simp)
        have e2 : resB n (.tup [a, b]) = (below n a && (below n b && neI a b)) := rfl
        rw [e2]
        cases h3 : below n a with
        | false => simp [startE, isi_tup h, ht, len_tup, eq_int, idx_tup [a, b] 0 a rfl, idx_tup [a, b] 1 b rfl, is_below_shw ha, is_below_shw hb, h3]
        | true =>
          cases h4 : below n b with
          | false => simp [startE, isi_tup h, ht, len_tup, eq_int, idx_tup [a, b] 0 a rfl, idx_tup [a, b] 1 b rfl, is_below_shw ha, is_below_shw hb, h3, h4]
          | true =>
            obtain ⟨i, rfl, _⟩ := below_int h3
            obtain ⟨j, rfl, _⟩ := below_int h4
            simp [startE, isi_tup h, ht, len_tup, idx_tup [.int i, .int j] 0 (.int i) rfl, idx_tup [.int i, .int j] 1 (.int j) rfl, is_below_shw ha, is_below_shw hb, h3, h4, eq_int, neI]
    · have h3 : ¬ ((l.length : Int) = 2) := by omega
      simp [startE, isi_tup h, ht, len_tup, eq_int, resB_len h2, h3]
def prD (p : Int × Int) : D := pr p.1 p.2
def prP (p : Int × Int) : PyData := .tuple [.int p.1, .int p.2]
theorem py0_prs : ∀ ps : List (Int × Int), py0L (ps.map prD) = some (ps.map prP)
  | [] => rfl
  | p :: ps => by
    rw [List.map_cons, List.map_cons, py0L, py0_prs ps]
    rfl
theorem lay_prs : ∀ ps : List (Int × Int), PyData.canLayAll0 (ps.map prP) = true ∧ PyData.depthAll (ps.map prP) ≤ 1
  | [] => ⟨rfl, Nat.zero_le _⟩
  | p :: ps => by
    obtain ⟨h1, h2⟩ := lay_prs ps
    have z : PyData.depth (prP p) = 1 := by simp [prP, PyData.depth, PyData.depthAll]
    refine ⟨?_, ?_⟩
    · rw [List.map_cons, PyData.canLayAll0, h1]
      rfl
    · rw [List.map_cons, PyData.depthAll, z]
      omega
theorem shp_prs (ps : List (Int × Int)) : SeqAt.shaped (.list (ps.map prP)) = true := by
  obtain ⟨h1, h2⟩ := lay_prs ps
  unfold SeqAt.shaped
  rw [PyData.canLay0, PyData.depth, h1]
  simp; omega
theorem shp_pr (p : Int × Int) : SeqAt.shaped (prP p) = true := by
  simp [prP, SeqAt.shaped, PyData.canLay0, PyData.canLayAll0, PyData.depth, PyData.depthAll]
theorem in_prs (c d : Int) (ps : List (Int × Int)) : dIn false (.tup [.int c, .int d]) (.tup (ps.map prD)) m = .ok (.bl (ps.any fun z => z.1 == c && z.2 == d)) m := by
  have e1 : look m (.tup (ps.map prD)) (.tup [.int c, .int d]) = none := rfl
  have e2 : pyM m (.tup [.int c, .int d]) = some (prP (c, d)) := rfl
  have e3 : (viewS m (.tup (ps.map prD))).bind py0L = some (ps.map prP) := py0_prs ps
  unfold dIn
  rw [e1, e2, e3]
  dsimp only
  rw [if_pos ⟨shp_pr _, shp_prs ps⟩, List.any_map]
  simp [prP, PyData.eqv, PyData.eqvAll, Function.comp_def]
theorem res_pr {n : Int} {d : D} (h : resB n d = true) : ∃ a b : Int, d = pr a b ∧ 0 ≤ a ∧ a < n ∧ 0 ≤ b ∧ b < n ∧ a ≠ b := by
  cases d with
  | tup l =>
    match l, h with
    | [a, b], h =>
      have e : (below n a && (below n b && neI a b)) = true := h
      simp only [Bool.and_eq_true] at e
      obtain ⟨h1, h2, h3⟩ := e
      obtain ⟨i, rfl, h4, h5⟩ := below_int h1
      obtain ⟨j, rfl, h6, h7⟩ := below_int h2
      exact ⟨i, j, rfl, h4, h5, h6, h7, by simpa [neI] using h3⟩
    | [], h => cases h
    | [_], h => cases h
    | _ :: _ :: _ :: _, h => cases h
  | _ => cases h
theorem prs_of {n : Int} : ∀ {l : List D}, (∀ d ∈ l, resB n d = true) → ∃ ps : List (Int × Int), l = ps.map prD
  | [], _ => ⟨[], rfl⟩
  | d :: l, h => by
    obtain ⟨a, b, rfl, _⟩ := res_pr (h d (by simp))
    obtain ⟨ps, rfl⟩ := prs_of (l := l) fun x hx => h x (by simp [hx])
    exact ⟨(a, b) :: ps, rfl⟩
theorem le_pr (a b c d : Int) : dLe (pr a b) (pr c d) m = .ok (.bl (if a = c then decide (b ≤ d) else decide (a ≤ c))) m := by
  simp [dLe, cmp2, pr, cmpT, intsD, lexLe, Ob.lexAt]
  by_cases h : a = c <;> by_cases h2 : b = d <;> simp [h, h2]
theorem ge_pr (a b c d : Int) : dGe (pr a b) (pr c d) m = .ok (.bl (if a = c then decide (d ≤ b) else decide (c ≤ a))) m := by
  simp [dGe, cmp2, pr, cmpT, intsD, lexGe, Ob.lexAt]
  by_cases h : a = c <;> by_cases h2 : b = d <;> simp [h, h2]
/-- what is refused at a pair that stands behind those -/
def geP : D → D → Bool
  | .tup [.int a, .int b], .tup [.int c, .int d] => if c = a then decide (d ≤ b) else decide (c ≤ a)
  | _, _ => false
def revP : D → D → Bool
  | .tup [.int c, .int d], .tup [.int a, .int b] => a == d && b == c
  | _, _ => false
def badAt (n : Int) (pre : List D) (d : D) : Bool := !resB n d || ((match pre.getLast? with | some q => geP q d | none => false) || pre.any (revP d))
theorem cut_pre (pre rest : List D) : dCut false (.tup (pre ++ rest)) none (some ((pre.length : Nat) : Int)) m = .ok (.tup pre) m := by
  have e : Eng.cutD (pre ++ rest) none (some ((pre.length : Nat) : Int)) = pre := by
    unfold Eng.cutD
    rw [HT.sIx_nat, HT.sIx_none, List.length_append, Nat.min_eq_left (Nat.le_add_right _ _)]
    simp
  unfold dCut
  simp [viewL, e]
theorem at_pre (pre : List D) (q d : D) (rest : List D) : atI (pre ++ q :: d :: rest) (((pre.length + 1 : Nat) : Int) - 1) = some q := by
  have e : ixN (pre ++ q :: d :: rest).length (((pre.length + 1 : Nat) : Int) - 1) = some pre.length := by
    unfold ixN
    rw [if_pos (by omega), if_pos (by simp; omega)]
    simp
  unfold atI
  rw [e]
  simp
theorem any_rev (c d : Int) (ps : List (Int × Int)) : (ps.map prD).any (revP (pr c d)) = ps.any fun z => z.1 == d && z.2 == c := by
  rw [List.any_map]
  rfl
theorem last_or : ∀ pre : List D, pre = [] ∨ ∃ p q, pre = p ++ [q]
  | [] => .inl rfl
  | d :: l => .inr ⟨(d :: l).dropLast, (d :: l).getLast (by simp), (List.dropLast_concat_getLast (by simp)).symm⟩
theorem first_bad_tup {n : Int} {l : List D} (h1 : 1 ≤ n) (h2 : n ≤ 24) (hl : ∀ d ∈ l, Shw d) : d_first_bad [.int n, .tup l] m = .ok (match scanL (badAt n) [] l with | some i => .int (i : Nat) | none => .non) m := by
  unfold d_first_bad body_first_bad
  have hn : Shw (.int n) := rfl
  have ht : Shw (.tup l) := shw_tup.mpr hl
  simp [startE, is_integer_shw hn, isIntD, h1, h2, isi_tup ht, isTupD]
  refine for_scan_cl (fun pre env => (∃ x y, env = [some (.int n), some (.tup l), x, y]) ∧ ∀ d ∈ pre, resB n d = true) (badAt n) ⟨⟨_, _, rfl⟩, fun _ h => nomatch h⟩ ?_ ?_ ?_
  · intro pre d rest env e hI
    obtain ⟨⟨x, y, rfl⟩, hp⟩ := hI
    have hd : Shw d := hl d (by rw [e]; simp)
    refine ⟨[some (.int n), some (.tup l), some (.int (pre.length : Nat)), some d], ?_, fun hb => ⟨⟨_, _, rfl⟩, fun z hz => ?_⟩⟩
    · cases hr : resB n d with
      | false => simp [viewT, is_result_shw hd, hr, badAt]
      | true =>
        obtain ⟨a, b, rfl, _⟩ := res_pr hr
        rcases last_or pre with rfl | ⟨p, q, rfl⟩
        · subst e
          have hc := cut_pre (m := m) [] (pr a b :: rest)
          have hi := in_prs (m := m) b a []
          simp only [List.nil_append, List.length_nil, Int.natCast_zero, List.map_nil, pr, Int.ofNat_zero] at hc hi hd hr
          simp [viewT, is_result_shw hd, hr, badAt, pr, hc, hi]
        · have hq : resB n q = true := hp q (by simp)
          obtain ⟨c, d, rfl, _⟩ := res_pr hq
          obtain ⟨ps, hps⟩ := prs_of hp
          have hc := cut_pre (m := m) (p ++ [pr c d]) (pr a b :: rest)
          have ha := at_pre p (pr c d) (pr a b) rest
          have e' : (p ++ [pr c d]) ++ pr a b :: rest = p ++ pr c d :: pr a b :: rest := by simp
          rw [← e', ← e] at ha
          rw [← e, hps] at hc
          have hi := in_prs (m := m) b a ps
          have hl := le_pr (m := m) a b c d
          have hx := p_idxT (m := m) _ _ _ ha
          have hg : (0 : Int) < (p.length : Int) + 1 := by omega
          have e2 : ((p ++ [pr c d]).length : Nat) = p.length + 1 := by simp
          have hlen : (ps.map prD).length = p.length + 1 := by rw [← hps, e2]
          rw [hlen] at hc
          have e3 : badAt n (p ++ [pr c d]) (pr a b) = ((if a = c then decide (b ≤ d) else decide (a ≤ c)) || ps.any fun z => z.1 == b && z.2 == a) := by
            unfold badAt
            rw [hr]
            simp only [Bool.not_true, Bool.false_or, List.getLast?_concat]
            rw [hps, any_rev]
            rfl
          have hv : dRev false (pr a b) m = .ok (.tup [.int b, .int a]) m := rfl
          generalize (if a = c then decide (b ≤ d) else decide (a ≤ c)) = t at hl e3
          rw [e3, e2]
          simp only [Int.natCast_add, Int.natCast_one, Int.add_sub_cancel] at hx hc
          cases t <;> simp [viewT, is_result_shw hd, hr, hg, hx, hl, hv, hc, hi]
    · rcases List.mem_append.mp hz with hz | hz
      · exact hp z hz
      · obtain rfl : z = d := by simpa using hz
        simp only [badAt, Bool.or_eq_false_iff, Bool.not_eq_false'] at hb
        exact hb.1
  · intro i e; rw [e]
  · intro e e' hI; rw [e]; rfl
theorem first_bad_not {n : Int} {t : D} (h1 : 1 ≤ n) (h2 : n ≤ 24) (ht : Shw t) (hn : isTupD t = false) : d_first_bad [.int n, t] m = .ok (.int 0) m := by
  unfold d_first_bad body_first_bad
  have hi : Shw (.int n) := rfl
  simp [startE, is_integer_shw hi, isIntD, h1, h2, isi_tup ht, hn]
def placeOf (n : Int) : D → D
  | .tup l => match scanL (badAt n) [] l with
    | some i => .int (i : Nat)
    | none => .non
  | _ => .int 0
theorem scan_lt {t : List D → D → Bool} : ∀ {l pre : List D} {i : Nat}, scanL t pre l = some i → i < pre.length + l.length
  | [], _, _, h => by cases h
  | d :: l, pre, i, h => by
    unfold scanL at h
    split at h
    · cases h; simp
    · have := scan_lt h
      simp at this ⊢
      omega
theorem place_is {n : Int} {t : D} : placeOf n t = .non ∨ ∃ i : Nat, placeOf n t = .int (i : Nat) ∧ ∀ l, t = .tup l → i < l.length := by
  cases t with
  | tup l =>
    show (match scanL (badAt n) [] l with | some i => D.int (i : Nat) | none => .non) = .non ∨ _
    cases h : scanL (badAt n) [] l with
    | none => exact .inl rfl
    | some i =>
      refine .inr ⟨i, by show (match scanL (badAt n) [] l with | some i => D.int (i : Nat) | none => .non) = _; rw [h], fun l' e => ?_⟩
      cases e
      simpa using scan_lt h
  | _ => exact .inr ⟨0, rfl, fun l e => by cases e⟩
theorem first_bad_is {n : Int} {t : D} (h1 : 1 ≤ n) (h2 : n ≤ 24) (ht : Shw t) : d_first_bad [.int n, t] m = .ok (placeOf n t) m := by
  cases hn : isTupD t with
  | false =>
    rw [first_bad_not h1 h2 ht hn]
    cases t <;> first | rfl | cases hn
  | true =>
    cases t <;> first | (cases hn; done) | skip
    exact first_bad_tup h1 h2 (shw_tup.mp ht)
def ltP (p q : Int × Int) : Prop := p.1 < q.1 ∨ (p.1 = q.1 ∧ p.2 < q.2)
def Rt (n : Int) (ps : List (Int × Int)) : Prop := (∀ p ∈ ps, 0 ≤ p.1 ∧ p.1 < n ∧ 0 ≤ p.2 ∧ p.2 < n ∧ p.1 ≠ p.2) ∧ ps.Pairwise ltP ∧ ∀ p ∈ ps, (p.2, p.1) ∉ ps
theorem ltP_trans {p q r : Int × Int} (h : ltP p q) (h2 : ltP q r) : ltP p r := by unfold ltP at *; omega
theorem res_prD {n : Int} {p : Int × Int} : resB n (prD p) = true ↔ (0 ≤ p.1 ∧ p.1 < n ∧ 0 ≤ p.2 ∧ p.2 < n ∧ p.1 ≠ p.2) := by
  show (below n (.int p.1) && (below n (.int p.2) && neI (.int p.1) (.int p.2))) = true ↔ _
  simp [below, neI, and_assoc]
theorem bad_snoc {n : Int} {qs : List (Int × Int)} {q p : Int × Int} : badAt n ((qs ++ [q]).map prD) (prD p) = false ↔ resB n (prD p) = true ∧ ltP q p ∧ (p.2, p.1) ∉ qs ++ [q] := by
  unfold badAt
  rw [List.map_append]
  have e1 : (qs.map prD ++ [q].map prD).getLast? = some (prD q) := by simp
  rw [e1, ← List.map_append]
  have e2 : ((qs ++ [q]).map prD).any (revP (prD p)) = (qs ++ [q]).any fun z => z.1 == p.2 && z.2 == p.1 := any_rev p.1 p.2 _
  rw [e2, Bool.or_eq_false_iff, Bool.or_eq_false_iff, Bool.not_eq_false']
  have e3 : geP (prD q) (prD p) = false ↔ ltP q p := by
    show (if p.1 = q.1 then decide (p.2 ≤ q.2) else decide (p.1 ≤ q.1)) = false ↔ _
    unfold ltP
    split <;> simp <;> omega
  have e4 : ((qs ++ [q]).any fun z => z.1 == p.2 && z.2 == p.1) = false ↔ (p.2, p.1) ∉ qs ++ [q] := by
    rw [List.any_eq_false]
    constructor
    · intro h hm
      have := h _ hm
      simp at this
    · intro h z hz
      simp only [Bool.and_eq_true, beq_iff_eq, not_and]
      intro h1 h2
      exact h (by rw [← h1, ← h2]; exact hz)
  dsimp only
  rw [e3, e4]
theorem bad_nil {n : Int} {p : Int × Int} : badAt n [] (prD p) = false ↔ resB n (prD p) = true := by
  unfold badAt
  simp
theorem rt_snoc {n : Int} {qs : List (Int × Int)} {p : Int × Int} (h : Rt n qs) (hb : badAt n (qs.map prD) (prD p) = false) : Rt n (qs ++ [p]) := by
  obtain ⟨a1, a2, a3⟩ := h
  have key : resB n (prD p) = true ∧ (∀ q ∈ qs, ltP q p) ∧ (p.2, p.1) ∉ qs := by
    rcases List.eq_nil_or_concat qs with rfl | ⟨r, q, rfl⟩
    · exact ⟨bad_nil.mp hb, by simp, by simp⟩
    · rw [List.concat_eq_append] at *
      obtain ⟨h1, h2, h3⟩ := bad_snoc.mp hb
      refine ⟨h1, fun x hx => ?_, h3⟩
      rcases List.mem_append.mp hx with hx | hx
      · exact ltP_trans ((List.pairwise_append.mp a2).2.2 x hx q (by simp)) h2
      · obtain rfl : x = q := by simpa using hx
        exact h2
  obtain ⟨k1, k2, k3⟩ := key
  have kr := res_prD.mp k1
  refine ⟨fun x hx => ?_, List.pairwise_append.mpr ⟨a2, by simp, fun x hx y hy => ?_⟩, fun x hx hm => ?_⟩
  · rcases List.mem_append.mp hx with hx | hx
    · exact a1 x hx
    · obtain rfl : x = p := by simpa using hx
      exact kr
  · obtain rfl : y = p := by simpa using hy
    exact k2 x hx
  · rcases List.mem_append.mp hx with hx | hx
    · rcases List.mem_append.mp hm with hm | hm
      · exact a3 x hx hm
      · have e : (x.2, x.1) = p := by simpa using hm
        exact k3 (by rw [← e]; exact hx)
    · obtain rfl : x = p := by simpa using hx
      rcases List.mem_append.mp hm with hm | hm
      · exact k3 hm
      · have e : (x.2, x.1) = x := by simpa using hm
        have e1 : x.2 = x.1 := congrArg Prod.fst e
        exact kr.2.2.2.2 e1.symm
theorem bad_res {n : Int} {pre : List D} {d : D} (h : badAt n pre d = false) : resB n d = true := by
  unfold badAt at h
  rw [Bool.or_eq_false_iff, Bool.not_eq_false'] at h
  exact h.1
theorem rt_scan {n : Int} : ∀ {rest : List D} {qs : List (Int × Int)}, Rt n qs → scanL (badAt n) (qs.map prD) rest = none → ∃ ps, qs.map prD ++ rest = ps.map prD ∧ Rt n ps
  | [], qs, h, _ => ⟨qs, by simp, h⟩
  | d :: rest, qs, h, hs => by
    unfold scanL at hs
    split at hs
    · cases hs
    · rename_i hb
      have hb : badAt n (qs.map prD) d = false := by simpa using hb
      obtain ⟨a, b, rfl, _⟩ := res_pr (bad_res hb)
      obtain ⟨ps, e1, e2⟩ := rt_scan (rest := rest) (rt_snoc (p := (a, b)) h hb) (by rw [List.map_append]; exact hs)
      exact ⟨ps, by rw [← e1]; simp [prD], e2⟩
theorem scan_rt {n : Int} : ∀ {r qs : List (Int × Int)}, Rt n (qs ++ r) → scanL (badAt n) (qs.map prD) (r.map prD) = none
  | [], _, _ => rfl
  | p :: r, qs, h => by
    have hb : badAt n (qs.map prD) (prD p) = false := by
      obtain ⟨a1, a2, a3⟩ := h
      have hr := res_prD.mpr (a1 p (by simp))
      rcases List.eq_nil_or_concat qs with rfl | ⟨t, q, rfl⟩
      · exact bad_nil.mpr hr
      · rw [List.concat_eq_append] at *
        refine bad_snoc.mpr ⟨hr, (List.pairwise_append.mp a2).2.2 q (by simp) p (by simp), fun hm => a3 p (by simp) ?_⟩
        exact List.mem_append_left _ hm
    rw [List.map_cons]
    unfold scanL
    rw [if_neg (by simp [hb])]
    have := scan_rt (n := n) (r := r) (qs := qs ++ [p]) (by rw [List.append_assoc]; exact h)
    rw [List.map_append] at this
    exact this
theorem place_non {n : Int} {t : D} : placeOf n t = .non ↔ ∃ ps, t = .tup (ps.map prD) ∧ Rt n ps := by
  constructor
  · intro h
    cases t <;> first | (cases h; done) | skip
    rename_i l
    cases hs : scanL (badAt n) [] l with
    | some i =>
      have h' : (match scanL (badAt n) [] l with | some i => D.int (i : Nat) | none => .non) = .non := h
      rw [hs] at h'
      cases h'
    | none =>
      obtain ⟨ps, e, hr⟩ := rt_scan (n := n) (rest := l) (qs := []) (by unfold Rt; simp) hs
      exact ⟨ps, by rw [← e]; rfl, hr⟩
  · rintro ⟨ps, rfl, hr⟩
    show (match scanL (badAt n) [] (ps.map prD) with | some i => D.int (i : Nat) | none => .non) = .non
    have h0 := scan_rt (n := n) (qs := []) (r := ps) (by simpa using hr)
    rw [show scanL (badAt n) [] (ps.map prD) = none from h0]
def lePB (p q : Int × Int) : Bool := decide (p.1 < q.1 ∨ (p.1 = q.1 ∧ p.2 ≤ q.2))
def srt (ps : List (Int × Int)) : List (Int × Int) := ps.mergeSort lePB
theorem enc_pr (p : Int × Int) : encD (prD p) = .tuple [.int p.1, .int p.2] := rfl
theorem sort_prs (ps : List (Int × Int)) : (ps.map prD).mergeSort (PySem.W.dataLe false encD) = (srt ps).map prD := by
  unfold srt
  refine (List.map_mergeSort (f := prD) fun a _ b _ => ?_).symm
  have e := congrFun (congrFun (PySem.W.dataLe_ii (β := Int × Int) (fun b => b.1) (fun b => b.2)) a) b
  exact e.symm
theorem ok_prs (ps : List (Int × Int)) : sortOk (ps.map prD) = true := by
  unfold sortOk allSome alikeAllB
  simp only [Bool.and_eq_true, Bool.or_eq_true, List.all_eq_true, List.mem_map, forall_exists_index, and_imp, forall_apply_eq_imp_iff₂, decide_eq_true_eq]
  refine ⟨⟨⟨fun p _ => rfl, fun p _ q _ => rfl⟩, .inl fun p _ => rfl⟩, fun p _ => ?_⟩
  rw [enc_pr]
  simp [PyData.depth, PyData.depthAll]
theorem sortD_prs {d : D} {ps : List (Int × Int)} (h : viewS m d = some (ps.map prD)) : sortD false d m = .ok (.lst ((srt ps).map prD)) m := by
  unfold sortD
  rw [h]
  dsimp only
  rw [if_pos (ok_prs ps), sort_prs]
  rfl
theorem srt_perm (ps : List (Int × Int)) : (srt ps).Perm ps := List.mergeSort_perm _ _
theorem srt_le (ps : List (Int × Int)) : (srt ps).Pairwise fun p q => lePB p q = true := by
  refine List.pairwise_mergeSort (fun a b c h1 h2 => ?_) (fun a b => ?_) ps
  · simp only [lePB, decide_eq_true_eq] at *; omega
  · simp only [lePB, Bool.or_eq_true, decide_eq_true_eq]; omega
def un (p q : Int × Int) : Prop := p ≠ q ∧ p ≠ (q.2, q.1)
theorem un_symm {p q : Int × Int} (h : un p q) : un q p := by
  refine ⟨fun e => h.1 e.symm, fun e => h.2 ?_⟩
  rw [e]
theorem pw_mem : ∀ {l : List (Int × Int)}, l.Pairwise un → ∀ x ∈ l, ∀ y ∈ l, x = y ∨ un x y
  | [], _, _, h, _, _ => nomatch h
  | a :: l, h, x, hx, y, hy => by
    rw [List.pairwise_cons] at h
    rcases List.mem_cons.mp hx with e | h1
    · rcases List.mem_cons.mp hy with e2 | h2
      · exact .inl (e.trans e2.symm)
      · subst e; exact .inr (h.1 y h2)
    · rcases List.mem_cons.mp hy with e2 | h2
      · subst e2; exact .inr (un_symm (h.1 x h1))
      · exact pw_mem h.2 x h1 y h2
/-- pairs of two, each two once: sorted they are right results -/
theorem rt_srt {n : Int} {ps : List (Int × Int)} (h1 : ∀ p ∈ ps, 0 ≤ p.1 ∧ p.1 < n ∧ 0 ≤ p.2 ∧ p.2 < n ∧ p.1 ≠ p.2) (h2 : ps.Pairwise un) : Rt n (srt ps) := by
  have hp := srt_perm ps
  have h3 : (srt ps).Pairwise un := (hp.pairwise_iff (fun h => un_symm h)).mpr h2
  have h4 := (srt_le ps).and h3
  refine ⟨fun p hm => h1 p (hp.mem_iff.mp hm), h4.imp fun {a b} h => ?_, fun p hm hm2 => ?_⟩
  · obtain ⟨q1, q2, _⟩ := h
    simp only [lePB, decide_eq_true_eq] at q1
    have : ¬ (a.1 = b.1 ∧ a.2 = b.2) := fun e => q2 (Prod.ext e.1 e.2)
    unfold ltP
    omega
  · have hne := (h1 p (hp.mem_iff.mp hm)).2.2.2.2
    have hd : p ≠ (p.2, p.1) := fun e => hne (congrArg Prod.fst e)
    have := pw_mem h3 p hm _ hm2
    rcases this with e | ⟨_, e⟩
    · exact hd e
    · exact e rfl
theorem len_srt (ps : List (Int × Int)) : (srt ps).length = ps.length := (srt_perm ps).length_eq
theorem ne_mt : ¬ (Str.ofString "many" = Str.ofString "told") := by decide
theorem init_ok {o t : D} (hf : ∀ m', d_first_bad [o, t] m' = .ok .non m') : d_Round_init [.ref m.length, o, t] (m ++ [.ins 0 [] []]) = .ok .non (m ++ [.ins 0 ["many", "told"] [o, t]]) := by
  unfold d_Round_init body_Round_init
  simp [startE, hf, setA, fls, putFL, Eng.isNon, ne_mt]
theorem init_bad {o t : D} {i : Int} {m' : Mem} {k : Nat} (hf : ∀ m', d_first_bad [o, t] m' = .ok (.int i) m') : d_Round_init [.ref k, o, t] m' = .exn ⟨2, some (.int i)⟩ m' := by
  unfold d_Round_init body_Round_init
  simp [startE, hf, Eng.isNon]
theorem eqvAll_prs : ∀ ps qs : List (Int × Int), PyData.eqvAll (ps.map prP) (qs.map prP) = decide (ps = qs)
  | [], [] => rfl
  | [], q :: qs => by simp [PyData.eqvAll]
  | p :: ps, [] => by simp [PyData.eqvAll]
  | p :: ps, q :: qs => by
    rw [List.map_cons, List.map_cons, PyData.eqvAll, eqvAll_prs ps qs]
    obtain ⟨a, b⟩ := p
    obtain ⟨c, d⟩ := q
    simp only [prP, PyData.eqv, PyData.eqvAll, List.cons.injEq, Prod.mk.injEq, Bool.and_true]
    by_cases h1 : a = c <;> by_cases h2 : b = d <;> by_cases h3 : ps = qs <;> simp [h1, h2, h3]
theorem shp_prsT (ps : List (Int × Int)) : SeqAt.shaped (.tuple (ps.map prP)) = true := by
  obtain ⟨h1, h2⟩ := lay_prs ps
  unfold SeqAt.shaped
  rw [PyData.canLay0, PyData.depth, h1]
  simp; omega
theorem eq_prs (neg : Bool) (ps qs : List (Int × Int)) : dEq neg (.tup (ps.map prD)) (.tup (qs.map prD)) m = .ok (.bl (if neg then !decide (ps = qs) else decide (ps = qs))) m := by
  have e1 : ∀ ps : List (Int × Int), pyM m (.tup (ps.map prD)) = some (.tuple (ps.map prP)) := fun ps => by
    show py0 (.tup (ps.map prD)) = _
    rw [py0, py0_prs]; rfl
  unfold dEq
  have e2 : strsD (.tup (ps.map prD)) (.tup (qs.map prD)) = none := rfl
  rw [e2]
  dsimp only
  unfold eqD
  rw [e1, e1]
  dsimp only
  rw [if_pos ⟨shp_prsT ps, shp_prsT qs⟩, PyData.eqv, eqvAll_prs]
theorem eq_rnd (neg : Bool) (n k : Int) (ps qs : List (Int × Int)) : dEq neg (.tup [.int n, .tup (ps.map prD)]) (.tup [.int k, .tup (qs.map prD)]) m = .ok (.bl (if neg then !decide (n = k ∧ ps = qs) else decide (n = k ∧ ps = qs))) m := by
  have e1 : ∀ (n : Int) (ps : List (Int × Int)), pyM m (.tup [.int n, .tup (ps.map prD)]) = some (.tuple [.int n, .tuple (ps.map prP)]) := fun n ps => by
    show py0 (.tup [.int n, .tup (ps.map prD)]) = _
    rw [py0, py0L, py0L, py0L, py0, py0, py0_prs]; rfl
  have s1 : ∀ (n : Int) (ps : List (Int × Int)), SeqAt.shaped (.tuple [.int n, .tuple (ps.map prP)]) = true := fun n ps => by
    obtain ⟨h1, h2⟩ := lay_prs ps
    unfold SeqAt.shaped
    simp only [PyData.canLay0, PyData.canLayAll0, PyData.depth, PyData.depthAll, h1]
    simp; omega
  unfold dEq
  have e2 : strsD (.tup [.int n, .tup (ps.map prD)]) (.tup [.int k, .tup (qs.map prD)]) = none := rfl
  rw [e2]
  dsimp only
  unfold eqD
  rw [e1, e1]
  dsimp only
  rw [if_pos ⟨s1 n ps, s1 k qs⟩]
  have hnk : (n == k) = decide (n = k) := by by_cases h : n = k <;> simp [h, beq_false_of_ne]
  simp only [PyData.eqv, PyData.eqvAll, eqvAll_prs, Bool.and_true, hnk]
  by_cases h1 : n = k <;> by_cases h2 : ps = qs <;> simp [h1, h2]
def rnd (n : Int) (ps : List (Int × Int)) : D := .ins 0 ["many", "told"] [.int n, .tup (ps.map prD)]
theorem make_ok {n : Int} {ps : List (Int × Int)} (h1 : 1 ≤ n) (h2 : n ≤ 24) (hr : Rt n ps) : mkI 0 true d_Round_init [.int n, .tup (ps.map prD)] m = .ok (rnd n ps) (m ++ [.dead]) := by
  have fb : ∀ m', d_first_bad [.int n, .tup (ps.map prD)] m' = .ok .non m' := fun m' => by
    rw [first_bad_is h1 h2, place_non.mpr ⟨ps, rfl, hr⟩]
    refine shw_tup.mpr fun d hd => ?_
    obtain ⟨p, _, rfl⟩ := List.mem_map.mp hd
    rfl
  have e := init_ok (m := m) fb
  unfold mkI
  rw [e]
  dsimp only
  rw [if_pos rfl, get_top]
  dsimp only
  rw [set_top]
  rfl
theorem at_many (n : Int) (ps : List (Int × Int)) : attrD 1 fls "many" (rnd n ps) m = .ok (.int n) m := by
  simp [attrD, rnd, insV, fls, find1, ne_mt]
theorem at_told (n : Int) (ps : List (Int × Int)) : attrD 1 fls "told" (rnd n ps) m = .ok (.tup (ps.map prD)) m := by
  simp [attrD, rnd, insV, fls, find1, ne_mt]
theorem isi_rnd (n : Int) (ps : List (Int × Int)) : isiD 1 [.own 0] (rnd n ps) m = .ok (.bl true) m := by
  simp [isiD, rnd, tyOf, isTys, isTy, tyB]
theorem own_rnd (neg : Bool) (n k : Int) (ps qs : List (Int × Int)) : eqO 0 1 d_Round_eq neg (dEq neg) (rnd n ps) (rnd k qs) m = .ok (.bl (if neg then !decide (n = k ∧ ps = qs) else decide (n = k ∧ ps = qs))) m := by
  have e : d_Round_eq [rnd n ps, rnd k qs] m = .ok (.bl (decide (n = k ∧ ps = qs))) m := by
    unfold d_Round_eq body_Round_eq
    simp [startE, isi_rnd, at_many, at_told, eq_rnd]
  show ownD 0 1 d_Round_eq neg (rnd n ps) (rnd k qs) m = _
  unfold ownD
  rw [e]
  show R.ok (D.bl (decide (n = k ∧ ps = qs) != neg)) m = _
  cases neg <;> simp
theorem own_no (neg : Bool) (n : Int) (ps : List (Int × Int)) {y : D} {t : String} (hy : tyOf m y = some (.bi t)) (hi : isiD 1 [.own 0] y m = .ok (.bl false) m) : eqO 0 1 d_Round_eq neg (dEq neg) (rnd n ps) y m = .ok (.bl neg) m := by
  have e : d_Round_eq [rnd n ps, y] m = .ok (.bl false) m := by
    unfold d_Round_eq body_Round_eq
    simp [startE, hi]
  show ownD 0 1 d_Round_eq neg (rnd n ps) y m = _
  unfold ownD
  rw [e, hy]
  show (if tyB 1 (.bi t) = true then R.ok (D.bl (false != neg)) m else .bad) = _
  rw [if_pos (show tyB 1 (.bi t) = true from rfl)]
  cases neg <;> rfl
end Wk

set_option maxRecDepth 100000
set_option maxHeartbeats 1000000
namespace Wk
open PySem PySem.Spec PyProof.Rows L2 Eng
variable {m : Mem}
/-! words: numbers of one sign or two -/
def figs : List Nat := [48, 49, 50, 51, 52, 53, 54, 55, 56, 57]
theorem figs_eq : (Str.ofString "0123456789").cps.toList = figs := by decide +kernel
theorem in_figs (c : Nat) : dIn false (.str ⟨#[c]⟩) (.str "0123456789") m = .ok (.bl (decide (c ∈ figs))) m := by
  have e : (!(Builtin.Str.occurrences (Str.ofString "0123456789") ⟨#[c]⟩ 0 (Str.ofString "0123456789").length 1).isEmpty) = decide (c ∈ figs) := by
    rw [StrLaws.found_one, figs_eq]
  show R.ok (D.bl (if false = true then _ else (!(Builtin.Str.occurrences (Str.ofString "0123456789") ⟨#[c]⟩ 0 (Str.ofString "0123456789").length 1).isEmpty))) m = _
  rw [if_neg (by simp), e]
/-- the number of a word -/
def numL : List Nat → Option Int
  | [c] => if c ∈ figs then some ((c : Int) - 48) else none
  | [c, d] => if c ∈ figs ∧ d ∈ figs ∧ c ≠ 48 then some (10 * ((c : Int) - 48) + ((d : Int) - 48)) else none
  | _ => none
def numI (w : Str) : Option Int := numL w.cps.toList
def optD : Option Int → D
  | some i => .int i
  | none => .non
theorem str1 (w : Str) : ∀ l, w.cps.toList = l → w = ⟨l.toArray⟩ := fun l h => by
  cases w with
  | mk a => cases h; simp
theorem int1 : ∀ i : Fin 10, PySem.intText? ⟨#[48 + i.val]⟩ = some (i.val : Int) := by decide +kernel
theorem int2 : ∀ i j : Fin 10, PySem.intText? ⟨#[48 + i.val, 48 + j.val]⟩ = some (10 * (i.val : Int) + (j.val : Int)) := by decide +kernel
theorem show1 : ∀ i : Fin 10, Str.ofString (toString ((i.val : Nat) : Int)) = ⟨#[48 + i.val]⟩ := by decide +kernel
theorem show2 : ∀ i j : Fin 10, i.val ≠ 0 → Str.ofString (toString (10 * ((i.val : Nat) : Int) + ((j.val : Nat) : Int))) = ⟨#[48 + i.val, 48 + j.val]⟩ := by decide +kernel
theorem fig_fin {c : Nat} (h : c ∈ figs) : ∃ i : Fin 10, c = 48 + i.val := by
  simp only [figs, List.mem_cons, List.not_mem_nil, or_false] at h
  exact ⟨⟨c - 48, by omega⟩, by show c = 48 + (c - 48); omega⟩
theorem int_word {w : Str} {i : Int} (h : numI w = some i) : intD (.str w) m = .ok (.int i) m ∧ 0 ≤ i ∧ i < 100 ∧ Str.ofString (toString i) = w ∧ strD (.int i) m = .ok (.str w) m := by
  have key : PySem.intText? w = some i ∧ w.length ≤ 2 ∧ 0 ≤ i ∧ i < 100 ∧ Str.ofString (toString i) = w := by
    unfold numI at h
    generalize q : w.cps.toList = l at h
    match l, h, q with
    | [c], h, q =>
      obtain rfl := str1 w _ q
      dsimp only [numL] at h
      by_cases hc : c ∈ figs
      · rw [if_pos hc] at h
        cases h
        obtain ⟨k, rfl⟩ := fig_fin hc
        have e : ((48 + k.val : Nat) : Int) - 48 = (k.val : Int) := by omega
        have := k.isLt
        rw [e]
        exact ⟨int1 k, by show (1 : Nat) ≤ 2; omega, by omega, by omega, show1 k⟩
      · rw [if_neg hc] at h; cases h
    | [c, d], h, q =>
      obtain rfl := str1 w _ q
      dsimp only [numL] at h
      by_cases hc : c ∈ figs ∧ d ∈ figs ∧ c ≠ 48
      · rw [if_pos hc] at h
        cases h
        obtain ⟨k, rfl⟩ := fig_fin hc.1
        obtain ⟨j, rfl⟩ := fig_fin hc.2.1
        have e : ((48 + k.val : Nat) : Int) - 48 = (k.val : Int) := by omega
        have e2 : ((48 + j.val : Nat) : Int) - 48 = (j.val : Int) := by omega
        have := k.isLt
        have := j.isLt
        have hk := hc.2.2
        rw [e, e2]
        exact ⟨int2 k j, by show (2 : Nat) ≤ 2; omega, by omega, by omega, show2 k j (by omega)⟩
      · rw [if_neg hc] at h; cases h
    | [], h, _ => cases h
    | _ :: _ :: _ :: _, h, _ => cases h
  obtain ⟨k1, k2, k3, k4, k5⟩ := key
  refine ⟨?_, k3, k4, k5, ?_⟩
  · show (match PySem.intText? w with
      | some n => if w.length ≤ 640 then R.ok (D.int n) m else .bad
      | none => .bad) = _
    rw [k1]
    dsimp only
    rw [if_pos (by omega)]
  · rw [p_str (by omega)]
    exact congrArg (fun z => R.ok (D.str z) m) k5
end Wk

set_option maxRecDepth 100000
set_option maxHeartbeats 1000000
namespace Wk
open PySem PySem.Spec PyProof.Rows L2 Eng
variable {m : Mem}
theorem len_str {w : Str} (h : w.length ≤ 1000000) : bLen [.str w] m = .ok (.int (w.length : Nat)) m := by
  have h2 : w.length ≤ sizeLine := Nat.le_trans h (by decide)
  have e : lenD m (.str w) = some w.length := by
    show (if w.length ≤ sizeLine then some w.length else none) = _
    rw [if_pos h2]
  show (match lenD m (.str w) with
    | some n => R.ok (D.int n) m
    | none => .bad) = _
  rw [e]
theorem idx_str {w : Str} {c : Nat} {l : List Nat} (h : w.cps.toList = c :: l) (hl : w.length ≤ 1000000) : dIdx (.str w) (.int 0) m = .ok (.str ⟨#[c]⟩) m := by
  have h2 : w.length ≤ sizeLine := Nat.le_trans hl (by decide)
  have e : atI w.cps.toList 0 = some c := by
    unfold atI ixN
    rw [h, if_pos (by omega), if_pos (by simp)]
    rfl
  show (if w.length ≤ sizeLine then (match atI w.cps.toList 0 with
      | some c => R.ok (D.str ⟨#[c]⟩) m
      | none => .bad) else .bad) = _
  rw [if_pos h2, e]
theorem eq_str (neg : Bool) (a b : Str) : dEq neg (.str a) (.str b) m = .ok (.bl (if neg then !(a == b) else a == b)) m := by
  cases neg <;> rfl
theorem zero_eq (c : Nat) : ((⟨#[c]⟩ : Str) == Str.ofString "0") = decide (c = 48) := by
  have e : Str.ofString "0" = ⟨#[48]⟩ := by decide +kernel
  rw [e]
  by_cases h : c = 48
  · subst h; simp
  · rw [decide_eq_false h, beq_eq_false_iff_ne]
    intro z; cases z; exact h rfl
def figD : D → D
  | .str z => match z.cps.toList with
    | [c] => .bl (decide (c ∈ figs))
    | _ => .bl false
  | d => d
theorem figs_lc {w : Str} (hl : w.length ≤ 1000000 - 1) (i : Nat) (env0 : Eng.Env) (hi : i < env0.length) {f : Eng.Env → M D} (hf : ∀ c, f (env0.set i (some (.str ⟨#[c]⟩))) m = .ok (.bl (decide (c ∈ figs))) m) :
    lcD false (fun d env => pure (env.set i (some d))) (fun _ => pure true) f env0 (Eng.signs w) m = .ok (.lst (w.cps.toList.map fun c => .bl (decide (c ∈ figs)))) m := by
  have e := lcD_map (m := m) (g := fun d env => pure (env.set i (some d))) (t := fun _ => pure true) (e := f) (env0 := env0) (l := Eng.signs w) figD (by unfold Eng.signs; rw [List.length_map, Array.length_toList]; exact Nat.lt_of_le_of_lt hl (by decide)) (fun d hd => by
    unfold Eng.signs at hd
    obtain ⟨c, _, rfl⟩ := List.mem_map.mp hd
    exact ⟨_, rfl, rfl, hf c⟩)
  rw [e]
  unfold Eng.signs
  rw [List.map_map]
  rfl
theorem number_of_ok {w : Str} (hl : w.length ≤ 900000) : d_number_of [.str w, .int 2] m = .ok (optD (numI w)) m := by
  have hlen := len_str (m := m) (w := w) (by omega)
  have lc := fun (env0 : Eng.Env) (f : Eng.Env → M D) (h : 2 < env0.length) (hf : ∀ c, f (env0.set 2 (some (.str ⟨#[c]⟩))) m = .ok (.bl (decide (c ∈ figs))) m) => figs_lc (m := m) (w := w) (by omega) 2 env0 h hf
  have all := all_map (m := m) (fun c : Nat => decide (c ∈ figs)) w.cps.toList
  have ws : w.length = w.cps.toList.length := by rw [Array.length_toList]; rfl
  have it : ∀ m, itemsD (.str w) m = .ok (Eng.signs w) m := fun m => rfl
  have iw := fun i (h : numI w = some i) => (int_word (m := m) h).1
  unfold d_number_of body_number_of
  generalize q : w.cps.toList = l at *
  have hnum : numI w = numL l := by unfold numI; rw [q]
  rw [hnum] at iw ⊢
  match l, q, ws, all, iw, lc with
  | [], q, ws, all, iw, lc =>
    rw [ws] at hlen
    simp [startE, hlen, numL, optD]
  | _ :: _ :: _ :: l, q, ws, all, iw, lc =>
    have h3 : (1 : Int) ≤ (w.length : Nat) := by rw [ws]; simp; omega
    have h4 : ¬ ((w.length : Nat) : Int) ≤ 2 := by rw [ws]; simp; omega
    simp [startE, hlen, h3, h4, numL, optD]
  | [c], q, ws, all, iw, lc =>
    rw [ws] at hlen
    simp [startE, hlen, it, wipeE]
    rw [lc _ _ (by simp) (fun c => by simp [in_figs])]
    by_cases hc : c ∈ figs
    · have iw := iw ((c : Int) - 48) (if_pos hc)
      simp [hc] at all
      simp [all, hc, hlen, iw, numL, optD]
    · simp [hc] at all
      simp [all, hc, numL, optD]
  | [c, d], q, ws, all, iw, lc =>
    rw [ws] at hlen
    have ix := idx_str (m := m) q (by omega)
    simp [startE, hlen, it, wipeE]
    rw [lc _ _ (by simp) (fun c => by simp [in_figs])]
    by_cases hc : c ∈ figs
    · by_cases hd : d ∈ figs
      · simp [hc, hd] at all
        by_cases h0 : c = 48
        · subst h0
          simp [all, hc, hd, hlen, ix, eq_str, zero_eq, numL, optD]
        · have iw := iw (10 * ((c : Int) - 48) + ((d : Int) - 48)) (if_pos ⟨hc, hd, h0⟩)
          simp [all, hc, hd, hlen, ix, eq_str, zero_eq, h0, iw, numL, optD]
      · simp [hc, hd] at all
        simp [all, hc, hd, numL, optD]
    · simp [hc] at all
      simp [all, hc, numL, optD]
theorem law_number_ok {w : Str} (hl : w.length ≤ 900000) : d_law_number [.str w] m = .ok (optD (numI w)) m := by
  have hlen := len_str (m := m) (w := w) (by omega)
  have lc := fun (env0 : Eng.Env) (f : Eng.Env → M D) (h : 1 < env0.length) (hf : ∀ c, f (env0.set 1 (some (.str ⟨#[c]⟩))) m = .ok (.bl (decide (c ∈ figs))) m) => figs_lc (m := m) (w := w) (by omega) 1 env0 h hf
  have all := all_map (m := m) (fun c : Nat => decide (c ∈ figs)) w.cps.toList
  have ws : w.length = w.cps.toList.length := by rw [Array.length_toList]; rfl
  have it : ∀ m, itemsD (.str w) m = .ok (Eng.signs w) m := fun m => rfl
  have iw := fun i (h : numI w = some i) => (int_word (m := m) h).1
  unfold d_law_number body_law_number
  generalize q : w.cps.toList = l at *
  have hnum : numI w = numL l := by unfold numI; rw [q]
  rw [hnum] at iw ⊢
  match l, q, ws, all, iw, lc with
  | [], q, ws, all, iw, lc =>
    rw [ws] at hlen
    simp [startE, hlen, numL, optD]
  | _ :: _ :: _ :: l, q, ws, all, iw, lc =>
    have h3 : (1 : Int) ≤ (w.length : Nat) := by rw [ws]; simp; omega
    have h4 : ¬ ((w.length : Nat) : Int) ≤ 2 := by rw [ws]; simp; omega
    simp [startE, hlen, h3, h4, numL, optD]
  | [c], q, ws, all, iw, lc =>
    rw [ws] at hlen
    simp [startE, hlen, it, wipeE]
    rw [lc _ _ (by simp) (fun c => by simp [in_figs])]
    by_cases hc : c ∈ figs
    · have iw := iw ((c : Int) - 48) (if_pos hc)
      simp [hc] at all
      simp [all, hc, hlen, iw, numL, optD]
    · simp [hc] at all
      simp [all, hc, numL, optD]
  | [c, d], q, ws, all, iw, lc =>
    rw [ws] at hlen
    have ix := idx_str (m := m) q (by omega)
    simp [startE, hlen, it, wipeE]
    rw [lc _ _ (by simp) (fun c => by simp [in_figs])]
    by_cases hc : c ∈ figs
    · by_cases hd : d ∈ figs
      · simp [hc, hd] at all
        by_cases h0 : c = 48
        · subst h0
          simp [all, hc, hd, hlen, ix, eq_str, zero_eq, numL, optD]
        · have iw := iw (10 * ((c : Int) - 48) + ((d : Int) - 48)) (if_pos ⟨hc, hd, h0⟩)
          simp [all, hc, hd, hlen, ix, eq_str, zero_eq, h0, iw, numL, optD]
      · simp [hc, hd] at all
        simp [all, hc, hd, numL, optD]
    · simp [hc] at all
      simp [all, hc, numL, optD]
end Wk

set_option maxRecDepth 100000
set_option maxHeartbeats 1000000
namespace Wk
open PySem PySem.Spec PyProof.Rows L2 Eng
variable {m : Mem}
/-! rows: words with one blank between -/
abbrev sp : Str := Str.ofString " "
abbrev nl : Str := Str.ofString "\n"
theorem sp_len : sp.length = 1 := by decide +kernel
theorem nl_len : nl.length = 1 := by decide +kernel
theorem app_len (a b : Str) : (a ++ b).length = a.length + b.length := by
  show (a.cps ++ b.cps).size = a.cps.size + b.cps.size
  rw [Array.size_append]
theorem join_len {s : Str} (h : s.length = 1) : ∀ (r : List Str) (x : Str), (Str.join s (x :: r)).length = x.length + (r.map fun y => y.length + 1).sum
  | [], x => by show x.length = _; simp
  | y :: r, x => by
    show (x ++ s ++ Str.join s (y :: r)).length = _
    rw [app_len, app_len, h, join_len h r y, List.map_cons, List.sum_cons]
    omega
theorem split_ne (x : Str) {s : Str} (h : s.length = 1) : Txt.split x s ≠ [] := fun z => by
  have e := StrLaws.join_split x s
  rw [z] at e
  have hx : x.length = 0 := by
    rw [← e]; rfl
  unfold Txt.split at z
  rw [if_pos (by rw [hx, h]; rfl)] at z
  cases z
theorem split_len (x : Str) {s : Str} (h : s.length = 1) : ∃ y r, Txt.split x s = y :: r ∧ x.length = y.length + (r.map fun z => z.length + 1).sum := by
  cases e : Txt.split x s with
  | nil => exact absurd e (split_ne x h)
  | cons y r =>
    refine ⟨y, r, rfl, ?_⟩
    have j := StrLaws.join_split x s
    rw [e] at j
    rw [← join_len h r y, j]
theorem sum_mem : ∀ {r : List Str} {z : Str}, z ∈ r → z.length + 1 ≤ (r.map fun z => z.length + 1).sum
  | y :: r, z, h => by
    rw [List.map_cons, List.sum_cons]
    rcases List.mem_cons.mp h with rfl | h
    · omega
    · have := sum_mem h; omega
theorem sum_cnt : ∀ r : List Str, r.length ≤ (r.map fun z => z.length + 1).sum
  | [] => Nat.zero_le _
  | y :: r => by
    rw [List.map_cons, List.sum_cons, List.length_cons]
    have := sum_cnt r
    omega
theorem split_mem {x : Str} {s : Str} (h : s.length = 1) {z : Str} (hz : z ∈ Txt.split x s) : z.length ≤ x.length := by
  obtain ⟨y, r, e, l⟩ := split_len x h
  rw [e] at hz
  rcases List.mem_cons.mp hz with rfl | hz
  · omega
  · have := sum_mem hz; omega
theorem split_cnt (x : Str) {s : Str} (h : s.length = 1) : (Txt.split x s).length ≤ x.length + 1 := by
  obtain ⟨y, r, e, l⟩ := split_len x h
  rw [e, List.length_cons]
  have := sum_cnt r
  omega
theorem splitD_ok {x s : Str} (h : s.length = 1) (hl : x.length ≤ 900000) : splitD false (.str x) [.str s] m = .ok (.lst ((Txt.split x s).map .str)) m := by
  have h2 : x.length + 2 ≤ sizeLine := Nat.le_trans (show x.length + 2 ≤ 1000000 by omega) (by decide)
  show (if (s.length == 0) = false ∧ x.length + 2 ≤ sizeLine then mkNew false (.lst ((Txt.split x s).map D.str)) m else .bad) = _
  rw [if_pos ⟨by rw [h]; rfl, h2⟩]
  rfl
theorem tm_str (w : Str) (K : M D) : tmD isStr (.str w) K m = K m := rfl
def allN : List Str → Option (List Int)
  | [] => some []
  | w :: ws => match numI w, allN ws with
    | some i, some is => some (i :: is)
    | _, _ => none
def numF : D → D
  | .str w => optD (numI w)
  | d => d
theorem allN_some : ∀ {ws : List Str} {is : List Int}, allN ws = some is → (ws.map fun w => optD (numI w)) = is.map .int ∧ (ws.any fun w => (numI w).isNone) = false ∧ is.length = ws.length
  | [], _, h => by cases h; exact ⟨rfl, rfl, rfl⟩
  | w :: ws, is, h => by
    unfold allN at h
    cases q1 : numI w with
    | none => rw [q1] at h; cases h
    | some i =>
      cases q2 : allN ws with
      | none => rw [q1, q2] at h; cases h
      | some js =>
        rw [q1, q2] at h; cases h
        obtain ⟨a, b, c⟩ := allN_some q2
        refine ⟨by rw [List.map_cons, q1, a]; rfl, by rw [List.any_cons, q1, b]; rfl, by simp [c]⟩
theorem allN_none : ∀ {ws : List Str}, allN ws = none → (ws.any fun w => (numI w).isNone) = true
  | [], h => by cases h
  | w :: ws, h => by
    unfold allN at h
    rw [List.any_cons]
    cases q1 : numI w with
    | none => rfl
    | some i =>
      cases q2 : allN ws with
      | none => rw [allN_none q2]; simp
      | some js => rw [q1, q2] at h; cases h
theorem in_non (ws : List Str) : dIn false .non (.tup (ws.map fun w => optD (numI w))) m = .ok (.bl (ws.any fun w => (numI w).isNone)) m := by
  have e1 : look m (.tup (ws.map fun w => optD (numI w))) .non = none := rfl
  have e2 : pyM m .non = some .none := rfl
  have hp : ∀ ws : List Str, ∃ ps, py0L (ws.map fun w => optD (numI w)) = some ps ∧ PyData.canLayAll0 ps = true ∧ PyData.depthAll ps = 0 ∧ (ps.any fun z => PyData.eqv z .none) = ws.any fun w => (numI w).isNone := by
    intro ws
    induction ws with
    | nil => exact ⟨[], rfl, rfl, rfl, rfl⟩
    | cons w ws ih =>
      obtain ⟨ps, a, b, c, d⟩ := ih
      cases q : numI w with
      | none => exact ⟨.none :: ps, by rw [List.map_cons, q, py0L, a]; rfl, by rw [PyData.canLayAll0, b]; rfl, by rw [PyData.depthAll, c]; rfl, by rw [List.any_cons, List.any_cons, d, q]; simp [PyData.eqv]⟩
      | some i => exact ⟨.int i :: ps, by rw [List.map_cons, q, py0L, a]; rfl, by rw [PyData.canLayAll0, b]; rfl, by rw [PyData.depthAll, c]; rfl, by rw [List.any_cons, List.any_cons, d, q]; simp [PyData.eqv]⟩
  obtain ⟨ps, a, b, c, d⟩ := hp ws
  have e3 : (viewS m (.tup (ws.map fun w => optD (numI w)))).bind py0L = some ps := a
  have s1 : SeqAt.shaped (.list ps) = true := by
    unfold SeqAt.shaped
    rw [PyData.canLay0, PyData.depth, b, c]; rfl
  have s2 : SeqAt.shaped .none = true := by simp [SeqAt.shaped, PyData.canLay0, PyData.depth]
  unfold dIn
  rw [e1, e2, e3]
  dsimp only
  rw [if_pos ⟨s2, s1⟩, d]
  rfl
def rowN (k : Nat) (row : Str) : Option (List Int) := if (Txt.split row sp).length = k then allN (Txt.split row sp) else none
def rowD : Option (List Int) → D
  | some is => .tup (is.map .int)
  | none => .non
theorem nums_lc {row : Str} (hl : row.length ≤ 900000) (i : Nat) (env0 : Eng.Env) {f : Eng.Env → M D} (hf : ∀ w : Str, w.length ≤ 900000 → f (env0.set i (some (.str w))) m = .ok (optD (numI w)) m) :
    lcD false (fun d env => pure (env.set i (some d))) (fun _ => pure true) f env0 ((Txt.split row sp).map .str) m = .ok (.lst ((Txt.split row sp).map fun w => optD (numI w))) m := by
  have e := lcD_map (m := m) (g := fun d env => pure (env.set i (some d))) (t := fun _ => pure true) (e := f) (env0 := env0) (l := (Txt.split row sp).map .str) numF (by rw [List.length_map]; have := split_cnt row sp_len; omega) (fun d hd => by
    obtain ⟨w, hw, rfl⟩ := List.mem_map.mp hd
    exact ⟨_, rfl, rfl, hf w (by have := split_mem sp_len hw; omega)⟩)
  rw [e, List.map_map]
  rfl
theorem numbers_of_ok {row : Str} {k : Nat} (hl : row.length ≤ 900000) : d_numbers_of [.str row, .int (k : Nat)] m = .ok (rowD (rowN k row)) m := by
  have sd := fun m => splitD_ok (m := m) (x := row) sp_len hl
  have lc := fun (env0 : Eng.Env) (f : Eng.Env → M D) (hf : ∀ w : Str, w.length ≤ 900000 → f (env0.set 3 (some (.str w))) m = .ok (optD (numI w)) m) => nums_lc (m := m) hl 3 env0 hf
  have inn := in_non (m := m) (Txt.split row sp)
  have no := fun w (h : w.length ≤ 900000) => number_of_ok (m := m) (w := w) h
  unfold rowN
  generalize Txt.split row sp = ws at *
  unfold d_numbers_of body_numbers_of
  simp [startE, tm_str, sd, wipeE]
  rw [lc _ _ (fun w h => by simp [no w h])]
  by_cases hk : ws.length = k
  · have hk' : (ws.length : Int) = (k : Int) := by omega
    cases q : allN ws with
    | none =>
      have := allN_none q
      rw [this] at inn
      simp [hk, hk', inn, q, rowD]
    | some is =>
      obtain ⟨a, b, c⟩ := allN_some q
      rw [b] at inn
      have hc : (is.length : Int) = (k : Int) := by omega
      rw [a] at inn ⊢
      simp [hk, hk', hc, inn, q, rowD, c]
  · have hk' : ¬ (ws.length : Int) = (k : Int) := by omega
    simp [hk, hk', rowD]
theorem law_numbers_ok {row : Str} {k : Nat} (hl : row.length ≤ 900000) : d_law_numbers [.str row, .int (k : Nat)] m = .ok (rowD (rowN k row)) m := by
  have sd := fun m => splitD_ok (m := m) (x := row) sp_len hl
  have lc := fun (env0 : Eng.Env) (f : Eng.Env → M D) (hf : ∀ w : Str, w.length ≤ 900000 → f (env0.set 4 (some (.str w))) m = .ok (optD (numI w)) m) => nums_lc (m := m) hl 4 env0 hf
  have inn := in_non (m := m) (Txt.split row sp)
  have no := fun w (h : w.length ≤ 900000) => law_number_ok (m := m) (w := w) h
  unfold rowN
  generalize Txt.split row sp = ws at *
  unfold d_law_numbers body_law_numbers
  simp [startE, tm_str, sd, wipeE]
  rw [lc _ _ (fun w h => by simp [no w h])]
  by_cases hk : ws.length = k
  · have hk' : (ws.length : Int) = (k : Int) := by omega
    cases q : allN ws with
    | none =>
      have := allN_none q
      rw [this] at inn
      simp [hk, hk', inn, q, rowD]
    | some is =>
      obtain ⟨a, b, c⟩ := allN_some q
      rw [b] at inn
      rw [a] at inn ⊢
      simp [hk, hk', inn, q, rowD]
  · have hk' : ¬ (ws.length : Int) = (k : Int) := by omega
    simp [hk, hk', rowD]
end Wk

set_option maxRecDepth 100000
set_option maxHeartbeats 1000000
namespace Wk
open PySem PySem.Spec PyProof.Rows L2 Eng
variable {m : Mem}
def rdG : D → Eng.Env → M Eng.Env := (fun d env => match viewT d with | some l => if l.length = 2 then (fun ds env => match ds with | d :: ds => (do let env' ← (fun d env => pure (env.set 3 (some d))) d env; (fun ds env => match ds with | d :: ds => (do let env' ← (fun d env => pure (env.set 4 (some d))) d env; (fun ds env => match ds with | [] => pure env | _ => M.fail) ds env') | [] => M.fail) ds env') | [] => M.fail) l env else M.fail | none => M.fail)
noncomputable def lrB : Eng.Env → M Out := (seqS (fun env => exB env (do let d ← (getE env 2); lmD d (do let l ← (do let x ← (do let l ← (do let x ← (getE env 4); let y ← (do let x ← (do let k ← (do let z ← (do let x ← (getE env 3); let y ← (pure (.int 0)); dEq false x y); asB z); if k then (pure (.int 1)) else (pure (.int 2))); let y ← (pure []); pure (x :: y)); pure (x :: y)); d_law_numbers l); let y ← (pure []); pure (x :: y)); appD d l)) fun _ => pure (.nx env))
  (fun env => exB env (do let x ← (do let x ← (getE env 2); let y ← (do let x ← (pure (.int 1)); dNeg x); dIdx x y); pure (isNon x)) fun c => if c then (fun env => exB env (do let l ← (do let x ← (pure (.str "text")); let y ← (do let x ← (do let x ← (getE env 3); let y ← (pure (.int 1)); dAdd false x y); let y ← (pure []); pure (x :: y)); pure (x :: y)); pure (.tup l)) fun d => pure (.ret d)) env else (fun env => pure (.nx env)) env))
noncomputable def rrB : Eng.Env → M Out := (seqS (fun env => exB env (do let l ← (do let x ← (getE env 4); let y ← (do let x ← (do let k ← (do let z ← (do let x ← (getE env 3); let y ← (pure (.int 0)); dEq false x y); asB z); if k then (pure (.int 1)) else (pure (.int 2))); let y ← (pure []); pure (x :: y)); pure (x :: y)); d_numbers_of l) fun d => pure (.nx (env.set 5 (some d))))
  (seqS (fun env => exB env (do let x ← (getE env 5); pure (isNon x)) fun c => if c then (fun env => exB env (do let x ← (getE env 3); let y ← (pure (.int 1)); dAdd false x y) fun d => pure (.exn ⟨3, some d⟩ env)) env else (fun env => pure (.nx env)) env)
  (fun env => exB env (do let d ← (getE env 2); lmD d (do let l ← (do let x ← (getE env 5); let y ← (pure []); pure (x :: y)); appD d l)) fun _ => pure (.nx env))))
abbrev St := Option (Int × List (Int × Int))
def stD : St → List D
  | none => []
  | some (n, ps) => .tup [.int n] :: ps.map prD
def stepS : St → Str → Option St
  | none, row => match rowN 1 row with
    | some [n] => some (some (n, []))
    | _ => none
  | some (n, ps), row => match rowN 2 row with
    | some [a, b] => some (some (n, ps ++ [(a, b)]))
    | _ => none
def goR : St → List Str → Nat ⊕ St
  | s, [] => .inr s
  | s, r :: rs => match stepS s r with
    | none => .inl 0
    | some s' => match goR s' rs with
      | .inl k => .inl (k + 1)
      | .inr s2 => .inr s2
def kOf (s : St) : Nat := if s.isNone then 1 else 2
theorem rowN_len {k : Nat} {row : Str} {is : List Int} (h : rowN k row = some is) : is.length = k := by
  unfold rowN at h
  by_cases hk : (Txt.split row sp).length = k
  · rw [if_pos hk] at h
    rw [(allN_some h).2.2, hk]
  · rw [if_neg hk] at h; cases h
/-- one row more -/
theorem step_row (s : St) (row : Str) : (stepS s row = none ∧ rowN (kOf s) row = none) ∨ (∃ s', stepS s row = some s' ∧ s' ≠ none ∧ rowD (rowN (kOf s) row) ≠ .non ∧ (rowN (kOf s) row).isSome = true ∧ stD s' = stD s ++ [rowD (rowN (kOf s) row)]) := by
  cases s with
  | none =>
    show (_ ∧ rowN 1 row = none) ∨ _
    cases q : rowN 1 row with
    | none => exact .inl ⟨by dsimp only [stepS]; rw [q], rfl⟩
    | some is =>
      have hl := rowN_len q
      match is, hl, q with
      | [n], _, q =>
        refine .inr ⟨some (n, []), by dsimp only [stepS]; rw [q], by simp, ?_⟩
        show rowD (rowN 1 row) ≠ .non ∧ (rowN 1 row).isSome = true ∧ _ = _ ++ [rowD (rowN 1 row)]
        rw [q]
        exact ⟨by simp [rowD], rfl, rfl⟩
  | some x =>
    obtain ⟨n, ps⟩ := x
    show (_ ∧ rowN 2 row = none) ∨ _
    cases q : rowN 2 row with
    | none => exact .inl ⟨by dsimp only [stepS]; rw [q], rfl⟩
    | some is =>
      have hl := rowN_len q
      match is, hl, q with
      | [a, b], _, q =>
        refine .inr ⟨some (n, ps ++ [(a, b)]), by dsimp only [stepS]; rw [q], by simp, ?_⟩
        show rowD (rowN 2 row) ≠ .non ∧ (rowN 2 row).isSome = true ∧ _ = _ ++ [rowD (rowN 2 row)]
        rw [q]
        refine ⟨by simp [rowD], rfl, ?_⟩
        show D.tup [.int n] :: (ps ++ [(a, b)]).map prD = (D.tup [.int n] :: ps.map prD) ++ [D.tup [.int a, .int b]]
        simp [prD, pr]
theorem st_len (s : St) : ((stD s).length = 0 ↔ s = none) := by
  cases s with
  | none => simp [stD]
  | some x => obtain ⟨n, ps⟩ := x; simp [stD]
section
variable {k : Nat} {xs : List D}
theorem c_lm (K : M D) (h : m[k]? = some (.lst xs)) : lmD (.ref k) K m = K m := by
  simp [lmD, isL, h]
theorem c_app (d : D) (h : m[k]? = some (.lst xs)) (hl : xs.length < 1000000) : appD (.ref k) [d] m = .ok .non (m.set k (.lst (xs ++ [d]))) := by
  unfold appD cellL
  dsimp only
  rw [h]
  dsimp only
  rw [if_pos hl]
theorem c_idx {i : Int} {d : D} (h : m[k]? = some (.lst xs)) (hd : atI xs i = some d) : dIdx (.ref k) (.int i) m = .ok d m := by
  unfold dIdx viewS viewL
  dsimp only
  rw [h]
  dsimp only
  rw [hd]
theorem frz_at {i k : Nat} {env : Eng.Env} {xs : List D} (h : env[i]? = some (some (.ref k))) (h2 : m[k]? = some (.lst xs)) : frzS i env m = .ok (.nx (env.set i (some (.lst xs)))) (m.set k .dead) := by
  unfold frzS
  rw [h]
  dsimp only
  rw [h2]
  rfl
end
theorem at_last (l : List D) (d : D) : atI (l ++ [d]) (-1) = some d := by
  have e : ixN (l ++ [d]).length (-1) = some l.length := by
    unfold ixN
    rw [if_neg (by omega), if_pos (by simp; omega)]
    congr 1
    simp
    omega
  unfold atI
  rw [e]
  simp
theorem law_loop {t ln x5 x6 x7 : Option D} : ∀ (rs : List Str) (s : St) (x3 x4 : Option D), (∀ r ∈ rs, r.length ≤ 900000) → (stD s).length + rs.length ≤ 950000 →
    (∃ k z, goR s rs = .inl k ∧ forD (enumL (stD s).length (rs.map .str)) rdG lrB [t, ln, some (.ref m.length), x3, x4, x5, x6, x7] (m ++ [.lst (stD s)]) = .ok (.ret (.tup [.str "text", .int (((stD s).length + k + 1 : Nat) : Int)])) (m ++ [z])) ∨
    (∃ s' x3' x4', goR s rs = .inr s' ∧ forD (enumL (stD s).length (rs.map .str)) rdG lrB [t, ln, some (.ref m.length), x3, x4, x5, x6, x7] (m ++ [.lst (stD s)]) = .ok (.nx [t, ln, some (.ref m.length), x3', x4', x5, x6, x7]) (m ++ [.lst (stD s')]))
  | [], s, x3, x4, _, _ => .inr ⟨s, x3, x4, rfl, rfl⟩
  | r :: rs, s, x3, x4, hr, hl => by
    have lr := hr r (by simp)
    simp only [List.length_cons] at hl
    have g1 : (m ++ [Ob.lst (stD s)])[m.length]? = some (.lst (stD s)) := by simp
    have lm := fun K => c_lm K g1
    have ap := fun d => c_app d g1 (by omega)
    have lx := fun d => c_idx (m := m ++ [.lst (stD s ++ [d])]) (k := m.length) (xs := stD s ++ [d]) (by simp) (at_last (stD s) d)
    simp only [set_top] at ap
    have first : ((rdG (.tup [.int ((stD s).length : Nat), .str r]) [t, ln, some (.ref m.length), x3, x4, x5, x6, x7] (m ++ [.lst (stD s)])).nox.bd lrB) = (if rowN (kOf s) r = none then .ok (.ret (.tup [.str "text", .int (((stD s).length : Int) + 1)])) (m ++ [.lst (stD s ++ [rowD (rowN (kOf s) r)])]) else .ok (.nx [t, ln, some (.ref m.length), some (.int ((stD s).length : Nat)), some (.str r), x5, x6, x7]) (m ++ [.lst (stD s ++ [rowD (rowN (kOf s) r)])])) := by
      cases s with
      | none =>
        have no : d_law_numbers [.str r, .int 1] (m ++ [.lst (stD none)]) = .ok (rowD (rowN 1 r)) (m ++ [.lst (stD none)]) := law_numbers_ok (k := 1) lr
        show _ = if rowN 1 r = none then _ else _
        have hk : kOf none = 1 := rfl
        have h0 : (stD none).length = 0 := rfl
        rw [hk]
        unfold rdG lrB
        cases q : rowN 1 r with
        | none =>
          rw [q] at no
          simp [viewT, lm, h0, no, ap, lx, rowD, Eng.isNon]
        | some is =>
          rw [q] at no
          simp [viewT, lm, h0, no, ap, lx, rowD, Eng.isNon]
      | some x =>
        have no : d_law_numbers [.str r, .int 2] (m ++ [.lst (stD (some x))]) = .ok (rowD (rowN 2 r)) (m ++ [.lst (stD (some x))]) := law_numbers_ok (k := 2) lr
        show _ = if rowN 2 r = none then _ else _
        have hk : kOf (some x) = 2 := rfl
        have h0 : ¬ ((stD (some x)).length : Int) = 0 := by
          have h1 : ¬ (stD (some x)).length = 0 := fun z => nomatch (st_len (some x)).mp z
          omega
        have h0' : ¬ (stD (some x)) = [] := fun z => h0 (by rw [z]; rfl)
        rw [hk]
        unfold rdG lrB
        cases q : rowN 2 r with
        | none =>
          rw [q] at no
          simp [viewT, lm, h0, h0', no, ap, lx, rowD, Eng.isNon]
        | some is =>
          rw [q] at no
          simp [viewT, lm, h0, h0', no, ap, lx, rowD, Eng.isNon]
    have lp : ∀ r : R Eng.Env, (r.bd (forK lrB (forD (enumL ((stD s).length + 1) (rs.map .str)) rdG lrB))) = (r.bd lrB).lp (forD (enumL ((stD s).length + 1) (rs.map .str)) rdG lrB) := fun r => by cases r <;> rfl
    rw [List.map_cons]
    unfold enumL
    rcases step_row s r with ⟨e1, e2⟩ | ⟨s', e1, e2, e3, e4, e5⟩
    · refine .inl ⟨0, .lst (stD s ++ [rowD (rowN (kOf s) r)]), by unfold goR; rw [e1], ?_⟩
      rw [ev_forS, lp, first, if_pos e2]
      rfl
    · have hn : ¬ rowN (kOf s) r = none := fun z => by rw [z] at e4; cases e4
      have hlen : (stD s').length = (stD s).length + 1 := by rw [e5]; simp
      rw [ev_forS, lp, first, if_neg hn, lp_nx, ← e5, ← hlen]
      rcases law_loop rs s' (some (.int ((stD s).length : Nat))) (some (.str r)) (fun x hx => hr x (by simp [hx])) (by omega) with ⟨k, z, f1, f2⟩ | ⟨s2, y3, y4, f1, f2⟩
      · refine .inl ⟨k + 1, z, by unfold goR; rw [e1]; dsimp only; rw [f1], ?_⟩
        rw [f2, hlen, show (stD s).length + 1 + k + 1 = (stD s).length + (k + 1) + 1 by omega]
      · exact .inr ⟨s2, y3, y4, by unfold goR; rw [e1]; dsimp only; rw [f1], f2⟩
end Wk

set_option maxRecDepth 100000
set_option maxHeartbeats 1000000
namespace Wk
open PySem PySem.Spec PyProof.Rows L2 Eng
variable {m : Mem}
theorem read_loop {t ln : Option D} : ∀ (rs : List Str) (s : St) (x3 x4 x5 : Option D), (∀ r ∈ rs, r.length ≤ 900000) → (stD s).length + rs.length ≤ 950000 →
    (∃ k z e', goR s rs = .inl k ∧ forD (enumL (stD s).length (rs.map .str)) rdG rrB [t, ln, some (.ref m.length), x3, x4, x5] (m ++ [.lst (stD s)]) = .ok (.exn ⟨3, some (.int (((stD s).length + k + 1 : Nat) : Int))⟩ e') (m ++ [z])) ∨
    (∃ s' x3' x4' x5', goR s rs = .inr s' ∧ forD (enumL (stD s).length (rs.map .str)) rdG rrB [t, ln, some (.ref m.length), x3, x4, x5] (m ++ [.lst (stD s)]) = .ok (.nx [t, ln, some (.ref m.length), x3', x4', x5']) (m ++ [.lst (stD s')]))
  | [], s, x3, x4, x5, _, _ => .inr ⟨s, x3, x4, x5, rfl, rfl⟩
  | r :: rs, s, x3, x4, x5, hr, hl => by
    have lr := hr r (by simp)
    simp only [List.length_cons] at hl
    have g1 : (m ++ [Ob.lst (stD s)])[m.length]? = some (.lst (stD s)) := by simp
    have lm := fun K => c_lm K g1
    have ap := fun d => c_app d g1 (by omega)
    simp only [set_top] at ap
    have first : ((rdG (.tup [.int ((stD s).length : Nat), .str r]) [t, ln, some (.ref m.length), x3, x4, x5] (m ++ [.lst (stD s)])).nox.bd rrB) = (if rowN (kOf s) r = none then .ok (.exn ⟨3, some (.int (((stD s).length : Int) + 1))⟩ [t, ln, some (.ref m.length), some (.int ((stD s).length : Nat)), some (.str r), some (rowD (rowN (kOf s) r))]) (m ++ [.lst (stD s)]) else .ok (.nx [t, ln, some (.ref m.length), some (.int ((stD s).length : Nat)), some (.str r), some (rowD (rowN (kOf s) r))]) (m ++ [.lst (stD s ++ [rowD (rowN (kOf s) r)])])) := by
      cases s with
      | none =>
        have no : d_numbers_of [.str r, .int 1] (m ++ [.lst (stD none)]) = .ok (rowD (rowN 1 r)) (m ++ [.lst (stD none)]) := numbers_of_ok (k := 1) lr
        show _ = if rowN 1 r = none then _ else _
        have hk : kOf none = 1 := rfl
        have h0 : (stD none).length = 0 := rfl
        rw [hk]
        unfold rdG rrB
        cases q : rowN 1 r with
        | none =>
          rw [q] at no
          simp [viewT, lm, h0, no, rowD, Eng.isNon]
        | some is =>
          rw [q] at no
          simp [viewT, lm, h0, no, ap, rowD, Eng.isNon]
      | some x =>
        have no : d_numbers_of [.str r, .int 2] (m ++ [.lst (stD (some x))]) = .ok (rowD (rowN 2 r)) (m ++ [.lst (stD (some x))]) := numbers_of_ok (k := 2) lr
        show _ = if rowN 2 r = none then _ else _
        have hk : kOf (some x) = 2 := rfl
        have h0 : ¬ ((stD (some x)).length : Int) = 0 := by
          have h1 : ¬ (stD (some x)).length = 0 := fun z => nomatch (st_len (some x)).mp z
          omega
        have h0' : ¬ (stD (some x)) = [] := fun z => h0 (by rw [z]; rfl)
        rw [hk]
        unfold rdG rrB
        cases q : rowN 2 r with
        | none =>
          rw [q] at no
          simp [viewT, lm, h0, h0', no, rowD, Eng.isNon]
        | some is =>
          rw [q] at no
          simp [viewT, lm, h0, h0', no, ap, rowD, Eng.isNon]
    have lp : ∀ r : R Eng.Env, (r.bd (forK rrB (forD (enumL ((stD s).length + 1) (rs.map .str)) rdG rrB))) = (r.bd rrB).lp (forD (enumL ((stD s).length + 1) (rs.map .str)) rdG rrB) := fun r => by cases r <;> rfl
    rw [List.map_cons]
    unfold enumL
    rcases step_row s r with ⟨e1, e2⟩ | ⟨s', e1, e2, e3, e4, e5⟩
    · refine .inl ⟨0, .lst (stD s), [t, ln, some (.ref m.length), some (.int ((stD s).length : Nat)), some (.str r), some (rowD (rowN (kOf s) r))], by unfold goR; rw [e1], ?_⟩
      rw [ev_forS, lp, first, if_pos e2]
      rfl
    · have hn : ¬ rowN (kOf s) r = none := fun z => by rw [z] at e4; cases e4
      have hlen : (stD s').length = (stD s).length + 1 := by rw [e5]; simp
      rw [ev_forS, lp, first, if_neg hn, lp_nx, ← e5, ← hlen]
      rcases read_loop rs s' (some (.int ((stD s).length : Nat))) (some (.str r)) (some (rowD (rowN (kOf s) r))) (fun x hx => hr x (by simp [hx])) (by omega) with ⟨k, z, e', f1, f2⟩ | ⟨s2, y3, y4, y5, f1, f2⟩
      · refine .inl ⟨k + 1, z, e', by unfold goR; rw [e1]; dsimp only; rw [f1], ?_⟩
        rw [f2, hlen, show (stD s).length + 1 + k + 1 = (stD s).length + (k + 1) + 1 by omega]
      · exact .inr ⟨s2, y3, y4, y5, by unfold goR; rw [e1]; dsimp only; rw [f1], f2⟩
/-- all numbers are small and not below nought -/
def okS : St → Prop
  | none => True
  | some (n, ps) => 0 ≤ n ∧ n < 100 ∧ ∀ p ∈ ps, 0 ≤ p.1 ∧ p.1 < 100 ∧ 0 ≤ p.2 ∧ p.2 < 100
theorem allN_ok : ∀ {ws : List Str} {is : List Int}, allN ws = some is → ∀ i ∈ is, 0 ≤ i ∧ i < 100
  | [], _, h => by cases h; exact fun _ h => nomatch h
  | w :: ws, is, h => by
    unfold allN at h
    cases q1 : numI w with
    | none => rw [q1] at h; cases h
    | some i =>
      cases q2 : allN ws with
      | none => rw [q1, q2] at h; cases h
      | some js =>
        rw [q1, q2] at h; cases h
        intro j hj
        rcases List.mem_cons.mp hj with rfl | hj
        · obtain ⟨_, a, b, _⟩ := int_word (m := []) q1
          exact ⟨a, b⟩
        · exact allN_ok q2 j hj
theorem rowN_ok {k : Nat} {row : Str} {is : List Int} (h : rowN k row = some is) : ∀ i ∈ is, 0 ≤ i ∧ i < 100 := by
  unfold rowN at h
  by_cases hk : (Txt.split row sp).length = k
  · rw [if_pos hk] at h; exact allN_ok h
  · rw [if_neg hk] at h; cases h
theorem goR_ok : ∀ {rs : List Str} {s s' : St}, okS s → goR s rs = .inr s' → okS s'
  | [], s, s', h, e => by cases e; exact h
  | r :: rs, s, s', h, e => by
    unfold goR at e
    cases q : stepS s r with
    | none => rw [q] at e; cases e
    | some s1 =>
      rw [q] at e
      dsimp only at e
      have h1 : okS s1 := by
        cases s with
        | none =>
          dsimp only [stepS] at q
          cases q2 : rowN 1 r with
          | none => rw [q2] at q; cases q
          | some is =>
            have hl := rowN_len q2
            match is, hl, q2 with
            | [n], _, q2 =>
              rw [q2] at q; cases q
              have := rowN_ok q2 n (by simp)
              exact ⟨this.1, this.2, fun _ h => nomatch h⟩
        | some x =>
          obtain ⟨n, ps⟩ := x
          dsimp only [stepS] at q
          cases q2 : rowN 2 r with
          | none => rw [q2] at q; cases q
          | some is =>
            have hl := rowN_len q2
            match is, hl, q2 with
            | [a, b], _, q2 =>
              rw [q2] at q; cases q
              have ha := rowN_ok q2 a (by simp)
              have hb := rowN_ok q2 b (by simp)
              refine ⟨h.1, h.2.1, fun p hp => ?_⟩
              rcases List.mem_append.mp hp with hp | hp
              · exact h.2.2 p hp
              · obtain rfl : p = (a, b) := by simpa using hp
                exact ⟨ha.1, ha.2, hb.1, hb.2⟩
      cases q3 : goR s1 rs with
      | inl k => rw [q3] at e; cases e
      | inr s2 => rw [q3] at e; cases e; exact goR_ok h1 q3
/-- where a round is bad -/
def plc (n : Int) (ps : List (Int × Int)) : D := if 1 ≤ n ∧ n ≤ 24 then placeOf n (.tup (ps.map prD)) else .int (-1)
theorem shw_prs (ps : List (Int × Int)) : Shw (.tup (ps.map prD)) := shw_tup.mpr fun d hd => by
  obtain ⟨p, _, rfl⟩ := List.mem_map.mp hd
  rfl
theorem first_plc (n : Int) (ps : List (Int × Int)) : d_first_bad [.int n, .tup (ps.map prD)] m = .ok (plc n ps) m := by
  unfold plc
  by_cases h : 1 ≤ n ∧ n ≤ 24
  · rw [if_pos h]
    exact first_bad_is h.1 h.2 (shw_prs ps)
  · rw [if_neg h]
    have hn : Shw (.int n) := rfl
    unfold d_first_bad body_first_bad
    by_cases h0 : 1 ≤ n
    · have h1 : ¬ n ≤ 24 := fun z => h ⟨h0, z⟩
      simp [startE, is_integer_shw hn, isIntD, h0, h1]
    · simp [startE, is_integer_shw hn, isIntD, h0]
end Wk

set_option maxRecDepth 100000
set_option maxHeartbeats 1000000
namespace Wk
open PySem PySem.Spec PyProof.Rows L2 Eng
variable {m : Mem}
theorem law_plc {n : Int} {ps : List (Int × Int)} (h : ∀ p ∈ ps, 0 ≤ p.1 ∧ p.1 < 100 ∧ 0 ≤ p.2 ∧ p.2 < 100) : d_law_bad_place [.int n, .tup (ps.map prD)] m = .ok (plc n ps) m := by
  unfold plc
  unfold d_law_bad_place body_law_bad_place
  by_cases h0 : 1 ≤ n
  case neg =>
    rw [if_neg fun z => h0 z.1]
    simp [startE, h0]
  by_cases h1 : n ≤ 24
  case neg =>
    rw [if_neg fun z => h1 z.2]
    simp [startE, h0, h1]
  rw [if_pos ⟨h0, h1⟩]
  simp [startE, h0, h1]
  show _ = R.ok (match scanL (badAt n) [] (ps.map prD) with | some i => D.int (i : Nat) | none => .non) m
  refine for_scan_cl (fun pre env => ∃ x y z, env = [some (.int n), some (.tup (ps.map prD)), x, y, z]) (badAt n) ⟨_, _, _, rfl⟩ ?_ ?_ ?_
  · rintro pre d rest env e ⟨x, y, z, rfl⟩
    obtain ⟨qs, l2, e1, e2, e3⟩ := List.map_eq_append_iff.mp e
    obtain ⟨p, l3, e4, e5, e6⟩ := List.map_eq_cons_iff.mp e3
    subst e2; subst e5
    obtain ⟨a, b⟩ := p
    have hp := h (a, b) (by rw [e1, e4]; simp)
    dsimp only at hp
    refine ⟨[some (.int n), some (.tup (ps.map prD)), some (.int (((qs.map prD).length : Nat) : Int)), some (.int a), some (.int b)], ?_, fun _ => ⟨_, _, _, rfl⟩⟩
    have hc := cut_pre (m := m) (qs.map prD) (prD (a, b) :: rest)
    have hi := in_prs (m := m) b a qs
    rw [← e, List.length_map] at hc
    have hr : resB n (prD (a, b)) = (decide (a < n) && (decide (b < n) && !(a == b))) := by
      show ((decide (0 ≤ a) && decide (a < n)) && ((decide (0 ≤ b) && decide (b < n)) && !(a == b))) = _
      rw [decide_eq_true hp.1, decide_eq_true hp.2.2.1, Bool.true_and, Bool.true_and]
    have hrev : (qs.map prD).any (revP (prD (a, b))) = qs.any fun z => z.1 == b && z.2 == a := any_rev a b qs
    have mx : ∀ m, max2 (.int a) (.int b) m = .ok (.int (if b > a then b else a)) m := fun m => rfl
    by_cases hab : a = b
    · subst hab
      have hb : badAt n (qs.map prD) (prD (a, a)) = true := by unfold badAt; rw [hr]; simp
      rw [if_pos hb]
      simp [viewT, prD, pr]
    have hab' : (a == b) = false := beq_false_of_ne hab
    by_cases ham : a < n ∧ b < n
    case neg =>
      have hb : badAt n (qs.map prD) (prD (a, b)) = true := by
        unfold badAt
        rw [hr]
        simp
        left
        omega
      rw [if_pos hb]
      have hm : n ≤ (if a < b then b else a) := by split <;> omega
      simp [viewT, prD, pr, hab, mx, hm]
    have hm : ¬ n ≤ (if a < b then b else a) := by split <;> omega
    have hbad : badAt n (qs.map prD) (prD (a, b)) = ((match (qs.map prD).getLast? with | some q => geP q (prD (a, b)) | none => false) || qs.any fun z => z.1 == b && z.2 == a) := by
      unfold badAt
      rw [hr, hrev, hab', decide_eq_true ham.1, decide_eq_true ham.2]
      rfl
    cases hq : qs.any fun z => z.1 == b && z.2 == a with
    | true =>
      rw [hq] at hi hbad
      rw [hbad, if_pos (by simp)]
      simp [viewT, prD, pr, hab, mx, hm, hc, hi]
    | false =>
      rw [hq] at hi hbad
      rcases qs.eq_nil_or_concat with rfl | ⟨rs, p, rfl⟩
      · rw [hbad, if_neg (by simp)]
        have hc0 : dCut false (.tup (ps.map prD)) none (some 0) m = .ok (.tup []) m := hc
        have hi0 : dIn false (.tup [.int b, .int a]) (.tup []) m = .ok (.bl false) m := hi
        simp [viewT, prD, pr, hab, mx, hm, hc0, hi0]
      · obtain ⟨c, d⟩ := p
        have hl : ((rs.concat (c, d)).map prD).getLast? = some (prD (c, d)) := by simp
        rw [hl] at hbad
        have ha := at_pre (rs.map prD) (prD (c, d)) (prD (a, b)) rest
        have e' : (rs.map prD) ++ prD (c, d) :: prD (a, b) :: rest = ps.map prD := by rw [e]; simp
        rw [e', List.length_map] at ha
        have hx := p_idxT (m := m) _ _ _ ha
        have hg := ge_pr (m := m) c d a b
        have hgp : geP (prD (c, d)) (prD (a, b)) = (if c = a then decide (b ≤ d) else decide (a ≤ c)) := by
          show (if a = c then decide (b ≤ d) else decide (a ≤ c)) = _
          by_cases z : a = c
          · rw [if_pos z, if_pos z.symm]
          · rw [if_neg z, if_neg (Ne.symm z)]
        dsimp only at hbad
        rw [hgp, Bool.or_false] at hbad
        rw [hbad]
        clear hbad hgp
        generalize (if c = a then decide (b ≤ d) else decide (a ≤ c)) = t at hg
        have h3 : (0 : Int) < (rs.length : Int) + 1 := by omega
        simp only [List.length_concat, List.concat_eq_append, Int.natCast_add, Int.natCast_one, Int.add_sub_cancel] at hx hc hi
        rw [p_cutT] at hc
        have hc2 := D.tup.inj (R.ok.inj hc).1
        simp only [List.length_append, List.length_cons, List.length_nil, Nat.zero_add, Int.natCast_add, Int.natCast_one, List.map_append, List.map_cons, List.map_nil, prD, pr] at hc2 hi
        simp only [prD, pr] at hx hg
        cases t <;> simp [viewT, prD, pr, hab, mx, hm, hc2, hi, h3, hx, hg]
  · intro i e; rw [e]
  · rintro hn e' ⟨x, y, z, rfl⟩; rw [hn]; rfl
end Wk

set_option maxRecDepth 100000
set_option maxHeartbeats 1000000
namespace Wk
open PySem PySem.Spec PyProof.Rows L2 Eng
variable {m : Mem}
theorem cut_last (l : List D) (h : l ≠ []) : Eng.cutD l none (some (-1)) = l.dropLast := by
  have hp : 0 < l.length := List.length_pos_iff.mpr h
  unfold Eng.cutD
  have e : HT.sIx l.length l.length (some (-1)) = l.length - 1 := by
    unfold HT.sIx
    simp
    omega
  rw [e, HT.sIx_none, List.drop_zero, Nat.sub_zero, List.dropLast_eq_take]
theorem at_lst (l : List D) (d : D) : dIdx (.lst (l ++ [d])) (.int (-1)) m = .ok d m := p_idxL _ _ _ (at_last l d)
abbrev emp : Str := Str.ofString ""
def tailD (t : Str) (n : Int) (ps : List (Int × Int)) : D := match plc n ps with
  | .non => .tup [.str "round", .int n, .tup (ps.map prD)]
  | d => .tup [.str "place", d]
def dueL (hs : List Str) (l : Str) : D := match goR none hs with
  | .inl k => .tup [.str "text", .int ((k + 1 : Nat) : Int)]
  | .inr none => .tup [.str "text", .int ((hs.length + 1 : Nat) : Int)]
  | .inr (some (n, ps)) => if l = emp then tailD l n ps else .tup [.str "text", .int ((hs.length + 1 : Nat) : Int)]
theorem isi_str (t : Str) : isiD 1 [.bi "str"] (.str t) m = .ok (.bl true) m := by
  simp [isiD, tyOf, isTys, isTy, tyB, bnames]
theorem plc_or (n : Int) (ps : List (Int × Int)) : plc n ps = .non ∨ ∃ i : Int, plc n ps = .int i ∧ -1 ≤ i ∧ i ≤ ps.length := by
  unfold plc
  by_cases h : 1 ≤ n ∧ n ≤ 24
  · rw [if_pos h]
    rcases place_is (n := n) (t := .tup (ps.map prD)) with e | ⟨i, e, hi⟩
    · exact .inl e
    · have := hi _ rfl
      rw [List.length_map] at this
      exact .inr ⟨i, e, by omega, by omega⟩
  · rw [if_neg h]; exact .inr ⟨-1, rfl, by omega, by omega⟩
theorem law_read_ok {t : Str} {hs : List Str} {l : Str} (e : Txt.split t nl = hs ++ [l]) (ht : t.length ≤ 800000) : ∃ z, d_law_read [.str t] m = .ok (dueL hs l) (m ++ [z]) := by
  have sd := fun m => splitD_ok (m := m) (x := t) nl_len (by omega)
  rw [e] at sd
  have hr : ∀ r ∈ hs, r.length ≤ 900000 := fun r h => by
    have := split_mem (x := t) nl_len (z := r) (by rw [e]; simp [h])
    omega
  have hc := split_cnt t nl_len
  rw [e] at hc
  simp only [List.length_append, List.length_cons, List.length_nil] at hc
  have cu : Eng.cutD ((hs ++ [l]).map D.str) none (some (-1)) = hs.map .str := by
    rw [cut_last _ (by simp), List.map_append]; simp
  have lp := law_loop (m := m) (t := some (.str t)) (ln := some (.lst ((hs ++ [l]).map .str))) (x5 := none) (x6 := none) (x7 := none) hs none none none hr (by simp [stD]; omega)
  have h0 : (stD none).length = 0 := rfl
  rw [h0] at lp
  have al : ∀ m, dIdx (.lst ((hs ++ [l]).map D.str)) (.int (-1)) m = .ok (.str l) m := fun m => by
    rw [List.map_append]; exact at_lst _ _
  have ll : ((hs ++ [l]).map D.str).length = hs.length + 1 := by simp
  have le := fun neg => eq_str (m := m ++ [.dead]) neg l emp
  show ∃ z, callB 8 (seqS _ (seqS _ (seqS (fun env => exB env _ fun l => forD l rdG lrB env) (seqS (frzS 2) _)))) [.str t] m = _
  generalize hL : (hs ++ [l]).map D.str = L at *
  rcases lp with ⟨k, z, g1, g2⟩ | ⟨s', y3, y4, g1, g2⟩
  · refine ⟨z, ?_⟩
    have hd : dueL hs l = .tup [.str "text", .int ((k + 1 : Nat) : Int)] := by unfold dueL; rw [g1]
    rw [hd]
    have hz : stD none = [] := rfl
    rw [hz] at g2
    simp only [Nat.zero_add] at g2
    simp [startE, isi_str, tm_str, sd, cu, g2]
  · refine ⟨.dead, ?_⟩
    have ok := goR_ok (s := none) trivial g1
    have fz := frz_at (m := m ++ [.lst (stD s')]) (i := 2) (env := [some (.str t), some (.lst L), some (.ref m.length), y3, y4, none, none, none]) rfl (get_top m _)
    rw [set_top] at fz
    have hz : stD none = [] := rfl
    rw [hz] at g2
    cases s' with
    | none =>
      have hz2 : stD none = [] := rfl
      rw [hz2] at fz g2
      have hd : dueL hs l = .tup [.str "text", .int ((hs.length + 1 : Nat) : Int)] := by unfold dueL; rw [g1]
      rw [hd]
      generalize frzS 2 = ff at *
      simp [startE, isi_str, tm_str, sd, cu, g2, fz, al, le, ll]
    | some x =>
      obtain ⟨n, ps⟩ := x
      have bp := law_plc (m := m ++ [.dead]) (n := n) ok.2.2
      have hz2 : stD (some (n, ps)) = .tup [.int n] :: ps.map prD := rfl
      rw [hz2] at fz g2
      have hp0 : ¬ ((ps.length : Int) + 1 = 0) := by omega
      have c1 : Eng.cutD (.tup [.int n] :: ps.map prD) (some 1) none = ps.map prD := by rw [cut_drop _ _ (by omega)]; rfl
      have i0 : ∀ m, dIdx (.lst (.tup [.int n] :: ps.map prD)) (.int 0) m = .ok (.tup [.int n]) m := fun m => p_idxL _ _ _ (atI_nat _ 0 _ rfl)
      generalize frzS 2 = ff at *
      by_cases hl : l = emp
      · have le2 : (l == emp) = true := by rw [hl]; simp
        rw [le2] at le
        have hd : dueL hs l = tailD l n ps := by unfold dueL; rw [g1]; dsimp only; rw [if_pos hl]
        rw [hd]
        rcases plc_or n ps with hp | ⟨i, hp, _⟩
        · rw [hp] at bp
          have hd2 : tailD l n ps = .tup [.str "round", .int n, .tup (ps.map prD)] := by unfold tailD; rw [hp]
          rw [hd2]
          simp [startE, isi_str, tm_str, sd, cu, g2, fz, al, le, ll, hl, hp0, i0, c1, bp, Eng.isNon]
        · rw [hp] at bp
          have hd2 : tailD l n ps = .tup [.str "place", .int i] := by unfold tailD; rw [hp]
          rw [hd2]
          simp [startE, isi_str, tm_str, sd, cu, g2, fz, al, le, ll, hl, hp0, i0, c1, bp, Eng.isNon]
      · have le2 : (l == emp) = false := beq_false_of_ne hl
        rw [le2] at le
        have hd : dueL hs l = .tup [.str "text", .int ((hs.length + 1 : Nat) : Int)] := by unfold dueL; rw [g1]; dsimp only; rw [if_neg hl]
        rw [hd]
        simp [startE, isi_str, tm_str, sd, cu, g2, fz, al, le, ll, hl]
end Wk

set_option maxRecDepth 100000
set_option maxHeartbeats 1000000
namespace Wk
open PySem PySem.Spec PyProof.Rows L2 Eng
variable {m : Mem}
theorem make_plc {n : Int} {ps : List (Int × Int)} (h : plc n ps = .non) : mkI 0 true d_Round_init [.int n, .tup (ps.map prD)] m = .ok (rnd n ps) (m ++ [.dead]) := by
  have fb : ∀ m', d_first_bad [.int n, .tup (ps.map prD)] m' = .ok .non m' := fun m' => by rw [first_plc, h]
  have e := init_ok (m := m) fb
  unfold mkI
  rw [e]
  dsimp only
  rw [if_pos rfl, get_top]
  dsimp only
  rw [set_top]
  rfl
theorem make_bad {n i : Int} {ps : List (Int × Int)} (h : plc n ps = .int i) : mkI 0 true d_Round_init [.int n, .tup (ps.map prD)] m = .exn ⟨2, some (.int i)⟩ (m ++ [.ins 0 [] []]) := by
  have fb : ∀ m', d_first_bad [.int n, .tup (ps.map prD)] m' = .ok (.int i) m' := fun m' => by rw [first_plc, h]
  have e := init_bad (m' := m ++ [.ins 0 [] []]) (k := m.length) fb
  unfold mkI
  rw [e]
def RdR (d : D) (r : R D) (m : Mem) : Prop :=
  (∃ i : Int, d = .tup [.str "text", .int i] ∧ -1 ≤ i ∧ i ≤ 2000000 ∧ ∃ z, r = .exn ⟨3, some (.int i)⟩ (m ++ z)) ∨ (∃ i : Int, d = .tup [.str "place", .int i] ∧ -1 ≤ i ∧ i ≤ 2000000 ∧ ∃ z, r = .exn ⟨2, some (.int i)⟩ (m ++ z)) ∨
  (∃ n ps, d = .tup [.str "round", .int n, .tup (ps.map prD)] ∧ plc n ps = .non ∧ ∃ z, r = .ok (rnd n ps) (m ++ z))
theorem goR_len : ∀ {rs : List Str} {s : St}, (∀ k, goR s rs = .inl k → k ≤ rs.length) ∧ (∀ s', goR s rs = .inr s' → (stD s').length = (stD s).length + rs.length)
  | [], s => ⟨fun _ e => (nomatch e), fun s' e => by cases e; rfl⟩
  | r :: rs, s => by
    rcases step_row s r with ⟨e1, e2⟩ | ⟨s1, e1, e2, e3, e4, e5⟩
    · refine ⟨fun k e => ?_, fun s' e => ?_⟩ <;> (unfold goR at e; rw [e1] at e; cases e)
      exact Nat.zero_le _
    · obtain ⟨h1, h2⟩ := goR_len (rs := rs) (s := s1)
      refine ⟨fun k e => ?_, fun s' e => ?_⟩
      · unfold goR at e
        rw [e1] at e
        dsimp only at e
        cases q : goR s1 rs with
        | inl k1 => rw [q] at e; cases e; have := h1 k1 q; simp; omega
        | inr s2 => rw [q] at e; cases e
      · unfold goR at e
        rw [e1] at e
        dsimp only at e
        cases q : goR s1 rs with
        | inl k1 => rw [q] at e; cases e
        | inr s2 =>
          rw [q] at e
          have hh := h2 s2 q
          cases e
          rw [hh, e5]; simp; omega
theorem read_round_ok {t : Str} {hs : List Str} {l : Str} (e : Txt.split t nl = hs ++ [l]) (ht : t.length ≤ 800000) : RdR (dueL hs l) (d_read_round [.str t] m) m := by
  have sd := fun m => splitD_ok (m := m) (x := t) nl_len (by omega)
  rw [e] at sd
  have hr : ∀ r ∈ hs, r.length ≤ 900000 := fun r h => by
    have := split_mem (x := t) nl_len (z := r) (by rw [e]; simp [h])
    omega
  have hc := split_cnt t nl_len
  rw [e] at hc
  simp only [List.length_append, List.length_cons, List.length_nil] at hc
  have cu : Eng.cutD ((hs ++ [l]).map D.str) none (some (-1)) = hs.map .str := by
    rw [cut_last _ (by simp), List.map_append]; simp
  have lp := read_loop (m := m) (t := some (.str t)) (ln := some (.lst ((hs ++ [l]).map .str))) hs none none none none hr (by simp [stD]; omega)
  have h0 : (stD none).length = 0 := rfl
  rw [h0] at lp
  have al : ∀ m, dIdx (.lst ((hs ++ [l]).map D.str)) (.int (-1)) m = .ok (.str l) m := fun m => by
    rw [List.map_append]; exact at_lst _ _
  have ll : ((hs ++ [l]).map D.str).length = hs.length + 1 := by simp
  have le := fun neg => eq_str (m := m ++ [.dead]) neg l emp
  show RdR _ (callB 6 (seqS _ (seqS _ (seqS _ (seqS (fun env => exB env _ fun l => forD l rdG rrB env) (seqS (frzS 2) _))))) [.str t] m) m
  generalize hL : (hs ++ [l]).map D.str = L at *
  rcases lp with ⟨k, z, e', g1, g2⟩ | ⟨s', y3, y4, y5, g1, g2⟩
  · have hd : dueL hs l = .tup [.str "text", .int ((k + 1 : Nat) : Int)] := by unfold dueL; rw [g1]
    have hk := (goR_len (s := none)).1 k g1
    refine .inl ⟨_, hd, by omega, by omega, [z], ?_⟩
    have hz : stD none = [] := rfl
    rw [hz] at g2
    simp only [Nat.zero_add] at g2
    simp [startE, isi_str, tm_str, sd, cu, g2]
  · have ok := goR_ok (s := none) trivial g1
    have hl2 := (goR_len (s := none)).2 s' g1
    have fz := frz_at (m := m ++ [.lst (stD s')]) (i := 2) (env := [some (.str t), some (.lst L), some (.ref m.length), y3, y4, y5]) rfl (get_top m _)
    rw [set_top] at fz
    have hz : stD none = [] := rfl
    rw [hz] at g2
    cases s' with
    | none =>
      have hz2 : stD none = [] := rfl
      rw [hz2] at fz g2
      have hd : dueL hs l = .tup [.str "text", .int ((hs.length + 1 : Nat) : Int)] := by unfold dueL; rw [g1]
      refine .inl ⟨_, hd, by omega, by omega, [.dead], ?_⟩
      generalize frzS 2 = ff at *
      simp [startE, isi_str, tm_str, sd, cu, g2, fz, al, le, ll]
    | some x =>
      obtain ⟨n, ps⟩ := x
      have hz2 : stD (some (n, ps)) = .tup [.int n] :: ps.map prD := rfl
      rw [hz2] at fz g2 hl2
      rw [h0] at hl2
      simp only [List.length_cons, List.length_map, Nat.zero_add] at hl2
      have hp0 : ¬ ((ps.length : Int) + 1 = 0) := by omega
      have c1 : Eng.cutD (.tup [.int n] :: ps.map prD) (some 1) none = ps.map prD := by rw [cut_drop _ _ (by omega)]; rfl
      have i0 : ∀ m, dIdx (.lst (.tup [.int n] :: ps.map prD)) (.int 0) m = .ok (.tup [.int n]) m := fun m => p_idxL _ _ _ (atI_nat _ 0 _ rfl)
      by_cases hl : l = emp
      · have le2 : (l == emp) = true := by rw [hl]; simp
        rw [le2] at le
        have hd : dueL hs l = tailD l n ps := by unfold dueL; rw [g1]; dsimp only; rw [if_pos hl]
        rw [hd]
        rcases plc_or n ps with hp | ⟨i, hp, i1, i2⟩
        · have hd2 : tailD l n ps = .tup [.str "round", .int n, .tup (ps.map prD)] := by unfold tailD; rw [hp]
          have mk := fun m => make_plc (m := m) hp
          refine .inr (.inr ⟨n, ps, hd2, hp, [.dead, .dead], ?_⟩)
          generalize frzS 2 = ff at *
          simp [startE, isi_str, tm_str, sd, cu, g2, fz, al, le, ll, hl, hp0, i0, c1, mk]
        · have hd2 : tailD l n ps = .tup [.str "place", .int i] := by unfold tailD; rw [hp]
          have mk := fun m => make_bad (m := m) hp
          refine .inr (.inl ⟨i, hd2, i1, by omega, [.dead, .ins 0 [] []], ?_⟩)
          generalize frzS 2 = ff at *
          simp [startE, isi_str, tm_str, sd, cu, g2, fz, al, le, ll, hl, hp0, i0, c1, mk]
      · have le2 : (l == emp) = false := beq_false_of_ne hl
        rw [le2] at le
        have hd : dueL hs l = .tup [.str "text", .int ((hs.length + 1 : Nat) : Int)] := by unfold dueL; rw [g1]; dsimp only; rw [if_neg hl]
        refine .inl ⟨_, hd, by omega, by omega, [.dead], ?_⟩
        generalize frzS 2 = ff at *
        simp [startE, isi_str, tm_str, sd, cu, g2, fz, al, le, ll, hl, hp0]
end Wk

set_option maxRecDepth 100000
set_option maxHeartbeats 1000000
namespace Wk
open PySem PySem.Spec PyProof.Rows L2 Eng
variable {m : Mem}
theorem tags : Str.ofString "text" ≠ Str.ofString "place" ∧ Str.ofString "text" ≠ Str.ofString "round" ∧ Str.ofString "place" ≠ Str.ofString "round" := by decide +kernel
def RdK (d : D) (f : Mem → R D) : Prop :=
  (∃ i : Int, d = .tup [.str "text", .int i] ∧ -1 ≤ i ∧ i ≤ 2000000 ∧ ∀ m, ∃ z, f m = .exn ⟨3, some (.int i)⟩ (m ++ z)) ∨ (∃ i : Int, d = .tup [.str "place", .int i] ∧ -1 ≤ i ∧ i ≤ 2000000 ∧ ∀ m, ∃ z, f m = .exn ⟨2, some (.int i)⟩ (m ++ z)) ∨
  (∃ n ps, d = .tup [.str "round", .int n, .tup (ps.map prD)] ∧ plc n ps = .non ∧ ∀ m, ∃ z, f m = .ok (rnd n ps) (m ++ z))
theorem rdk {d : D} {f : Mem → R D} (h : ∀ m, RdR d (f m) m) : RdK d f := by
  obtain ⟨t1, t2, t3⟩ := tags
  rcases h [] with ⟨i, e, a, b, _⟩ | ⟨i, e, a, b, _⟩ | ⟨n, ps, e, a, _⟩
  · refine .inl ⟨i, e, a, b, fun m => ?_⟩
    rcases h m with ⟨j, e2, _, _, z, hz⟩ | ⟨j, e2, _, _, z, hz⟩ | ⟨n, ps, e2, _, z, hz⟩ <;> rw [e] at e2 <;> simp at e2
    · subst e2; exact ⟨z, hz⟩
    · exact absurd e2.1 t1
  · refine .inr (.inl ⟨i, e, a, b, fun m => ?_⟩)
    rcases h m with ⟨j, e2, _, _, z, hz⟩ | ⟨j, e2, _, _, z, hz⟩ | ⟨n, ps, e2, _, z, hz⟩ <;> rw [e] at e2 <;> simp at e2
    · exact absurd e2.1.symm t1
    · subst e2; exact ⟨z, hz⟩
  · refine .inr (.inr ⟨n, ps, e, a, fun m => ?_⟩)
    rcases h m with ⟨j, e2, _, _, z, hz⟩ | ⟨j, e2, _, _, z, hz⟩ | ⟨n2, ps2, e2, _, z, hz⟩ <;> rw [e] at e2 <;> simp at e2
    obtain ⟨e3, e4⟩ := e2
    have : rnd n2 ps2 = rnd n ps := by unfold rnd; rw [e3, e4]
    rw [this] at hz
    exact ⟨z, hz⟩
theorem said_ok {q : Str} {K : M D} {d : D} (h0 : m[0]? = some (.tbl q)) (h : RdR d (K (m ++ [.dead])) (m ++ [.dead])) : ∃ z, lamCall 0 q 4 body_law_said K m = .ok d (m ++ z) := by
  unfold lamCall
  rw [h0]
  dsimp only
  rw [if_pos rfl]
  unfold body_law_said
  rcases h with ⟨i, rfl, _, _, z, hz⟩ | ⟨i, rfl, _, _, z, hz⟩ | ⟨n, ps, rfl, _, z, hz⟩
  · refine ⟨.dead :: z, ?_⟩
    simp only [List.append_assoc, List.cons_append, List.nil_append] at hz
    simp [startE]
    rw [tryS_exn (c := 3) (d := .int i) (m1 := m ++ .dead :: z) (env1 := [some (.ref m.length), some (.tup [.str "other", .int 0]), none, none]) (e := [some (.ref m.length), some (.tup [.str "text", .int i]), none, some (.exc 3 [.int i])])]
    · simp
    · simp [lamK, hz]
    · rfl
    · rfl
    · simp [isXD, okX, sb_BadText, sb_BadRound, sb_ValueError, xfD, ok_line]
    · intro j d h hj
      match j, h, hj with
      | 0, h, _ => exact .inl h
      | 1, h, _ => cases h; exact .inr (by simp [NoX, NoXs])
      | 2, h, _ => cases h
      | 3, _, hj => exact absurd rfl hj
  · refine ⟨.dead :: z, ?_⟩
    simp only [List.append_assoc, List.cons_append, List.nil_append] at hz
    simp [startE]
    rw [tryS_exn (c := 2) (d := .int i) (m1 := m ++ .dead :: z) (env1 := [some (.ref m.length), some (.tup [.str "other", .int 0]), none, none]) (e := [some (.ref m.length), some (.tup [.str "place", .int i]), none, some (.exc 2 [.int i])])]
    · simp
    · simp [lamK, hz]
    · rfl
    · rfl
    · simp [isXD, okX, sb_BadText, sb_BadRound, sb_ValueError, xfD, ok_place]
    · intro j d h hj
      match j, h, hj with
      | 0, h, _ => exact .inl h
      | 1, h, _ => cases h; exact .inr (by simp [NoX, NoXs])
      | 2, h, _ => cases h
      | 3, _, hj => exact absurd rfl hj
  · refine ⟨.dead :: z, ?_⟩
    simp only [List.append_assoc, List.cons_append, List.nil_append] at hz
    simp [startE]
    rw [tryS_ok (o := .nx [some (.ref m.length), some (.tup [.str "round", .int n, .tup (ps.map prD)]), some (rnd n ps), none]) (m' := m ++ .dead :: z)]
    · simp
    · simp [lamK, hz, isi_rnd, at_many, at_told]
    · intro x e h; cases h
/-! texts of rounds -/
abbrev st (i : Int) : Str := Str.ofString (toString i)
def rowS (p : Int × Int) : Str := st p.1 ++ sp ++ st p.2
def rowsS (n : Int) (ps : List (Int × Int)) : List Str := st n :: ps.map rowS
def txt (n : Int) (ps : List (Int × Int)) : Str := Str.join emp ((rowsS n ps).map (· ++ nl))
theorem st100 : ∀ b : Fin 100, (Str.ofString (toString ((b.val : Nat) : Int))).length ≤ 2 := by decide +kernel
theorem st_two {i : Int} (h0 : 0 ≤ i) (h1 : i < 100) : (st i).length ≤ 2 := by
  have := st100 ⟨i.toNat, by omega⟩
  rw [Int.toNat_of_nonneg h0] at this
  exact this
theorem add_str {a b : Str} (h : a.length + b.length ≤ 1000) : dAdd false (.str a) (.str b) m = .ok (.str (a ++ b)) m := by
  have h2 : a.length + b.length ≤ sizeLine := Nat.le_trans h (by decide)
  show (if a.length + b.length ≤ sizeLine then (pure (.str (a ++ b)) : M D) else M.fail) m = _
  rw [if_pos h2]
  rfl
theorem rowS_len {p : Int × Int} (h : 0 ≤ p.1 ∧ p.1 < 100 ∧ 0 ≤ p.2 ∧ p.2 < 100) : (rowS p).length ≤ 5 := by
  have a := st_two h.1 h.2.1
  have b := st_two h.2.2.1 h.2.2.2
  unfold rowS
  rw [app_len, app_len, sp_len]
  omega
theorem strsL_map (ys : List Str) : strsL (ys.map D.str) = some ys := by
  induction ys with
  | nil => rfl
  | cons y ys ih => rw [List.map_cons, strsL, ih]; rfl
theorem sum_le {B : Nat} : ∀ (r : List Str), (∀ y ∈ r, y.length ≤ B) → (r.map (·.length)).sum ≤ B * r.length
  | [], _ => Nat.zero_le _
  | y :: r, h => by
    have := sum_le r fun z hz => h z (by simp [hz])
    have := h y (by simp)
    rw [List.map_cons, List.sum_cons, List.length_cons, Nat.mul_add]
    omega
theorem join_ok {s : Str} {ys : List Str} {B : Nat} (h : ∀ y ∈ ys, y.length ≤ B) (hs : s.length ≤ 1) (hl : (B + 1) * ys.length ≤ 16000000) : joinD (.str s) [.lst (ys.map .str)] m = .ok (.str (Str.join s ys)) m := by
  have e : (viewS m (.lst (ys.map D.str))).bind strsL = some ys := strsL_map ys
  unfold joinD
  dsimp only
  rw [e]
  dsimp only
  have h1 := sum_le ys h
  have h2 : ys.length * s.length ≤ ys.length := by
    have := Nat.mul_le_mul_left ys.length hs
    omega
  rw [Nat.add_mul] at hl
  rw [if_pos (by omega)]
  have e2 : Txt.join s ys = Str.join s ys := StrLaws.glued_eq_join s ys
  rw [e2]
end Wk

set_option maxRecDepth 100000
set_option maxHeartbeats 1000000
namespace Wk
open PySem PySem.Spec PyProof.Rows L2 Eng
variable {m : Mem}
def rowF : D → D
  | .tup [.int a, .int b] => .str (rowS (a, b))
  | d => d
theorem rows_lc {ps : List (Int × Int)} {g : D → Eng.Env → M Eng.Env} {f : Eng.Env → M D} {env0 : Eng.Env} (hl : ps.length ≤ 200000) (h : ∀ p ∈ ps, ∃ e1, g (prD p) env0 m = .ok e1 m ∧ f e1 m = .ok (.str (rowS p)) m) :
    lcD false g (fun _ => pure true) f env0 (ps.map prD) m = .ok (.lst ((ps.map rowS).map .str)) m := by
  have e := lcD_map (m := m) (g := g) (t := fun _ => pure true) (e := f) (env0 := env0) (l := ps.map prD) rowF (by rw [List.length_map]; omega) (fun d hd => by
    obtain ⟨p, hp, rfl⟩ := List.mem_map.mp hd
    obtain ⟨e1, a, b⟩ := h p hp
    exact ⟨e1, a, rfl, b⟩)
  rw [e, List.map_map, List.map_map]
  rfl
def nlF : D → D
  | .str a => .str (a ++ nl)
  | d => d
theorem nl_lc {ys : List Str} {i : Nat} {f : Eng.Env → M D} {env0 : Eng.Env} (hl : ys.length ≤ 300000) (h : ∀ y ∈ ys, f (env0.set i (some (.str y))) m = .ok (.str (y ++ nl)) m) :
    lcD false (fun d env => pure (env.set i (some d))) (fun _ => pure true) f env0 (ys.map .str) m = .ok (.lst ((ys.map (· ++ nl)).map .str)) m := by
  have e := lcD_map (m := m) (g := fun d env => pure (env.set i (some d))) (t := fun _ => pure true) (e := f) (env0 := env0) (l := ys.map .str) nlF (by rw [List.length_map]; omega) (fun d hd => by
    obtain ⟨y, hy, rfl⟩ := List.mem_map.mp hd
    exact ⟨_, rfl, rfl, h y hy⟩)
  rw [e, List.map_map, List.map_map]
  rfl
section
variable {n : Int} {ps : List (Int × Int)}
theorem rowsS_len (h0 : 0 ≤ n) (h1 : n < 100) (h : ∀ p ∈ ps, 0 ≤ p.1 ∧ p.1 < 100 ∧ 0 ≤ p.2 ∧ p.2 < 100) : ∀ y ∈ rowsS n ps, y.length ≤ 5 := fun y hy => by
  unfold rowsS at hy
  rcases List.mem_cons.mp hy with rfl | hy
  · have := st_two h0 h1; omega
  · obtain ⟨p, hp, rfl⟩ := List.mem_map.mp hy
    exact rowS_len (h p hp)
theorem round_text_ok (h0 : 0 ≤ n) (h1 : n < 100) (h : ∀ p ∈ ps, 0 ≤ p.1 ∧ p.1 < 100 ∧ 0 ≤ p.2 ∧ p.2 < 100) (hl : ps.length ≤ 200000) : d_round_text [rnd n ps] m = .ok (.str (txt n ps)) m := by
  have sn : ∀ i : Int, 0 ≤ i → i < 100 → strD (.int i) m = .ok (.str (st i)) m := fun i a b => p_str (by omega)
  have rl := rowsS_len h0 h1 h
  have r1 := fun (g : D → Eng.Env → M Eng.Env) (f : Eng.Env → M D) (env0 : Eng.Env) => rows_lc (m := m) (g := g) (f := f) (env0 := env0) hl
  have jn := join_ok (m := m) (s := emp) (ys := (rowsS n ps).map (· ++ nl)) (B := 6) (fun y hy => by
    obtain ⟨z, hz, rfl⟩ := List.mem_map.mp hy
    rw [app_len, nl_len]
    have := rl z hz
    omega) (by decide +kernel) (by unfold rowsS; simp; omega)
  have n1 := fun (f : Eng.Env → M D) (env0 : Eng.Env) => nl_lc (m := m) (ys := rowsS n ps) (i := 4) (f := f) (env0 := env0) (by unfold rowsS; simp; omega)
  have ad : dAdd false (.lst [.str (st n)]) (.lst ((ps.map rowS).map .str)) m = .ok (.lst ((rowsS n ps).map .str)) m := by
    rw [p_addL _ _ (by simp; omega)]; rfl
  unfold d_round_text body_round_text
  simp [startE, at_many, at_told, sn n h0 h1, wipeE]
  rw [r1 _ _ _ (fun p hp => by
    obtain ⟨a, b, c, d⟩ := h p hp
    obtain ⟨x, y⟩ := p
    dsimp only at a b c d
    refine ⟨_, by simp [viewT, prD, pr]; rfl, ?_⟩
    have s1 := st_two a b
    have s2 := st_two c d
    have q1 := add_str (m := m) (a := st x) (b := sp) (by rw [sp_len]; omega)
    have q2 := add_str (m := m) (a := st x ++ sp) (b := st y) (by rw [app_len, sp_len]; omega)
    simp [sn x a b, sn y c d, q1, q2, rowS])]
  simp only [ad, bd_ok, ex_ok, ev_pure, sq_nx, List.set_cons_succ, List.set_cons_zero, ev_exB, ev_bind, tm_str, ev_get0, ev_getS, p_itL]
  rw [n1 _ _ (fun y hy => by
    have := rl y hy
    have q1 := add_str (m := m) (a := y) (b := nl) (by rw [nl_len]; omega)
    simp [q1])]
  simp only [bd_ok, jn, ex_ok, cl_ret, ev_pure, ev_bind]
  rfl
theorem law_text_ok (h0 : 0 ≤ n) (h1 : n < 100) (h : ∀ p ∈ ps, 0 ≤ p.1 ∧ p.1 < 100 ∧ 0 ≤ p.2 ∧ p.2 < 100) (hl : ps.length ≤ 200000) : d_law_text [.int n, .tup (ps.map prD)] m = .ok (.str (txt n ps)) m := by
  have sn : ∀ i : Int, 0 ≤ i → i < 100 → strD (.int i) m = .ok (.str (st i)) m := fun i a b => p_str (by omega)
  have rl := rowsS_len h0 h1 h
  have r1 := fun (g : D → Eng.Env → M Eng.Env) (f : Eng.Env → M D) (env0 : Eng.Env) => rows_lc (m := m) (g := g) (f := f) (env0 := env0) hl
  have jn := join_ok (m := m) (s := emp) (ys := (rowsS n ps).map (· ++ nl)) (B := 6) (fun y hy => by
    obtain ⟨z, hz, rfl⟩ := List.mem_map.mp hy
    rw [app_len, nl_len]
    have := rl z hz
    omega) (by decide +kernel) (by unfold rowsS; simp; omega)
  have n1 := fun (f : Eng.Env → M D) (env0 : Eng.Env) => nl_lc (m := m) (ys := rowsS n ps) (i := 5) (f := f) (env0 := env0) (by unfold rowsS; simp; omega)
  have ad : dAdd false (.lst [.str (st n)]) (.lst ((ps.map rowS).map .str)) m = .ok (.lst ((rowsS n ps).map .str)) m := by
    rw [p_addL _ _ (by simp; omega)]; rfl
  unfold d_law_text body_law_text
  simp [startE, sn n h0 h1, wipeE]
  rw [r1 _ _ _ (fun p hp => by
    obtain ⟨a, b, c, d⟩ := h p hp
    obtain ⟨x, y⟩ := p
    dsimp only at a b c d
    refine ⟨_, by simp [viewT, prD, pr]; rfl, ?_⟩
    have s1 := st_two a b
    have s2 := st_two c d
    have q1 := add_str (m := m) (a := st x) (b := sp) (by rw [sp_len]; omega)
    have q2 := add_str (m := m) (a := st x ++ sp) (b := st y) (by rw [app_len, sp_len]; omega)
    simp [sn x a b, sn y c d, q1, q2, rowS])]
  simp only [ad, bd_ok, ex_ok, ev_pure, sq_nx, List.set_cons_succ, List.set_cons_zero, ev_exB, ev_bind, tm_str, ev_get0, ev_getS, p_itL]
  rw [n1 _ _ (fun y hy => by
    have := rl y hy
    have q1 := add_str (m := m) (a := y) (b := nl) (by rw [nl_len]; omega)
    simp [q1])]
  simp only [bd_ok, jn, ex_ok, cl_ret, ev_pure, ev_bind]
  rfl
end
/-- from the rows read back to the rows -/
def rowsOf : St → List Str
  | none => []
  | some (n, ps) => rowsS n ps
theorem word_st {w : Str} {i : Int} (h : numI w = some i) : st i = w := (int_word (m := []) h).2.2.2.1
theorem row_one {r : Str} {n : Int} (h : rowN 1 r = some [n]) : r = st n := by
  unfold rowN at h
  by_cases hk : (Txt.split r sp).length = 1
  · rw [if_pos hk] at h
    have j := StrLaws.join_split r sp
    match q : Txt.split r sp, hk with
    | [w], _ =>
      rw [q] at h j
      unfold allN at h
      cases q1 : numI w with
      | none => rw [q1] at h; cases h
      | some i =>
        rw [q1] at h
        cases h
        rw [word_st q1]
        exact j.symm
  · rw [if_neg hk] at h; cases h
theorem row_two {r : Str} {a b : Int} (h : rowN 2 r = some [a, b]) : r = rowS (a, b) := by
  unfold rowN at h
  by_cases hk : (Txt.split r sp).length = 2
  · rw [if_pos hk] at h
    have j := StrLaws.join_split r sp
    match q : Txt.split r sp, hk with
    | [w, u], _ =>
      rw [q] at h j
      cases q1 : numI w with
      | none => unfold allN at h; rw [q1] at h; cases h
      | some i =>
        cases q2 : numI u with
        | none => simp [allN, q1, q2] at h
        | some k =>
          simp [allN, q1, q2] at h
          obtain ⟨rfl, rfl⟩ := h
          unfold rowS
          rw [word_st q1, word_st q2]
          exact j.symm
  · rw [if_neg hk] at h; cases h
theorem step_rows {s s' : St} {r : Str} (h : stepS s r = some s') : rowsOf s' = rowsOf s ++ [r] := by
  cases s with
  | none =>
    dsimp only [stepS] at h
    cases q2 : rowN 1 r with
    | none => rw [q2] at h; cases h
    | some is =>
      have hl := rowN_len q2
      match is, hl, q2 with
      | [n], _, q2 =>
        rw [q2] at h; cases h
        rw [row_one q2]
        rfl
  | some x =>
    obtain ⟨n, ps⟩ := x
    dsimp only [stepS] at h
    cases q2 : rowN 2 r with
    | none => rw [q2] at h; cases h
    | some is =>
      have hl := rowN_len q2
      match is, hl, q2 with
      | [a, b], _, q2 =>
        rw [q2] at h; cases h
        show rowsS n (ps ++ [(a, b)]) = rowsS n ps ++ [r]
        rw [row_two q2]
        unfold rowsS
        simp
theorem goR_rows : ∀ {rs : List Str} {s s' : St}, goR s rs = .inr s' → rowsOf s' = rowsOf s ++ rs
  | [], s, s', e => by cases e; simp
  | r :: rs, s, s', e => by
    unfold goR at e
    cases q : stepS s r with
    | none => rw [q] at e; cases e
    | some s1 =>
      rw [q] at e
      dsimp only at e
      cases q3 : goR s1 rs with
      | inl k => rw [q3] at e; cases e
      | inr s2 =>
        rw [q3] at e
        have h1 := goR_rows q3
        cases e
        rw [h1, step_rows q]; simp
theorem app_emp (x : Str) : x ++ emp = x := by
  have e : emp = ⟨#[]⟩ := by decide +kernel
  rw [e]
  show (⟨x.cps ++ #[]⟩ : Str) = x
  simp
theorem emp_len : emp.length = 0 := by decide +kernel
theorem join_nl : ∀ hs : List Str, Str.join nl (hs ++ [emp]) = Str.join emp (hs.map (· ++ nl))
  | [] => by show emp = Str.empty; decide +kernel
  | [x] => by show x ++ nl ++ emp = x ++ nl; rw [app_emp]
  | x :: y :: r => by
    have ih := join_nl (y :: r)
    show x ++ nl ++ Str.join nl (y :: r ++ [emp]) = (x ++ nl) ++ emp ++ Str.join emp ((y :: r).map (· ++ nl))
    rw [ih, app_emp]
theorem txt_back {t : Str} {hs : List Str} {n : Int} {ps : List (Int × Int)} (e : Txt.split t nl = hs ++ [emp]) (h : goR none hs = .inr (some (n, ps))) : txt n ps = t := by
  have j := StrLaws.join_split t nl
  rw [e, join_nl] at j
  have hr := goR_rows h
  have : rowsS n ps = hs := by simpa [rowsOf] using hr
  unfold txt
  rw [this]
  exact j
end Wk

set_option maxRecDepth 100000
set_option maxHeartbeats 2000000
namespace Wk
open PySem PySem.Spec PyProof.Rows L2 Eng
variable {m : Mem}
theorem due_cases {hs : List Str} {l : Str} : (∃ k : Int, dueL hs l = .tup [.str "text", .int k]) ∨ (∃ n ps, goR none hs = .inr (some (n, ps)) ∧ l = emp ∧ dueL hs l = tailD l n ps) := by
  unfold dueL
  cases h : goR none hs with
  | inl k => exact .inl ⟨_, rfl⟩
  | inr s =>
    cases s with
    | none => exact .inl ⟨_, rfl⟩
    | some x =>
      obtain ⟨n, ps⟩ := x
      dsimp only
      by_cases hl : l = emp
      · rw [if_pos hl]; exact .inr ⟨n, ps, rfl, hl, rfl⟩
      · rw [if_neg hl]; exact .inl ⟨_, rfl⟩
theorem goR_all : ∀ {rs : List Str} {s s' : St}, goR s rs = .inr s' → (∀ r ∈ rs, (allN (Txt.split r sp)).isSome = true) ∧ stD s' = stD s ++ rs.map fun r => rowD (allN (Txt.split r sp))
  | [], s, s', e => by cases e; exact ⟨fun _ h => (nomatch h), by simp⟩
  | r :: rs, s, s', e => by
    rcases step_row s r with ⟨e1, e2⟩ | ⟨s1, e1, e2, e3, e4, e5⟩
    · unfold goR at e; rw [e1] at e; cases e
    · unfold goR at e
      rw [e1] at e
      dsimp only at e
      have hr : rowN (kOf s) r = allN (Txt.split r sp) := by
        unfold rowN at e4 ⊢
        by_cases hk : (Txt.split r sp).length = kOf s
        · rw [if_pos hk]
        · rw [if_neg hk] at e4; cases e4
      cases q3 : goR s1 rs with
      | inl k => rw [q3] at e; cases e
      | inr s2 =>
        rw [q3] at e
        obtain ⟨h1, h2⟩ := goR_all q3
        cases e
        refine ⟨fun x hx => ?_, ?_⟩
        · rcases List.mem_cons.mp hx with rfl | hx
          · rw [← hr]; exact e4
          · exact h1 x hx
        · rw [h2, e5, hr]; simp
def numR : D → D
  | .str r => rowD (allN (Txt.split r sp))
  | d => d
theorem back_lc {hs : List Str} {s' : St} (h : goR none hs = .inr s') (hl : ∀ r ∈ hs, r.length ≤ 800000) (hc : hs.length ≤ 900000) {f : Eng.Env → M D} {i : Nat} {env0 : Eng.Env}
    (hf : ∀ r : Str, r.length ≤ 800000 → (allN (Txt.split r sp)).isSome = true → f (env0.set i (some (.str r))) m = .ok (rowD (allN (Txt.split r sp))) m) :
    lcD false (fun d env => pure (env.set i (some d))) (fun _ => pure true) f env0 (hs.map .str) m = .ok (.lst (stD s')) m := by
  obtain ⟨h1, h2⟩ := goR_all h
  have e := lcD_map (m := m) (g := fun d env => pure (env.set i (some d))) (t := fun _ => pure true) (e := f) (env0 := env0) (l := hs.map .str) numR (by rw [List.length_map]; omega) (fun d hd => by
    obtain ⟨r, hr, rfl⟩ := List.mem_map.mp hd
    exact ⟨_, rfl, rfl, hf r (hl r hr) (h1 r hr)⟩)
  rw [e, List.map_map, h2]
  rfl
theorem int_lc {r : Str} {is : List Int} (h : allN (Txt.split r sp) = some is) (hl : r.length ≤ 800000) {f : Eng.Env → M D} {i : Nat} {env0 : Eng.Env}
    (hf : ∀ w : Str, ∀ k : Int, numI w = some k → f (env0.set i (some (.str w))) m = .ok (.int k) m) :
    lcD false (fun d env => pure (env.set i (some d))) (fun _ => pure true) f env0 ((Txt.split r sp).map .str) m = .ok (.lst (is.map .int)) m := by
  have hc := split_cnt r sp_len
  obtain ⟨a, b, c⟩ := allN_some h
  have e := lcD_map (m := m) (g := fun d env => pure (env.set i (some d))) (t := fun _ => pure true) (e := f) (env0 := env0) (l := (Txt.split r sp).map .str) numF (by rw [List.length_map]; omega) (fun d hd => by
    obtain ⟨w, hw, rfl⟩ := List.mem_map.mp hd
    rw [List.any_eq_false] at b
    have hb := b w hw
    cases q : numI w with
    | none => rw [q] at hb; simp at hb
    | some k =>
      refine ⟨_, rfl, rfl, ?_⟩
      rw [hf w k q]
      show R.ok (D.int k) m = R.ok (optD (numI w)) m
      rw [q]; rfl)
  rw [e, List.map_map, ← a]
  rfl
theorem szp {p : Int × Int} (h : 0 ≤ p.1 ∧ p.1 < 100 ∧ 0 ≤ p.2 ∧ p.2 < 100) : Sz (prD p) 100 1 := by
  have za : Sz (.int p.1) 22 0 := int_show (by omega) (by omega)
  have zb : Sz (.int p.2) 22 0 := int_show (by omega) (by omega)
  exact (Sz.tup (SzL.cons za (SzL.cons zb SzL.nil))).mono
theorem tag_eq : (Str.ofString "text" == Str.ofString "place") = false ∧ (Str.ofString "round" == Str.ofString "place") = false ∧ (Str.ofString "round" == Str.ofString "text") = false := by decide +kernel
theorem is_read_no {d : D} (h0 : m[0]? = some (.tbl q_law_is_read)) (hi : ∀ m, isiD 1 [.bi "str"] d m = .ok (.bl false) m) : ∃ z, d_law_is_read [d] m = .ok (.bl true) (m ++ z) := by
  have lr : ∀ m, d_law_read [d] m = .ok (.tup [.str "text", .int 0]) m := fun m => by
    unfold d_law_read body_law_read
    simp [startE, hi]
  have rr : ∀ m, d_read_round [d] m = .exn ⟨3, some (.int 0)⟩ m := fun m => by
    unfold d_read_round body_read_round
    simp [startE, hi]
  obtain ⟨z, hz⟩ := said_ok (K := d_read_round [d]) (d := .tup [.str "text", .int 0]) h0 (.inl ⟨0, rfl, by omega, by omega, [], by rw [rr]; simp⟩)
  have lamE : ∀ K : M D, (∀ m', K m' = d_read_round [d] m') → lamCall 0 q_law_is_read 4 body_law_said K m = .ok (.tup [.str "text", .int 0]) (m ++ z) := fun K hk => by rw [show K = d_read_round [d] from funext hk]; exact hz
  have zi : Sz (.int 0) 22 0 := int_show (by omega) (by omega)
  have zd : Sz (.tup [.str "text", .int 0]) 100 1 := (Sz.tup (SzL.cons (Sz.str "text" (n := 10) (by decide +kernel)) (SzL.cons zi SzL.nil))).mono
  obtain ⟨s2, _, r2⟩ := repr_sz (m := []) zd (by decide) (by omega)
  refine ⟨z, ?_⟩
  unfold d_law_is_read body_law_is_read
  simp [startE, lr, lamE, r2, eq_str, tag_eq]
end Wk

set_option maxRecDepth 100000
set_option maxHeartbeats 2000000
namespace Wk
open PySem PySem.Spec PyProof.Rows L2 Eng
variable {m : Mem}
theorem prs_inj : ∀ {a b : List (Int × Int)}, a.map prD = b.map prD → a = b
  | [], [], _ => rfl
  | [], _ :: _, h => by simp at h
  | _ :: _, [], h => by simp at h
  | (p, q) :: a, (r, s) :: b, h => by
    rw [List.map_cons, List.map_cons] at h
    have h1 := (List.cons.inj h).1
    have h2 := prs_inj (List.cons.inj h).2
    simp [prD, pr] at h1
    rw [h1.1, h1.2, h2]
theorem is_read_str {t : Str} (h0 : m[0]? = some (.tbl q_law_is_read)) (ht : t.length ≤ 100000) : ∃ z, d_law_is_read [.str t] m = .ok (.bl true) (m ++ z) := by
  obtain ⟨hs, l, e⟩ : ∃ hs l, Txt.split t nl = hs ++ [l] := ⟨_, _, (List.dropLast_concat_getLast (split_ne t nl_len)).symm⟩
  obtain ⟨z1, lr⟩ := law_read_ok (m := m) e (by omega)
  have hlen : 0 < m.length := by
    have := (List.getElem?_eq_some_iff.mp h0).1
    exact this
  have hm : ∀ z : Mem, (m ++ z)[0]? = some (.tbl q_law_is_read) := fun z => by rw [List.getElem?_append_left hlen]; exact h0
  have rk := rdk (d := dueL hs l) (f := d_read_round [.str t]) fun m => read_round_ok e (by omega)
  have rr := read_round_ok (m := m ++ [z1] ++ [.dead]) e (by omega)
  obtain ⟨z2, sz⟩ := said_ok (m := m ++ [z1]) (K := d_read_round [.str t]) (hm [z1]) rr
  have lamE : ∀ K : M D, (∀ m', K m' = d_read_round [.str t] m') → lamCall 0 q_law_is_read 4 body_law_said K (m ++ [z1]) = .ok (dueL hs l) (m ++ ([z1] ++ z2)) := fun K hk => by rw [show K = d_read_round [.str t] from funext hk, sz]; simp
  have hcnt := split_cnt t nl_len
  rw [e] at hcnt
  simp only [List.length_append, List.length_cons, List.length_nil] at hcnt
  have hmem : ∀ r ∈ hs, r.length ≤ 800000 := fun r h => by
    have := split_mem (x := t) nl_len (z := r) (by rw [e]; simp [h])
    omega
  rcases rk with ⟨i, hd, i1, i2, hr⟩ | ⟨i, hd, i1, i2, hr⟩ | ⟨n, ps, hd, hp, hr⟩
  · rw [hd] at lr lamE
    have zi : Sz (.int i) 22 0 := int_show i1 (by omega)
    have zd : Sz (.tup [.str "text", .int i]) 100 1 := (Sz.tup (SzL.cons (Sz.str "text" (n := 10) (by decide +kernel)) (SzL.cons zi SzL.nil))).mono
    obtain ⟨s2, _, r2⟩ := repr_sz (m := []) zd (by decide) (by omega)
    refine ⟨[z1] ++ z2, ?_⟩
    unfold d_law_is_read body_law_is_read
    simp [startE, lr, lamE, r2, eq_str, tag_eq]
  · have zi : Sz (.int i) 22 0 := int_show i1 (by omega)
    have zd : Sz (.tup [.str "place", .int i]) 100 1 := (Sz.tup (SzL.cons (Sz.str "place" (n := 10) (by decide +kernel)) (SzL.cons zi SzL.nil))).mono
    obtain ⟨s2, _, r2⟩ := repr_sz (m := []) zd (by decide) (by omega)
    obtain ⟨t1, t2, t3⟩ := tags
    rcases due_cases (hs := hs) (l := l) with ⟨k, hk⟩ | ⟨n, ps, hg, hl, hk⟩
    · rw [hd] at hk; simp at hk; exact absurd hk.1.symm t1
    have hpl : plc n ps = .int i := by
      rw [hd] at hk
      unfold tailD at hk
      rcases plc_or n ps with hp | ⟨j, hp, _⟩
      · rw [hp] at hk; simp at hk
      · rw [hp] at hk; simp at hk; rw [hp, hk]
    rw [hd] at lr lamE
    have cu : Eng.cutD ((hs ++ [l]).map D.str) none (some (-1)) = hs.map .str := by
      rw [cut_last _ (by simp), List.map_append]; simp
    have sd := fun m => splitD_ok (m := m) (x := t) nl_len (by omega)
    rw [e] at sd
    generalize (hs ++ [l]).map D.str = L at cu sd
    have hz2 : stD (some (n, ps)) = .tup [.int n] :: ps.map prD := rfl
    have c1 : Eng.cutD (.tup [.int n] :: ps.map prD) (some 1) none = ps.map prD := by rw [cut_drop _ _ (by omega)]; rfl
    have i0 : ∀ m, dIdx (.lst (.tup [.int n] :: ps.map prD)) (.int 0) m = .ok (.tup [.int n]) m := fun m => p_idxL _ _ _ (atI_nat _ 0 _ rfl)
    have bl := fun (f : Eng.Env → M D) (env0 : Eng.Env) => back_lc (m := m ++ ([z1] ++ z2)) hg hmem (by omega) (f := f) (i := 4) (env0 := env0)
    rw [hz2] at bl
    have mk := fun m => make_bad (m := m) hpl
    obtain ⟨z3, sz3⟩ := said_ok (m := m ++ ([z1] ++ z2)) (K := mkI 0 true d_Round_init [.int n, .tup (ps.map prD)]) (d := .tup [.str "place", .int i]) (hm _) (.inr (.inl ⟨i, rfl, i1, i2, _, mk _⟩))
    have lamE2 : ∀ K : M D, (∀ m', K m' = mkI 0 true d_Round_init [.int n, .tup (ps.map prD)] m') → lamCall 0 q_law_is_read 4 body_law_said K (m ++ ([z1] ++ z2)) = .ok (.tup [.str "place", .int i]) (m ++ ([z1] ++ z2) ++ z3) := fun K hk => by rw [show K = mkI 0 true d_Round_init [.int n, .tup (ps.map prD)] from funext hk, sz3]
    simp only [List.cons_append, List.nil_append, List.append_assoc] at lamE lamE2 bl
    refine ⟨z1 :: z2 ++ z3, ?_⟩
    unfold d_law_is_read body_law_is_read
    simp [startE, lr, lamE, r2, eq_str, tag_eq, tm_str, sd, cu, wipeE]
    rw [bl _ _ (fun r hr1 hr2 => by
      cases q : allN (Txt.split r sp) with
      | none => rw [q] at hr2; cases hr2
      | some is =>
        have s2 := fun m => splitD_ok (m := m) (x := r) sp_len (by omega)
        have il := fun (f : Eng.Env → M D) (env0 : Eng.Env) => int_lc (m := m ++ z1 :: z2) q hr1 (f := f) (i := 5) (env0 := env0)
        simp [tm_str, s2]
        rw [il _ _ (fun w k hk => by simp [int_word hk])]
        simp [rowD])]
    simp [i0, c1, lamE2, r2, eq_str]
  · obtain ⟨t1, t2, t3⟩ := tags
    rcases due_cases (hs := hs) (l := l) with ⟨k, hk⟩ | ⟨n2, ps2, hg, hl, hk⟩
    · rw [hd] at hk; simp at hk
    have hnp : n2 = n ∧ ps2.map prD = ps.map prD := by
      rw [hd] at hk
      unfold tailD at hk
      rcases plc_or n2 ps2 with hp | ⟨j, hp, _⟩
      · rw [hp] at hk; simp at hk; exact ⟨hk.1.symm, hk.2.symm⟩
      · rw [hp] at hk; simp at hk
    obtain ⟨rfl, hps⟩ := hnp
    obtain rfl := prs_inj hps
    have ok := goR_ok (s := none) trivial hg
    have hgl := (goR_len (s := none)).2 _ hg
    have hpl : ps2.length ≤ 100001 := by
      have : (stD (some (n2, ps2))).length = ps2.length + 1 := by simp [stD]
      have h0 : (stD none).length = 0 := rfl
      omega
    subst hl
    have tb := txt_back e hg
    rw [hd] at lr lamE
    have zn : Sz (.int n2) 22 0 := int_show (by have := ok.1; omega) (by have := ok.2.1; omega)
    have zp : Sz (.tup (ps2.map prD)) 10200200 2 := (Sz.tup (SzL.all (n := 100) (k := 1) fun d hd => by
      obtain ⟨p, hp, rfl⟩ := List.mem_map.mp hd
      exact szp (ok.2.2 p hp))).mono (by rw [List.length_map]; omega) (by omega)
    have zd : Sz (.tup [.str "round", .int n2, .tup (ps2.map prD)]) 10300000 3 := (Sz.tup (SzL.cons (n := 10) ((Sz.str "round" (by decide +kernel)).mono (Nat.le_refl _) (Nat.zero_le _)) (SzL.cons (zn.mono (Nat.le_refl _) (Nat.zero_le _)) (SzL.cons zp (SzL.nil.mono (Nat.le_refl _) (Nat.zero_le _)))))).mono
    obtain ⟨s2, _, r2⟩ := repr_sz (m := []) zd (Nat.le_trans (show 10300000 ≤ 16000000 by omega) (by decide)) (by omega)
    let zf := fun m => Classical.choose (hr m)
    have hzf : ∀ m, d_read_round [.str t] m = .ok (rnd n2 ps2) (m ++ zf m) := fun m => Classical.choose_spec (hr m)
    generalize zf = zf at hzf
    have tx := fun m => round_text_ok (m := m) ok.1 ok.2.1 ok.2.2 (by omega)
    rw [tb] at tx
    have mk := fun m => make_plc (m := m) hp
    have i1 : ∀ m, dIdx (.tup [.str "round", .int n2, .tup (ps2.map prD)]) (.int 1) m = .ok (.int n2) m := fun m => p_idx1 _ _ _
    have i2 : ∀ m, dIdx (.tup [.str "round", .int n2, .tup (ps2.map prD)]) (.int 2) m = .ok (.tup (ps2.map prD)) m := fun m => p_idxT _ _ _ (atI_nat _ 2 _ rfl)
    have own := fun m => own_rnd (m := m) false n2 n2 ps2 ps2
    simp only [List.cons_append, List.nil_append, List.append_assoc] at lamE
    have : ∃ w, d_law_is_read [.str t] m = .ok (.bl true) w ∧ ∃ z, w = m ++ z := by
      unfold d_law_is_read body_law_is_read
      simp [startE, lr, lamE, r2, eq_str, tag_eq, hzf, tx, i2, mk, own]
    obtain ⟨w, hw, z, rfl⟩ := this
    exact ⟨z, hw⟩
end Wk

set_option maxRecDepth 100000
set_option maxHeartbeats 4000000
namespace Wk
open PySem PySem.Spec PyProof.Rows L2 Eng
variable {m : Mem} {t o : Ob} {rest : Mem}
section
variable {x0 x1 x2 x3 x4 v : D}
@[simp] theorem g_get0 : dIdx (.ref 1) (.int 0) (t :: .lst [x0, x1, x2, x3, x4] :: m) = .ok x0 (t :: .lst [x0, x1, x2, x3, x4] :: m) := Eq.trans rfl rfl
@[simp] theorem g_get1 : dIdx (.ref 1) (.int 1) (t :: .lst [x0, x1, x2, x3, x4] :: m) = .ok x1 (t :: .lst [x0, x1, x2, x3, x4] :: m) := Eq.trans rfl rfl
@[simp] theorem g_get2 : dIdx (.ref 1) (.int 2) (t :: .lst [x0, x1, x2, x3, x4] :: m) = .ok x2 (t :: .lst [x0, x1, x2, x3, x4] :: m) := Eq.trans rfl rfl
@[simp] theorem g_get3 : dIdx (.ref 1) (.int 3) (t :: .lst [x0, x1, x2, x3, x4] :: m) = .ok x3 (t :: .lst [x0, x1, x2, x3, x4] :: m) := Eq.trans rfl rfl
@[simp] theorem g_get4 : dIdx (.ref 1) (.int 4) (t :: .lst [x0, x1, x2, x3, x4] :: m) = .ok x4 (t :: .lst [x0, x1, x2, x3, x4] :: m) := Eq.trans rfl rfl
@[simp] theorem g_set1 : setD (.ref 1) (.int 1) v (t :: .lst [x0, x1, x2, x3, x4] :: m) = .ok () (t :: .lst [x0, v, x2, x3, x4] :: m) := Eq.trans rfl rfl
@[simp] theorem g_set2 : setD (.ref 1) (.int 2) v (t :: .lst [x0, x1, x2, x3, x4] :: m) = .ok () (t :: .lst [x0, x1, v, x3, x4] :: m) := Eq.trans rfl rfl
@[simp] theorem g_set3 : setD (.ref 1) (.int 3) v (t :: .lst [x0, x1, x2, x3, x4] :: m) = .ok () (t :: .lst [x0, x1, x2, v, x4] :: m) := Eq.trans rfl rfl
@[simp] theorem g_set4 : setD (.ref 1) (.int 4) v (t :: .lst [x0, x1, x2, x3, x4] :: m) = .ok () (t :: .lst [x0, x1, x2, x3, v] :: m) := Eq.trans rfl rfl
end
theorem emod_lt64 (x : Int) : (-(2 ^ 64) < x % 2147483647 ∧ x % 2147483647 < 2 ^ 64) := by omega
theorem draw_ok {n : Int} (h : Hd o) (h1 : 0 < n) (h2 : n < 1073741824) : ∃ r o', 0 ≤ r ∧ r < n ∧ Hd o' ∧ d_law_draw [.ref 1, .int n] (t :: o :: rest) = .ok (.int r) (t :: o' :: rest) := by
  obtain ⟨ks, a, b, c, e, ha, rfl⟩ := h
  unfold d_law_draw body_law_draw
  simp only [ev_callB, startE, List.map_cons, List.map_nil, List.length_cons, List.length_nil, List.cons_append, List.nil_append, Nat.reduceAdd, Nat.reduceSub, List.replicate]
  rw [ev_seqS]
  refine sq_via (P := fun z => ∃ r o', 0 ≤ r ∧ r < n ∧ Hd o' ∧ z.cl = .ok (.int r) (t :: o' :: rest)) (fun e1 m1 => ∃ x a' b' c', 0 ≤ a' ∧ e1 = [some (.ref 1), some (.int n), x, none, none] ∧ m1 = t :: .lst [.lst (ks.map .int), .int a', .int b', .int c', .int e] :: rest) ?_ ?_
  · by_cases hb : b = 0
    · by_cases hl : a < (ks.length : Int)
      · obtain ⟨k, hk⟩ := idx_ints (m := t :: .lst [.lst (ks.map .int), .int a, .int b, .int c, .int e] :: rest) ks a ha hl
        subst hb
        by_cases hk2 : (1000000000000000000 : Int) ≤ k
        · refine ⟨[some (.ref 1), some (.int n), some (.int k), none, none], t :: .lst [.lst (ks.map .int), .int (a + 1), .int k, .int ((c * 69621 + k * 40692 + 31) % 2147483629), .int e] :: rest, ?_, _, _, _, _, by omega, rfl, rfl⟩
          simp [hl, hk, p_mul, p_pow, hk2]
        · refine ⟨[some (.ref 1), some (.int n), some (.int k), none, none], t :: .lst [.lst (ks.map .int), .int (a + 1), .int 0, .int ((c * 69621 + k * 40692 + 31) % 2147483629), .int e] :: rest, ?_, _, _, _, _, by omega, rfl, rfl⟩
          simp [hl, hk, p_mul, p_pow, hk2]
      · refine ⟨_, _, ?_, none, a, b, c, ha, rfl, rfl⟩
        simp [hb, hl]
    · refine ⟨_, _, ?_, none, a, b, c, ha, rfl, rfl⟩
      simp [hb]
  · rintro e1 m1 ⟨x, a', b', c', ha', rfl, rfl⟩
    by_cases hb : 0 < b'
    · refine ⟨b' % n, .lst [.lst (ks.map .int), .int a', .int (b' / n), .int c', .int e], Int.emod_nonneg _ (by omega), Int.emod_lt_of_pos _ h1, ⟨ks, a', _, c', e, ha', rfl⟩, ?_⟩
      simp [hb, h1, h2]
    · have q : ∀ (m : Mem) (x y : Int), dMul false (.int (x % 2147483647)) (.int y) m = .ok (.int (x % 2147483647 * y)) m := fun m x y => p_mul _ _ _ (.inl (emod_lt64 x))
      have N : ∃ t : Int, t = (c' + 7919 * (e + 1)) * 48271 % 2147483647 := ⟨_, rfl⟩
      obtain ⟨t, ht⟩ := N
      refine ⟨t * (t / 1009 + 69621) % 2147483647 * (t * (t / 1009 + 69621) % 2147483647 / 2003 + 40014) % 2147483563 / 16 % n, .lst [.lst (ks.map .int), .int a', .int b', .int c', .int (e + 1)], Int.emod_nonneg _ (by omega), Int.emod_lt_of_pos _ h1, ⟨ks, a', _, c', _, ha', rfl⟩, ?_⟩
      subst ht
      simp [hb, h1, h2, p_mul, q]
theorem any_ok {l : List D} (h : Hd o) (h1 : l ≠ []) (h2 : l.length < 1000) : ∃ d o', d ∈ l ∧ Hd o' ∧ d_law_any [.ref 1, .lst l] (t :: o :: rest) = .ok d (t :: o' :: rest) := by
  have hp : 0 < l.length := List.length_pos_iff.mpr h1
  obtain ⟨r, o', r0, r1, h', e⟩ := draw_ok (t := t) (rest := rest) (n := (l.length : Int)) h (by omega) (by omega)
  have hr : r.toNat < l.length := by omega
  have ha : atI l r = some l[r.toNat] := by
    unfold atI ixN
    rw [if_pos r0, if_pos r1]
    simp [hr]
  refine ⟨l[r.toNat], o', List.getElem_mem hr, h', ?_⟩
  unfold d_law_any body_law_any
  simp [startE, e, p_idxL _ _ _ ha]
def absM : D → D
  | .int i => .int (if i < 0 then -i else i)
  | d => d
theorem hand_ok (ns : List Int) : ∃ o, Hd o ∧ d_law_hand [.scr (ns.map .int)] [t] = .ok (.ref 1) [t, o] := by
  have hc : dCut false (.scr (ns.map .int)) none (some 63) [t] = .ok (.lst ((ns.take 63).map .int)) [t] := by
    have e : Eng.cutD (ns.map D.int) none (some 63) = (ns.take 63).map .int := by rw [cut_take _ _ (by omega), List.map_take]; rfl
    show mkNew false (.lst (Eng.cutD (ns.map D.int) none (some 63))) [t] = _
    rw [e]; rfl
  have hl : (ns.take 63).length ≤ 63 := by rw [List.length_take]; omega
  generalize ns.take 63 = ks at hc hl
  have el := fun (e0 : Eng.Env) (m : Mem) (he : e0 = [some (.scr (ns.map .int)), none, none]) => lcD_map (g := fun d env => pure (env.set 2 (some d))) (t := fun _ => pure true) (e := fun env => do let l ← (do let x ← (do let l ← (do let x ← (getE env 2); let y ← (pure []); pure (x :: y)); on1 intD l); let y ← (pure []); pure (x :: y)); on1 absD l) (env0 := e0) (m := m) (l := ks.map D.int) absM (by simp; omega) (fun d hd => by
    obtain ⟨i, _, rfl⟩ := List.mem_map.mp hd
    subst he
    exact ⟨_, rfl, rfl, by simp [absM]⟩)
  have em : (ks.map D.int).map absM = (ks.map fun i => if i < 0 then -i else i).map D.int := by rw [List.map_map, List.map_map]; rfl
  rw [em] at el
  refine ⟨.lst [.lst ((ks.map fun i => if i < 0 then -i else i).map D.int), .int 0, .int 0, .int (1503 + 7 * (ks.length : Nat)), .int 0], ⟨_, 0, 0, _, 0, Int.le_refl _, rfl⟩, ?_⟩
  have hm : ∀ m : Mem, dMul false (.int 7) (.int (ks.length : Nat)) m = .ok (.int (7 * (ks.length : Nat))) m := fun m => p_mul _ _ _ (.inl (by omega))
  unfold d_law_hand body_law_hand
  simp [startE, hc, wipeE]
  rw [el _ _ rfl]
  simp [hm]
end Wk

set_option maxRecDepth 100000
set_option maxHeartbeats 4000000
namespace Wk
open PySem PySem.Spec PyProof.Rows L2 Eng
variable {m : Mem} {t o : Ob} {rest : Mem}
theorem rngL_at {lo : Int} {n j : Nat} {d : D} (h : (rngL lo n)[j]? = some d) : j < n ∧ d = .int (lo + (j : Nat)) := by
  unfold rngL at h
  rw [List.getElem?_map] at h
  by_cases hj : j < n
  · rw [List.getElem?_range hj] at h
    cases h
    exact ⟨hj, rfl⟩
  · rw [List.getElem?_eq_none (by simpa using hj)] at h
    cases h
theorem p_rng2 {i n : Int} (a : 0 ≤ i) (b : i ≤ 1000) (c : 0 ≤ n) (d : n ≤ 1000) : rng2D [.int i, .int n] m = .ok (rngL i (n - i).toNat) m := by
  have h : -(2 ^ 62) ≤ i ∧ i < 2 ^ 62 ∧ -(2 ^ 62) ≤ n ∧ n < 2 ^ 62 := ⟨by omega, by omega, by omega, by omega⟩
  unfold rng2D
  simp only [if_pos h]
  rfl
def Qs (n i j : Int) (ps : List (Int × Int)) : Prop := (∀ p ∈ ps, 0 ≤ p.1 ∧ p.1 < n ∧ 0 ≤ p.2 ∧ p.2 < n ∧ p.1 ≠ p.2 ∧ ((p.1 < i ∨ p.2 < i) ∨ (p.1 = i ∧ p.2 < j) ∨ (p.2 = i ∧ p.1 < j))) ∧ ps.Pairwise un ∧ (ps.length : Int) ≤ 24 * i + j
theorem qs_next {n i j : Int} {ps : List (Int × Int)} (h : Qs n i j ps) : Qs n i (j + 1) ps := by
  obtain ⟨h1, h2, h3⟩ := h
  exact ⟨fun p hp => by have := h1 p hp; omega, h2, by omega⟩
theorem qs_up {n i : Int} {ps : List (Int × Int)} (h : Qs n i n ps) (hn : n ≤ 24) (hi : 0 ≤ i) : Qs n (i + 1) (i + 1 + 1) ps := by
  obtain ⟨h1, h2, h3⟩ := h
  exact ⟨fun p hp => by have := h1 p hp; omega, h2, by omega⟩
theorem qs_add {n i j : Int} {ps : List (Int × Int)} {p : Int × Int} (h : Qs n i j ps) (h0 : 0 ≤ i) (hj : i < j) (hn : j < n) (hp : p = (i, j) ∨ p = (j, i)) : Qs n i (j + 1) (ps ++ [p]) := by
  obtain ⟨h1, h2, h3⟩ := h
  refine ⟨fun q hq => ?_, List.pairwise_append.mpr ⟨h2, by simp, fun q hq r hr => ?_⟩, by simp; omega⟩
  · rcases List.mem_append.mp hq with hq | hq
    · have := h1 q hq; omega
    · obtain rfl : q = p := by simpa using hq
      rcases hp with rfl | rfl <;> dsimp only <;> omega
  · obtain rfl : r = p := by simpa using hr
    have := h1 q hq
    refine ⟨fun e => ?_, fun e => ?_⟩
    · rcases hp with rfl | rfl <;> subst e <;> dsimp only at this <;> omega
    · rcases hp with rfl | rfl <;> subst e <;> dsimp only at this <;> omega
def SrI (t : Ob) (rest : Mem) (n s : Int) (i j : Int) (e1 : Eng.Env) (m1 : Mem) : Prop := ∃ ps o' x y, Hd o' ∧ Qs n i j ps ∧ e1 = [some (.ref 1), some (.int n), some (.int s), some (.ref (rest.length + 2)), x, y] ∧ m1 = t :: o' :: (rest ++ [.lst (ps.map prD)])
def SrP (t : Ob) (rest : Mem) (z : R D) : Prop := ∃ (n : Int) (ps : List (Int × Int)) (o' : Ob) (y : Ob), 1 ≤ n ∧ n ≤ 24 ∧ Rt n ps ∧ ps.length ≤ 601 ∧ Hd o' ∧ z = .ok (.tup [.int n, .tup (ps.map prD)]) (t :: o' :: (rest ++ [y]))
theorem round_p (h : Hd o) : SrP t rest (d_law_some_round [.ref 1] (t :: o :: rest)) := by
  obtain ⟨kd, o1, hk, h1, e1⟩ := any_ok (t := t) (rest := rest) (l := [.int 2, .int 5, .int 12, .int 24]) h (by simp) (by simp)
  have hkk : ∃ k : Int, kd = .int k ∧ 2 ≤ k ∧ k ≤ 24 := by
    simp only [List.mem_cons, List.not_mem_nil, or_false] at hk
    rcases hk with rfl | rfl | rfl | rfl <;> exact ⟨_, rfl, by omega, by omega⟩
  obtain ⟨k, rfl, k1, k2⟩ := hkk
  obtain ⟨r, o2, r0, r1, h2, e2⟩ := draw_ok (t := t) (rest := rest) (n := k) h1 (by omega) (by omega)
  obtain ⟨s, o3, s0, s1, h3, e3⟩ := draw_ok (t := t) (rest := rest) (n := 5) h2 (by omega) (by omega)
  obtain ⟨n, hn, n1, n2⟩ : ∃ n : Int, 1 + r = n ∧ 1 ≤ n ∧ n ≤ 24 := ⟨1 + r, rfl, by omega, by omega⟩
  have er : ∀ m, rng1D [.int n] m = .ok (rngL 0 n.toNat) m := fun m => p_rng1 (n := n) (by omega) (by omega)
  unfold d_law_some_round body_law_some_round
  simp [startE, e1, e2, e3, hn, er]
  refine sq_via (P := fun z => SrP t rest z.cl) (fun e1 m1 => SrI t rest n s n (n + 1) e1 m1) ?_ ?_
  · refine for_via (fun i e1 m1 => SrI t rest n s (i : Nat) ((i : Int) + 1) e1 m1) ⟨[], o3, none, none, h3, by unfold Qs; simp, rfl, rfl⟩ ?_ ?_
    case refine_2 =>
      rintro e' m' hz
      rw [rngL_len, Int.toNat_of_nonneg (by omega)] at hz
      exact hz
    rintro i d env m hx ⟨ps, o4, x, y, h4, q4, rfl, rfl⟩
    obtain ⟨hi, rfl⟩ := rngL_get hx
    have er2 : ∀ m, rng2D [.int ((i : Int) + 1), .int n] m = .ok (rngL ((i : Int) + 1) (n - ((i : Int) + 1)).toNat) m := fun m => p_rng2 (by omega) (by omega) (by omega) (by omega)
    simp [er2]
    refine for_via (fun j e1 m1 => ∃ ps o' y, Hd o' ∧ Qs n i ((i : Int) + 1 + (j : Nat)) ps ∧ e1 = [some (.ref 1), some (.int n), some (.int s), some (.ref (rest.length + 2)), some (.int (i : Nat)), y] ∧ m1 = t :: o' :: (rest ++ [.lst (ps.map prD)])) ⟨ps, o4, _, h4, by simpa using q4, rfl, rfl⟩ ?_ ?_
    case refine_2 =>
      rintro e' m' ⟨ps, o', y, z1, z2, z3, z4⟩
      rw [rngL_len, show (i : Int) + 1 + (((n - ((i : Int) + 1)).toNat : Nat) : Int) = n by omega] at z2
      exact ⟨ps, o', _, y, z1, by have := qs_up z2 n2 (by omega); simpa using this, z3, z4⟩
    rintro j d env m hx2 ⟨ps, o5, y, h5, q5, rfl, rfl⟩
    obtain ⟨hj, rfl⟩ := rngL_at hx2
    obtain ⟨u, o6, u0, u1, h6, f6⟩ := draw_ok (t := t) (rest := rest ++ [.lst (ps.map prD)]) (n := 4) h5 (by omega) (by omega)
    have hlen : (ps.map prD).length < 1000000 := by have := q5.2.2; rw [List.length_map]; omega
    have nx : ∀ ps, Qs n i ((i : Int) + 1 + (j : Nat) + 1) ps → Qs n i ((i : Int) + 1 + ((j + 1 : Nat) : Int)) ps := fun ps h => by
      rw [show (i : Int) + 1 + ((j + 1 : Nat) : Int) = (i : Int) + 1 + (j : Nat) + 1 by omega]; exact h
    by_cases hu : u < s
    · obtain ⟨d, o7, hd, h7, f7⟩ := any_ok (t := t) (rest := rest ++ [.lst (ps.map prD)]) (l := [.tup [.int (i : Nat), .int ((i : Int) + 1 + (j : Nat))], .tup [.int ((i : Int) + 1 + (j : Nat)), .int (i : Nat)]]) h6 (by simp) (by simp)
      have hp : ∃ p : Int × Int, d = prD p ∧ (p = ((i : Int), (i : Int) + 1 + (j : Nat)) ∨ p = ((i : Int) + 1 + (j : Nat), (i : Int))) := by
        simp only [List.mem_cons, List.not_mem_nil, or_false] at hd
        rcases hd with rfl | rfl
        · exact ⟨_, rfl, .inl rfl⟩
        · exact ⟨_, rfl, .inr rfl⟩
      obtain ⟨p, rfl, hp⟩ := hp
      have g1 : (t :: o6 :: (rest ++ [.lst (ps.map prD)]))[rest.length + 2]? = some (.lst (ps.map prD)) := by simp
      have g2 : (t :: o7 :: (rest ++ [.lst (ps.map prD)]))[rest.length + 2]? = some (.lst (ps.map prD)) := by simp
      have lm := fun K => c_lm K g1
      have ap := c_app (prD p) g2 hlen
      have es : (t :: o7 :: (rest ++ [.lst (ps.map prD)])).set (rest.length + 2) (.lst (ps.map prD ++ [prD p])) = t :: o7 :: (rest ++ [.lst ((ps ++ [p]).map prD)]) := by simp
      rw [es] at ap
      refine ⟨[some (.ref 1), some (.int n), some (.int s), some (.ref (rest.length + 2)), some (.int (i : Nat)), some (.int ((i : Int) + 1 + (j : Nat)))], _, ?_, ps ++ [p], o7, _, h7, nx _ (qs_add q5 (by omega) (by omega) (by omega) hp), rfl, rfl⟩
      simp [f6, hu, lm, f7, ap]
    · refine ⟨[some (.ref 1), some (.int n), some (.int s), some (.ref (rest.length + 2)), some (.int (i : Nat)), some (.int ((i : Int) + 1 + (j : Nat)))], _, ?_, ps, o6, _, h6, nx _ (qs_next q5), rfl, rfl⟩
      simp [f6, hu]
  · rintro e1 m1 ⟨ps, o4, x, y, h4, q4, rfl, rfl⟩
    obtain ⟨q1, q2, q3⟩ := q4
    refine ⟨n, srt ps, o4, .dead, n1, n2, rt_srt (fun p hp => by have := q1 p hp; omega) q2, by rw [len_srt]; omega, h4, ?_⟩
    have g1 : (t :: o4 :: (rest ++ [.lst (ps.map prD)]))[rest.length + 2]? = some (.lst (ps.map prD)) := by simp
    have fz := frz_at (i := 3) (env := [some (.ref 1), some (.int n), some (.int s), some (.ref (rest.length + 2)), x, y]) rfl g1
    have so : ∀ m, sortD false (.lst (ps.map prD)) m = .ok (.lst ((srt ps).map prD)) m := fun m => sortD_prs rfl
    generalize frzS 3 = ff at *
    simp at fz
    simp [fz, so]
end Wk

set_option maxRecDepth 100000
set_option maxHeartbeats 4000000
namespace Wk
open PySem PySem.Spec PyProof.Rows L2 Eng
variable {m : Mem} {t o : Ob} {rest : Mem}
def tot (rs : List Str) : Nat := (rs.map fun z => z.length + 1).sum
theorem tot_app (a b : List Str) : tot (a ++ b) = tot a + tot b := by unfold tot; rw [List.map_append, List.sum_append]
theorem tot_cons (x : Str) (b : List Str) : tot (x :: b) = x.length + 1 + tot b := by unfold tot; rw [List.map_cons, List.sum_cons]
theorem tot_nil : tot [] = 0 := rfl
theorem tot_take (rs : List Str) (i : Nat) : tot (rs.take i) ≤ tot rs := by
  have := tot_app (rs.take i) (rs.drop i)
  rw [List.take_append_drop] at this
  omega
theorem tot_drop (rs : List Str) (i : Nat) : tot (rs.drop i) ≤ tot rs := by
  have := tot_app (rs.take i) (rs.drop i)
  rw [List.take_append_drop] at this
  omega
theorem tot_set : ∀ (rs : List Str) (i : Nat) (x : Str), tot (rs.set i x) ≤ tot rs + x.length + 1
  | [], _, _ => by simp [tot]
  | y :: rs, 0, x => by rw [List.set_cons_zero, tot_cons, tot_cons]; omega
  | y :: rs, i + 1, x => by
    have := tot_set rs i x
    rw [List.set_cons_succ, tot_cons, tot_cons]; omega
theorem tot_rev : ∀ rs : List Str, tot rs.reverse = tot rs
  | [] => rfl
  | y :: rs => by rw [List.reverse_cons, tot_app, tot_rev rs, tot_cons, tot_cons, tot_nil]; omega
theorem tot_split (x : Str) {s : Str} (h : s.length = 1) : tot (Txt.split x s) = x.length + 1 := by
  obtain ⟨y, r, e, l⟩ := split_len x h
  rw [e, tot_cons]
  unfold tot
  omega
theorem tot_sum : ∀ rs : List Str, tot rs = (rs.map (·.length)).sum + rs.length
  | [] => rfl
  | y :: rs => by rw [tot_cons, tot_sum rs, List.map_cons, List.sum_cons, List.length_cons]; omega
theorem join_le {s : Str} (hs : s.length ≤ 1) (ys : List Str) : (Str.join s ys).length ≤ tot ys := by
  have h1 := StrLaws.join_length_le s ys
  have h2 : ys.length * s.length ≤ ys.length := by
    have := Nat.mul_le_mul_left ys.length hs
    omega
  rw [tot_sum]
  omega
theorem join_tot {s : Str} {ys : List Str} {x : D} (hv : viewS m x = some (ys.map .str)) (hs : s.length ≤ 1) (hl : tot ys ≤ 16000000) : joinD (.str s) [x] m = .ok (.str (Str.join s ys)) m := by
  have e : (viewS m x).bind strsL = some ys := by rw [hv]; exact strsL_map ys
  unfold joinD
  dsimp only
  rw [e]
  dsimp only
  have h2 : ys.length * s.length ≤ ys.length := by
    have := Nat.mul_le_mul_left ys.length hs
    omega
  rw [tot_sum] at hl
  rw [if_pos (by omega)]
  have e2 : Txt.join s ys = Str.join s ys := StrLaws.glued_eq_join s ys
  rw [e2]
theorem add_str2 {a b : Str} (h : a.length + b.length ≤ 1000000) : dAdd false (.str a) (.str b) m = .ok (.str (a ++ b)) m := by
  have h2 : a.length + b.length ≤ sizeLine := Nat.le_trans h (by decide)
  show (if a.length + b.length ≤ sizeLine then (pure (.str (a ++ b)) : M D) else M.fail) m = _
  rw [if_pos h2]
  rfl
theorem cut_str {z : Str} (lo hi : Option Int) (h : z.length ≤ 1000000) : ∃ w : Str, w.length ≤ z.length ∧ ∀ m, dCut false (.str z) lo hi m = .ok (.str w) m := by
  have h2 : z.length ≤ sizeLine := Nat.le_trans h (by decide)
  refine ⟨cutS z lo hi, ?_, fun m => ?_⟩
  · show (((z.cps.toList.drop (HT.sIx z.length 0 lo)).take (HT.sIx z.length z.length hi - HT.sIx z.length 0 lo)).toArray).size ≤ z.cps.size
    rw [List.size_toArray, List.length_take, List.length_drop, Array.length_toList]
    exact Nat.le_trans (Nat.min_le_right _ _) (Nat.sub_le _ _)
  · show (if z.length ≤ sizeLine then R.ok (D.str (cutS z lo hi)) m else .bad) = _
    rw [if_pos h2]
section
variable {k : Nat} {xs : List D}
theorem c_len (h : m[k]? = some (.lst xs)) : bLen [.ref k] m = .ok (.int xs.length) m := by
  have e : lenD m (.ref k) = some xs.length := by
    unfold lenD viewS viewL
    dsimp only
    rw [h]
  show (match lenD m (.ref k) with
    | some n => R.ok (D.int n) m
    | none => .bad) = _
  rw [e]
theorem c_set {i : Nat} {v : D} (h : m[k]? = some (.lst xs)) (h1 : i < xs.length) : setD (.ref k) (.int (i : Nat)) v m = .ok () (m.set k (.lst (xs.set i v))) := by
  unfold setD
  dsimp only
  rw [h]
  have e : ixN xs.length (i : Nat) = some i := by unfold ixN; rw [if_pos (by omega), if_pos (by omega), Int.toNat_natCast]
  dsimp only
  rw [e]
theorem c_view (h : m[k]? = some (.lst xs)) : viewS m (.ref k) = some xs := by
  unfold viewS viewL
  dsimp only
  rw [h]
end
def ms (ys : List Str) : List D := ys.map .str
theorem ms_len (ys : List Str) : (ms ys).length = ys.length := List.length_map ..
theorem ms_take (ys : List Str) (i : Nat) : Eng.cutD (ms ys) none (some (i : Int)) = ms (ys.take i) := by
  rw [cut_take _ _ (by omega), Int.toNat_natCast]; unfold ms; rw [List.map_take]
theorem ms_drop (ys : List Str) (i : Nat) : Eng.cutD (ms ys) (some (i : Int)) none = ms (ys.drop i) := by
  rw [cut_drop _ _ (by omega), Int.toNat_natCast]; unfold ms; rw [List.map_drop]
theorem ms_drop1 (ys : List Str) (i : Nat) : Eng.cutD (ms ys) (some ((i : Int) + 1)) none = ms (ys.drop (i + 1)) := ms_drop ys (i + 1)
theorem ms_add {a b : List Str} (h : a.length + b.length ≤ 1000000) : dAdd false (.lst (ms a)) (.lst (ms b)) m = .ok (.lst (ms (a ++ b))) m := by
  rw [p_addL _ _ (by rw [ms_len, ms_len]; exact h)]
  unfold ms
  rw [List.map_append]
theorem ms_one (a : Str) : D.lst [.str a] = .lst (ms [a]) := rfl
theorem ms_rev (ys : List Str) : dRev false (.lst (ms ys)) m = .ok (.lst (ms ys.reverse)) m := by
  show R.ok (D.lst (ms ys).reverse) m = _
  unfold ms
  rw [List.map_reverse]
def kit : Str := Str.ofString "0123456789 -\nax+"
theorem kit_lsg : lsgD false (.str (Str.ofString "0123456789 -\nax+")) m = .ok (.lst (Eng.signs kit)) m := by
  show (if (Str.ofString "0123456789 -\nax+").cps.size ≤ 1000000 then mkNew false (.lst (Eng.signs kit)) else M.fail) m = _
  rw [if_pos (by decide +kernel)]
  rfl
def BnP (t : Ob) (rest : Mem) (B : Nat) (z : R D) : Prop := ∃ (w : Str) (o' : Ob) (zs : Mem), Hd o' ∧ w.length ≤ B ∧ z = .ok (.str w) (t :: o' :: (rest ++ zs))
theorem bent_p {x : Str} (h : Hd o) (hx : x.length ≤ 20000) : BnP t rest (5 * x.length + 100) (d_law_bent [.ref 1, .str x] (t :: o :: rest)) := by
  obtain ⟨k, o1, k0, k1, h1, e1⟩ := draw_ok (t := t) (rest := rest) (n := 11) h (by omega) (by omega)
  obtain ⟨at_, o2, a0, a1, h2, e2⟩ := draw_ok (t := t) (rest := rest) (n := ((x.length : Nat) : Int) + 1) h1 (by omega) (by omega)
  obtain ⟨sd, o3, hsd, h3, e3⟩ := any_ok (t := t) (rest := rest) (l := Eng.signs kit) h2 (by unfold Eng.signs kit; decide +kernel) (by unfold Eng.signs; rw [List.length_map, Array.length_toList]; decide +kernel)
  have hsg : ∃ sg : Str, sd = .str sg ∧ sg.length = 1 := by
    unfold Eng.signs at hsd
    obtain ⟨c, _, rfl⟩ := List.mem_map.mp hsd
    exact ⟨_, rfl, rfl⟩
  obtain ⟨sg, rfl, sl⟩ := hsg
  have lx := fun m => len_str (m := m) (w := x) (by omega)
  have spl : ∀ m, splitD true (.str x) [.str nl] m = .ok (.ref m.length) (m ++ [.lst ((Txt.split x nl).map .str)]) := fun m => by
    have h2 : x.length + 2 ≤ sizeLine := Nat.le_trans (show x.length + 2 ≤ 1000000 by omega) (by decide)
    show (if (nl.length == 0) = false ∧ x.length + 2 ≤ sizeLine then mkNew true (.lst ((Txt.split x nl).map D.str)) m else .bad) = _
    rw [if_pos ⟨by rw [nl_len]; rfl, h2⟩]
    rfl
  have tr := tot_split x nl_len
  have cr := split_cnt x nl_len
  have ne := split_ne x nl_len
  have mr : ∀ z ∈ Txt.split x nl, z.length ≤ x.length := fun z hz => split_mem nl_len hz
  generalize Txt.split x nl = rows at *
  have hr0 : 0 < rows.length := List.length_pos_iff.mpr ne
  obtain ⟨sp_, o4, s0, s1, h4, e4⟩ := draw_ok (t := t) (rest := rest ++ [.lst (rows.map .str)]) (n := (rows.length : Nat)) h3 (by omega) (by omega)
  obtain ⟨sn, rfl⟩ := Int.eq_ofNat_of_zero_le s0
  have hsn : sn < rows.length := by omega
  have gs : rows[sn]? = some rows[sn] := List.getElem?_eq_getElem hsn
  have mrow := mr _ (List.getElem_mem hsn)
  generalize rows[sn] = row at *
  have g3 : (t :: o3 :: (rest ++ [.lst (rows.map D.str)]))[rest.length + 2]? = some (.lst (rows.map .str)) := by simp
  have g4 : ∀ o4 : Ob, (t :: o4 :: (rest ++ [.lst (rows.map D.str)]))[rest.length + 2]? = some (.lst (rows.map .str)) := fun o4 => by simp
  have ln := c_len g3
  rw [List.length_map] at ln
  have ix : ∀ o4 : Ob, dIdx (.ref (rest.length + 2)) (.int (sn : Int)) (t :: o4 :: (rest ++ [.lst (rows.map D.str)])) = .ok (.str row) (t :: o4 :: (rest ++ [.lst (rows.map D.str)])) := fun o4 => c_idx (g4 o4) (atI_nat _ _ _ (by rw [List.getElem?_map, gs]; rfl))
  have ib : ∀ b m, Eng.intD (.bl b) m = .ok (.int (if b then 1 else 0)) m := fun _ _ => rfl
  obtain ⟨w1, l1, c1⟩ := cut_str (z := x) none (some at_) (by omega)
  obtain ⟨w2, l2, c2⟩ := cut_str (z := x) (some at_) none (by omega)
  obtain ⟨w3, l3, c3⟩ := cut_str (z := x) (some (at_ + 1)) none (by omega)
  have start : d_law_bent [.ref 1, .str x] (t :: o :: rest) = (body_law_bent [some (.ref 1), some (.str x), none, none, none, none, none, none, none, none, none, none] (t :: o :: rest)).cl := rfl
  rw [start]
  clear start
  have A1 := fun m => add_str2 (m := m) (a := w1) (b := sg) (by omega)
  have A2 := fun m => add_str2 (m := m) (a := w1 ++ sg) (b := w2) (by rw [app_len]; omega)
  have A3 := fun m => add_str2 (m := m) (a := w1 ++ sg) (b := w3) (by rw [app_len]; omega)
  have A4 := fun m => add_str2 (m := m) (a := w1) (b := w3) (by omega)
  by_cases k3 : k < 3
  · unfold BnP
    have kk : k = 0 ∨ k = 1 ∨ k = 2 := by omega
    rcases kk with rfl | rfl | rfl
    · refine ⟨w1 ++ sg ++ w2, o4, [.lst (rows.map .str)], h4, by rw [app_len, app_len]; omega, ?_⟩
      unfold body_law_bent
      simp [e1, e2, e3, lx, kit_lsg, tm_str, spl, ln, e4, c1, c2, ib, A1, A2]
    · refine ⟨w1 ++ sg ++ w3, o4, [.lst (rows.map .str)], h4, by rw [app_len, app_len]; omega, ?_⟩
      unfold body_law_bent
      simp [e1, e2, e3, lx, kit_lsg, tm_str, spl, ln, e4, c1, c3, ib, A1, A3]
    · refine ⟨w1 ++ sg ++ w3, o4, [.lst (rows.map .str)], h4, by rw [app_len, app_len]; omega, ?_⟩
      unfold body_law_bent
      simp [e1, e2, e3, lx, kit_lsg, tm_str, spl, ln, e4, c1, c3, ib, A1, A3]
  by_cases k4 : k = 3
  · subst k4
    refine ⟨w1 ++ w3, o4, [.lst (rows.map .str)], h4, by rw [app_len]; omega, ?_⟩
    unfold body_law_bent
    simp [e1, e2, e3, lx, kit_lsg, tm_str, spl, ln, e4, c1, c3, A4]
  have tw := tot_split row sp_len
  have cw := split_cnt row sp_len
  have nw := split_ne row sp_len
  have sw : ∀ m, splitD false (.str row) [.str sp] m = .ok (.lst (ms (Txt.split row sp))) m := fun m => splitD_ok sp_len (by omega)
  generalize Txt.split row sp = words at *
  have hw0 : 0 < words.length := List.length_pos_iff.mpr nw
  obtain ⟨to_, o5, u0, u1, h5, e5⟩ := draw_ok (t := t) (rest := rest ++ [.lst (rows.map .str)]) (n := (words.length : Nat)) h4 (by omega) (by omega)
  obtain ⟨un, rfl⟩ := Int.eq_ofNat_of_zero_le u0
  have lw : ∀ m, bLen [.lst (ms words)] m = .ok (.int (words.length : Nat)) m := fun m => by
    show R.ok (D.int ((ms words).length : Nat)) m = _
    rw [ms_len]
  have ss : ∀ m, strD (.int (sn : Int)) m = .ok (.str (st (sn : Int))) m := fun m => p_str (by omega)
  have sl2 : (st (sn : Int)).length ≤ 22 := by
    obtain ⟨p, hp, _, hl, _⟩ := int_show (i := (sn : Int)) (by omega) (by omega)
    cases hp
    rw [PyData.shown] at hl
    exact hl
  have setR : ∀ (nr : Str) (o6 : Ob), setD (.ref (rest.length + 2)) (.int (sn : Int)) (.str nr) (t :: o6 :: (rest ++ [.lst (rows.map D.str)])) = .ok () (t :: o6 :: (rest ++ [.lst (ms (rows.set sn nr))])) := fun nr o6 => by
    rw [c_set (g4 o6) (by rw [List.length_map]; exact hsn)]
    unfold ms
    simp [List.map_set]
  have vw : ∀ (ys : List Str) (o6 : Ob), viewS (t :: o6 :: (rest ++ [.lst (ms ys)])) (.ref (rest.length + 2)) = some (ys.map .str) := fun ys o6 => c_view (xs := ys.map .str) (by unfold ms; simp)
  have lk := fun i => tot_take words i
  have ld := fun i => tot_drop words i
  have wl : ∀ ys : List Str, ys.length ≤ tot ys := fun ys => by rw [tot_sum]; omega
  by_cases k7 : k < 7
  · obtain ⟨od, o6, hod, h6, e6⟩ := any_ok (t := t) (rest := rest ++ [.lst (rows.map .str)]) (l := [.str "00", .str "01", .str "0", .str "1", .str "2", .str "23", .str "24", .str "25", .str "99", .str "100", .str "-", .str "", .str "-1", .str "+1", .str (st (sn : Int))]) h5 (by simp) (by simp)
    have hod2 : ∃ q : Str, od = .str q ∧ q.length ≤ 22 := by
      simp only [List.mem_cons, List.not_mem_nil, or_false] at hod
      rcases hod with rfl | rfl | rfl | rfl | rfl | rfl | rfl | rfl | rfl | rfl | rfl | rfl | rfl | rfl | rfl
      all_goals first | exact ⟨_, rfl, by decide +kernel⟩ | exact ⟨_, rfl, sl2⟩
    obtain ⟨q, rfl, ql⟩ := hod2
    have B1 : ∀ m, dAdd false (.lst (ms (words.take un))) (.lst [.str q]) m = .ok (.lst (ms (words.take un ++ [q]))) m := fun m => by rw [ms_one]; exact ms_add (by have := wl (words.take un); have := lk un; simp only [List.length_cons, List.length_nil]; omega)
    have B2 : ∀ j m, dAdd false (.lst (ms (words.take un ++ [q]))) (.lst (ms (words.drop j))) m = .ok (.lst (ms (words.take un ++ [q] ++ words.drop j))) m := fun j m => ms_add (by have := wl (words.take un); have := lk un; have := wl (words.drop j); have := ld j; simp only [List.length_append, List.length_cons, List.length_nil]; omega)
    have tj : ∀ j, tot (words.take un ++ [q] ++ words.drop j) ≤ 2 * (row.length + 1) + 23 := fun j => by rw [tot_app, tot_app, tot_cons, tot_nil]; have := lk un; have := ld j; omega
    have J : ∀ j m, joinD (.str sp) [.lst (ms (words.take un ++ [q] ++ words.drop j))] m = .ok (.str (Str.join sp (words.take un ++ [q] ++ words.drop j))) m := fun j m => join_tot rfl (by rw [sp_len]; exact Nat.le_refl _) (by have := tj j; omega)
    have jl : ∀ j, (Str.join sp (words.take un ++ [q] ++ words.drop j)).length ≤ 2 * (row.length + 1) + 23 := fun j => Nat.le_trans (join_le (by rw [sp_len]; exact Nat.le_refl _) _) (tj j)
    have fin : ∀ j, tot (rows.set sn (Str.join sp (words.take un ++ [q] ++ words.drop j))) ≤ 5 * x.length + 100 := fun j => by
      have := tot_set rows sn (Str.join sp (words.take un ++ [q] ++ words.drop j))
      have := jl j
      omega
    have F : ∀ j, joinD (.str nl) [.ref (rest.length + 2)] (t :: o6 :: (rest ++ [.lst (ms (rows.set sn (Str.join sp (words.take un ++ [q] ++ words.drop j))))])) = .ok (.str (Str.join nl (rows.set sn (Str.join sp (words.take un ++ [q] ++ words.drop j))))) _ := fun j => join_tot (vw _ o6) (by rw [nl_len]; exact Nat.le_refl _) (by have := fin j; omega)
    have D0 := ms_drop words un
    have D1 := ms_drop1 words un
    have T0 := ms_take words un
    generalize hA : words.take un ++ [q] = A at *
    have kk : k = 4 ∨ k = 5 ∨ k = 6 := by omega
    rcases kk with rfl | rfl | rfl
    · refine ⟨Str.join nl (rows.set sn (Str.join sp (A ++ words.drop un))), o6, [.lst (ms (rows.set sn (Str.join sp (A ++ words.drop un))))], h6, Nat.le_trans (join_le (by rw [nl_len]; exact Nat.le_refl _) _) (fin un), ?_⟩
      have B2 := B2 un
      have J := J un
      have F := F un
      generalize A ++ words.drop un = ys at *
      unfold body_law_bent
      simp [e1, e2, e3, lx, kit_lsg, tm_str, spl, ln, e4, ix, sw, lw, e5, ss, e6, T0, B1, ib, D0, B2, J, setR, F]
    · refine ⟨Str.join nl (rows.set sn (Str.join sp (A ++ words.drop (un + 1)))), o6, [.lst (ms (rows.set sn (Str.join sp (A ++ words.drop (un + 1)))))], h6, Nat.le_trans (join_le (by rw [nl_len]; exact Nat.le_refl _) _) (fin (un + 1)), ?_⟩
      have B2 := B2 (un + 1)
      have J := J (un + 1)
      have F := F (un + 1)
      generalize A ++ words.drop (un + 1) = ys at *
      unfold body_law_bent
      simp [e1, e2, e3, lx, kit_lsg, tm_str, spl, ln, e4, ix, sw, lw, e5, ss, e6, T0, B1, ib, D1, B2, J, setR, F]
    · refine ⟨Str.join nl (rows.set sn (Str.join sp (A ++ words.drop (un + 1)))), o6, [.lst (ms (rows.set sn (Str.join sp (A ++ words.drop (un + 1)))))], h6, Nat.le_trans (join_le (by rw [nl_len]; exact Nat.le_refl _) _) (fin (un + 1)), ?_⟩
      have B2 := B2 (un + 1)
      have J := J (un + 1)
      have F := F (un + 1)
      generalize A ++ words.drop (un + 1) = ys at *
      unfold body_law_bent
      simp [e1, e2, e3, lx, kit_lsg, tm_str, spl, ln, e4, ix, sw, lw, e5, ss, e6, T0, B1, ib, D1, B2, J, setR, F]
  obtain ⟨ot_, o6, v0, v1, h6, e6⟩ := draw_ok (t := t) (rest := rest ++ [.lst (rows.map .str)]) (n := (rows.length : Nat)) h5 (by omega) (by omega)
  obtain ⟨qn, rfl⟩ := Int.eq_ofNat_of_zero_le v0
  have hqn : qn < rows.length := by omega
  have gq : rows[qn]? = some rows[qn] := List.getElem?_eq_getElem hqn
  have mrow2 := mr _ (List.getElem_mem hqn)
  generalize rows[qn] = row2 at *
  have ln5 := c_len (g4 o5)
  rw [List.length_map] at ln5
  have ixq : ∀ o4 : Ob, dIdx (.ref (rest.length + 2)) (.int (qn : Int)) (t :: o4 :: (rest ++ [.lst (rows.map D.str)])) = .ok (.str row2) (t :: o4 :: (rest ++ [.lst (rows.map D.str)])) := fun o4 => c_idx (g4 o4) (atI_nat _ _ _ (by rw [List.getElem?_map, gq]; rfl))
  have kk : k = 7 ∨ k = 8 ∨ k = 9 ∨ k = 10 := by omega
  have FJ : ∀ (ys : List Str) (o6 : Ob), tot ys ≤ 5 * x.length + 100 → joinD (.str nl) [.ref (rest.length + 2)] (t :: o6 :: (rest ++ [.lst (ms ys)])) = .ok (.str (Str.join nl ys)) (t :: o6 :: (rest ++ [.lst (ms ys)])) := fun ys o6 hy => join_tot (vw _ o6) (by rw [nl_len]; exact Nat.le_refl _) (by omega)
  have JL : ∀ ys : List Str, tot ys ≤ 5 * x.length + 100 → (Str.join nl ys).length ≤ 5 * x.length + 100 := fun ys hy => Nat.le_trans (join_le (by rw [nl_len]; exact Nat.le_refl _) _) hy
  rcases kk with rfl | rfl | rfl | rfl
  · have s2 : setD (.ref (rest.length + 2)) (.int (qn : Int)) (.str row) (t :: o6 :: (rest ++ [.lst (ms (rows.set sn row2))])) = .ok () (t :: o6 :: (rest ++ [.lst (ms ((rows.set sn row2).set qn row))])) := by
      rw [c_set (xs := ms (rows.set sn row2)) (by simp) (by rw [ms_len, List.length_set]; exact hqn)]
      unfold ms
      simp [List.map_set]
    have tt : tot ((rows.set sn row2).set qn row) ≤ 5 * x.length + 100 := by
      have := tot_set (rows.set sn row2) qn row
      have := tot_set rows sn row2
      omega
    have S1 := setR row2 o6
    have F := FJ _ o6 tt
    have L := JL _ tt
    refine ⟨Str.join nl ((rows.set sn row2).set qn row), o6, [.lst (ms ((rows.set sn row2).set qn row))], h6, L, ?_⟩
    generalize (rows.set sn row2).set qn row = ys at *
    generalize rows.set sn row2 = zs at *
    unfold body_law_bent
    simp [e1, e2, e3, lx, kit_lsg, tm_str, spl, ln, e4, ix, sw, lw, e5, ss, ln5, e6, ixq, viewT, S1, s2, F]
  · have J8 : ∀ m, joinD (.str sp) [.lst (ms words.reverse)] m = .ok (.str (Str.join sp words.reverse)) m := fun m => join_tot rfl (by rw [sp_len]; exact Nat.le_refl _) (by rw [tot_rev]; omega)
    have j8 : (Str.join sp words.reverse).length ≤ row.length + 1 := Nat.le_trans (join_le (by rw [sp_len]; exact Nat.le_refl _) _) (by rw [tot_rev]; omega)
    have R8 := fun m => ms_rev (m := m) words
    generalize Str.join sp words.reverse = nr at *
    have tt : tot (rows.set sn nr) ≤ 5 * x.length + 100 := by
      have := tot_set rows sn nr
      omega
    have S1 := setR nr o6
    have F := FJ _ o6 tt
    have L := JL _ tt
    refine ⟨Str.join nl (rows.set sn nr), o6, [.lst (ms (rows.set sn nr))], h6, L, ?_⟩
    generalize rows.set sn nr = ys at *
    unfold body_law_bent
    simp [e1, e2, e3, lx, kit_lsg, tm_str, spl, ln, e4, ix, sw, lw, e5, ss, ln5, e6, R8, J8, S1, F]
  all_goals
    obtain ⟨od, o7, hod, h7, e7⟩ := any_ok (t := t) (rest := rest ++ [.dead]) (l := [.str "0 1", .str "", .str "1 0", .str row2, .str " ", .str "0 0"]) h6 (by simp) (by simp)
    have hod2 : ∃ q : Str, od = .str q ∧ q.length ≤ x.length + 3 := by
      simp only [List.mem_cons, List.not_mem_nil, or_false] at hod
      have z3 : ∀ q : Str, q.length ≤ 3 → q.length ≤ x.length + 3 := fun q h => by omega
      rcases hod with rfl | rfl | rfl | rfl | rfl | rfl
      · exact ⟨_, rfl, z3 _ (by decide +kernel)⟩
      · exact ⟨_, rfl, z3 _ (by decide +kernel)⟩
      · exact ⟨_, rfl, z3 _ (by decide +kernel)⟩
      · exact ⟨_, rfl, by omega⟩
      · exact ⟨_, rfl, z3 _ (by decide +kernel)⟩
      · exact ⟨_, rfl, z3 _ (by decide +kernel)⟩
    obtain ⟨q, rfl, ql⟩ := hod2
    have fz : ∀ x2 x3 x4 x6 x7 x8 x9 x10 x11, frzS 5 [some (.ref 1), some (.str x), x2, x3, x4, some (.ref (rest.length + 2)), x6, x7, x8, x9, x10, x11] (t :: o6 :: (rest ++ [.lst (rows.map D.str)])) = .ok (.nx [some (.ref 1), some (.str x), x2, x3, x4, some (.lst (ms rows)), x6, x7, x8, x9, x10, x11]) (t :: o6 :: (rest ++ [.dead])) := fun x2 x3 x4 x6 x7 x8 x9 x10 x11 => by
      rw [frz_at (k := rest.length + 2) rfl (g4 o6)]
      simp [ms]
    have ixf : ∀ m, dIdx (.lst (ms rows)) (.int (qn : Int)) m = .ok (.str row2) m := fun m => p_idxL _ _ _ (atI_nat _ _ _ (by unfold ms; rw [List.getElem?_map, gq]; rfl))
    have mu1 : ∀ m, dMul false (.lst [.str q]) (.int 1) m = .ok (.lst (ms [q])) m := fun m => by
      show (if -(2 ^ 63) ≤ (1 : Int) ∧ (1 : Int) < 2 ^ 63 ∧ [D.str q].length * (1 : Int).toNat ≤ sizeLine then mkNew false (.lst (List.replicate (1 : Int).toNat [D.str q]).flatten) m else .bad) = _
      rw [if_pos ⟨by decide, by decide, (show 1 ≤ sizeLine by decide)⟩]; rfl
    have mu0 : ∀ m, dMul false (.lst [.str q]) (.int 0) m = .ok (.lst (ms [])) m := fun m => by
      show (if -(2 ^ 63) ≤ (0 : Int) ∧ (0 : Int) < 2 ^ 63 ∧ [D.str q].length * (0 : Int).toNat ≤ sizeLine then mkNew false (.lst (List.replicate (0 : Int).toNat [D.str q]).flatten) m else .bad) = _
      rw [if_pos ⟨by decide, by decide, (show 0 ≤ sizeLine by decide)⟩]; rfl
    have T0 := ms_take rows sn
    have D1 := ms_drop1 rows sn
    have t1 := tot_take rows sn
    have t2 := tot_drop rows (sn + 1)
    generalize rows.take sn = ra at *
    generalize rows.drop (sn + 1) = rb at *
    have wa := wl ra
    have wb := wl rb
  · have B1 : ∀ m, dAdd false (.lst (ms ra)) (.lst (ms [q])) m = .ok (.lst (ms (ra ++ [q]))) m := fun m => ms_add (by simp only [List.length_cons, List.length_nil]; omega)
    have B2 : ∀ m, dAdd false (.lst (ms (ra ++ [q]))) (.lst (ms rb)) m = .ok (.lst (ms (ra ++ [q] ++ rb))) m := fun m => ms_add (by simp only [List.length_append, List.length_cons, List.length_nil]; omega)
    have tt : tot (ra ++ [q] ++ rb) ≤ 5 * x.length + 100 := by rw [tot_app, tot_app, tot_cons, tot_nil]; omega
    have F : ∀ m, joinD (.str nl) [.lst (ms (ra ++ [q] ++ rb))] m = .ok (.str (Str.join nl (ra ++ [q] ++ rb))) m := fun m => join_tot rfl (by rw [nl_len]; exact Nat.le_refl _) (by omega)
    have L := JL _ tt
    refine ⟨Str.join nl (ra ++ [q] ++ rb), o7, [.dead], h7, L, ?_⟩
    generalize ra ++ [q] ++ rb = ys at *
    generalize ra ++ [q] = zs at *
    unfold body_law_bent
    simp [e1, e2, e3, lx, kit_lsg, tm_str, spl, ln, e4, ix, sw, lw, e5, ss, ln5, e6, fz, ixf, e7, ib, mu1, T0, D1, B1, B2, F]
  · have B1 : ∀ m, dAdd false (.lst (ms ra)) (.lst (ms [])) m = .ok (.lst (ms (ra ++ []))) m := fun m => ms_add (by simp only [List.length_nil]; omega)
    have B2 : ∀ m, dAdd false (.lst (ms (ra ++ []))) (.lst (ms rb)) m = .ok (.lst (ms (ra ++ [] ++ rb))) m := fun m => ms_add (by simp only [List.length_append, List.length_nil]; omega)
    have tt : tot (ra ++ [] ++ rb) ≤ 5 * x.length + 100 := by rw [tot_app, tot_app, tot_nil]; omega
    have F : ∀ m, joinD (.str nl) [.lst (ms (ra ++ [] ++ rb))] m = .ok (.str (Str.join nl (ra ++ [] ++ rb))) m := fun m => join_tot rfl (by rw [nl_len]; exact Nat.le_refl _) (by omega)
    have L := JL _ tt
    refine ⟨Str.join nl (ra ++ [] ++ rb), o7, [.dead], h7, L, ?_⟩
    generalize ra ++ [] ++ rb = ys at *
    generalize ra ++ [] = zs at *
    unfold body_law_bent
    simp [e1, e2, e3, lx, kit_lsg, tm_str, spl, ln, e4, ix, sw, lw, e5, ss, ln5, e6, fz, ixf, e7, ib, mu0, T0, D1, B1, B2, F]
end Wk

set_option maxRecDepth 100000
set_option maxHeartbeats 4000000
namespace Wk
open PySem PySem.Spec PyProof.Rows L2 Eng
variable {m : Mem} {t o : Ob} {rest : Mem}
noncomputable def FB : Eng.Env → M Out := (seqS (fun env => exB env (do let l ← (do let x ← (getE env 1); let y ← (do let x ← (getE env 5); let y ← (pure []); pure (x :: y)); pure (x :: y)); d_law_bent l) fun d => pure (.nx (env.set 8 (some d))))
  (seqS (fun env => exB env (do let k ← (do let z ← (do let x ← (do let l ← (do let x ← (getE env 1); let y ← (do let x ← (pure (.int 3)); let y ← (pure []); pure (x :: y)); pure (x :: y)); d_law_draw l); let y ← (pure (.int 0)); dEq false x y); asB z); if k then (do let l ← (do let x ← (getE env 1); let y ← (do let x ← (getE env 8); let y ← (pure []); pure (x :: y)); pure (x :: y)); d_law_bent l) else (getE env 8)) fun d => pure (.nx (env.set 8 (some d))))
  (fun env => exB env (do let c ← (do let x ← (do let l ← (do let x ← (getE env 8); let y ← (pure []); pure (x :: y)); d_law_is_read l); asB x); pure (!c)) fun c => if c then (fun env => exB env (pure (.bl false)) fun d => pure (.ret d)) env else (fun env => pure (.nx env)) env)))
def edges : List D := [.str "", .str "\n", .str "1", .str "1\n", .str "0\n", .str "24\n", .str "25\n", .str "99\n", .str "100\n", .str "01\n", .str "2\n0 1\n", .str "2\n0 1",
  .str "2\n1 0\n", .str "2\n0 0\n", .str "2\n0 2\n", .str "2\n0 1\n0 1\n", .str "2\n0 1\n1 0\n", .str "3\n1 0\n0 2\n",
  .str "2\n0  1\n", .str "2\n 0 1\n", .str "2\n0 1 \n", .str "2\n0 1\n\n", .str "2 3\n", .str "2\n0\n", .str "2\n0 1 1\n",
  .str "-\n", .str "2\n0 01\n", .str "2\n0 1\nx", .str "25\n0 1\n", .str "0\n0 1\n", .str "1\n0 1\n", .str "1\t\n", .str "3\n2 0\n2 1\n",
  .non, .int 0, .bl true, .lst [.str "1\n"], .tup [.str "1\n"], .dK [] [], .int 1]
theorem edges_ok : d_law_edges [] m = .ok (.lst edges) m := by
  have nk : ∀ m, mkNew false (.dK [] []) m = .ok (.dK [] []) m := fun m => rfl
  unfold d_law_edges body_law_edges
  simp [startE, p_addL, nk, edges]
def Ed (d : D) : Prop := (∃ s : Str, d = .str s ∧ s.length ≤ 100) ∨ ∀ m, isiD 1 [.bi "str"] d m = .ok (.bl false) m
theorem edges_all : ∀ d ∈ edges, Ed d := by
  have e : edges = (edges.take 33) ++ edges.drop 33 := (List.take_append_drop 33 edges).symm
  rw [e]
  intro d hd
  rcases List.mem_append.mp hd with hd | hd
  · left
    have hall : ∀ d ∈ edges.take 33, (match d with | .str s => decide (s.length ≤ 100) | _ => false) = true := by
      unfold edges
      decide +kernel
    have := hall d hd
    cases d with
    | str s => exact ⟨s, rfl, by simpa using this⟩
    | _ => cases this
  · right
    intro m
    unfold edges at hd
    simp only [List.drop_succ_cons, List.drop_zero, List.mem_cons, List.not_mem_nil, or_false] at hd
    rcases hd with rfl | rfl | rfl | rfl | rfl | rfl | rfl <;> simp [isiD, tyOf, isTys, isTy, tyB, bnames]
theorem ed_read {d : D} (h : Ed d) (h0 : m[0]? = some (.tbl q_law_is_read)) : ∃ z, d_law_is_read [d] m = .ok (.bl true) (m ++ z) := by
  rcases h with ⟨s, rfl, hs⟩ | h
  · exact is_read_str h0 (by omega)
  · exact is_read_no h0 h
theorem lcA_tr {g : D → Eng.Env → M Eng.Env} {tt : Eng.Env → M Bool} {e : Eng.Env → M D} {env0 : Eng.Env} (I : Mem → Prop) (hI : ∀ m z, I m → I (m ++ z)) : ∀ (l acc : List D) (m : Mem), I m → (∀ d ∈ l, ∀ m, I m → ∃ e1 z, g d env0 m = .ok e1 m ∧ tt e1 m = .ok true m ∧ e e1 m = .ok (.bl true) (m ++ z)) →
    ∃ zs, lcA g tt e env0 l acc m = .ok (acc ++ l.map fun _ => .bl true) (m ++ zs)
  | [], acc, m, _, _ => ⟨[], by unfold lcA; simp⟩
  | d :: l, acc, m, hm, h => by
    obtain ⟨e1, z, h1, h2, h3⟩ := h d (by simp) m hm
    obtain ⟨zs, ih⟩ := lcA_tr I hI l (acc ++ [.bl true]) (m ++ z) (hI _ _ hm) fun x hx => h x (by simp [hx])
    refine ⟨z ++ zs, ?_⟩
    unfold lcA
    simp [h1, h2, h3]
    rw [ih]
    simp
theorem edges_lc {env0 : Eng.Env} {f : Eng.Env → M D} {i : Nat} (h0 : m[0]? = some (.tbl q_law_is_read)) (hf : ∀ d m m', d_law_is_read [d] m = .ok (.bl true) m' → f (env0.set i (some d)) m = .ok (.bl true) m') :
    ∃ zs, lcD false (fun d env => pure (env.set i (some d))) (fun _ => pure true) f env0 edges m = .ok (.lst (edges.map fun _ => .bl true)) (m ++ zs) := by
  obtain ⟨zs, h⟩ := lcA_tr (g := fun d env => pure (env.set i (some d))) (tt := fun _ => pure true) (e := f) (env0 := env0) (fun m => m[0]? = some (.tbl q_law_is_read)) (fun m z h => by
    have hl : 0 < m.length := (List.getElem?_eq_some_iff.mp h).1
    rw [List.getElem?_append_left hl]; exact h) edges [] m h0 fun d hd m hm => by
    obtain ⟨z, hz⟩ := ed_read (edges_all d hd) hm
    exact ⟨_, z, rfl, rfl, hf d m _ hz⟩
  refine ⟨zs, ?_⟩
  unfold lcD
  rw [if_pos (by decide)]
  refine (congrArg (fun r : R (List D) => r.bd fun r => mkNew false (.lst r)) h).trans ?_
  rfl
theorem txt_len {n : Int} {ps : List (Int × Int)} (h0 : 0 ≤ n) (h1 : n < 100) (h : ∀ p ∈ ps, 0 ≤ p.1 ∧ p.1 < 100 ∧ 0 ≤ p.2 ∧ p.2 < 100) : (txt n ps).length ≤ 6 * (ps.length + 1) := by
  have a := StrLaws.join_length_le emp ((rowsS n ps).map (· ++ nl))
  have b := sum_le (B := 6) ((rowsS n ps).map (· ++ nl)) fun y hy => by
    obtain ⟨z, hz, rfl⟩ := List.mem_map.mp hy
    rw [app_len, nl_len]
    have := rowsS_len h0 h1 h z hz
    omega
  have c : ((rowsS n ps).map (· ++ nl)).length = ps.length + 1 := by unfold rowsS; simp
  rw [emp_len, Nat.mul_zero] at a
  rw [c] at b
  unfold txt
  omega
def Turn1 (t : Ob) (s : D) (e1 : Eng.Env) (m1 : Mem) : Prop := ∃ o rest x2 x3 x4 x5 x6 x7 x8, Hd o ∧ e1 = [some s, some (.ref 1), x2, x3, x4, x5, x6, x7, x8] ∧ m1 = t :: o :: rest
theorem plain0 (ns : List Int) (hn : ns.length ≤ 63) : ∃ m', d_law [.scr (ns.map D.int)] [.tbl q_law_is_read] = .ok (.bl true) m' := by
  obtain ⟨o, h, e1⟩ := hand_ok (t := .tbl q_law_is_read) ns
  have tb : ∀ (o : Ob) (rest : Mem), (Ob.tbl q_law_is_read :: o :: rest)[0]? = some (.tbl q_law_is_read) := fun _ _ => rfl
  have p4 : ∀ m, rng1D [.int 4] m = .ok (rngL 0 4) m := fun m => p_rng1 (by omega) (by omega)
  have p8 : ∀ m, rng1D [.int 8] m = .ok (rngL 0 8) m := fun m => p_rng1 (by omega) (by omega)
  obtain ⟨z1, el⟩ := edges_lc (m := [.tbl q_law_is_read, o]) (i := 5) (env0 := [some (.scr (ns.map D.int)), some (.ref 1), none, none, none, none, none, none, none]) (f := fun env => do let l ← (do let x ← (getE env 5); let y ← (pure []); pure (x :: y)); d_law_is_read l) (tb _ _) (fun d m m' h => by simp [h])
  have ea := fun m => all_map (m := m) (fun _ : D => true) edges
  have ea2 : edges.all (fun _ => true) = true := by rw [List.all_eq_true]; exact fun _ _ => rfl
  simp only [ea2] at ea
  have ed := fun m => edges_ok (m := m)
  generalize ht : Ob.tbl q_law_is_read = t at *
  unfold d_law body_law
  generalize edges.map (fun _ => D.bl true) = eb at *
  generalize edges = ee at *
  simp [startE, e1, ed, wipeE]
  rw [el]
  simp [ea, p4]
  refine sq_via (P := fun z => ∃ m', z.cl = .ok (.bl true) m') (fun _ _ => True) ?_ ?_
  case refine_2 =>
    rintro e m' -
    exact ⟨m', by simp⟩
  refine for_via (fun _ e1 m1 => Turn1 t (.scr (ns.map D.int)) e1 m1) ⟨o, _, _, _, _, _, _, _, _, h, rfl, rfl⟩ ?_ (fun _ _ _ => trivial)
  rintro j d env m hx ⟨o, rest, x2, x3, x4, x5, x6, x7, x8, h, rfl, rfl⟩
  obtain ⟨n, ps, o1, y1, n1, n2, hr, hl, h1, f1⟩ := round_p (t := t) (rest := rest) h
  have hb : ∀ p ∈ ps, 0 ≤ p.1 ∧ p.1 < 100 ∧ 0 ≤ p.2 ∧ p.2 < 100 := fun p hp => by have := hr.1 p hp; omega
  have hpl : plc n ps = .non := by unfold plc; rw [if_pos ⟨n1, n2⟩]; exact place_non.mpr ⟨ps, rfl, hr⟩
  have lt := fun m => law_text_ok (m := m) (n := n) (ps := ps) (by omega) (by omega) hb (by omega)
  have rt := fun m => round_text_ok (m := m) (n := n) (ps := ps) (by omega) (by omega) hb (by omega)
  have mk := fun m => make_plc (m := m) hpl
  have tl := txt_len (n := n) (ps := ps) (by omega) (by omega) hb
  have isS := fun m => isi_str (m := m) (txt n ps)
  obtain ⟨z2, f2⟩ := is_read_str (m := t :: o1 :: (rest ++ [y1, .dead])) (t := txt n ps) (by rw [ht]; rfl) (by omega)
  generalize htx : txt n ps = tx at *
  have hfin : ∃ e' m', (forD (rngL 0 8) (fun d env => pure (env.set 7 (some d))) FB [some (.scr (ns.map D.int)), some (.ref 1), some d, some (.int n), some (.tup (ps.map prD)), some (.str tx), some (.str tx), x7, x8] (t :: o1 :: (rest ++ ([y1, .dead] ++ z2 ++ [.dead])))) = .ok (.nx e') m' ∧ Turn1 t (.scr (ns.map D.int)) e' m' := by
    refine for_via (fun _ e1 m1 => ∃ o rest x7 x8, Hd o ∧ e1 = [some (.scr (ns.map D.int)), some (.ref 1), some d, some (.int n), some (.tup (ps.map prD)), some (.str tx), some (.str tx), x7, x8] ∧ m1 = t :: o :: rest) ⟨o1, _, x7, x8, h1, rfl, rfl⟩ ?_ (fun e m ⟨o, rest, x7, x8, h, e1, e2⟩ => ⟨o, rest, _, _, _, _, _, x7, x8, h, e1, e2⟩)
    rintro j d' env m hx' ⟨o, rest, x7, x8, h, rfl, rfl⟩
    obtain ⟨w, o2, zs, h2, wl, g1⟩ := bent_p (t := t) (rest := rest) (x := tx) h (by omega)
    obtain ⟨r, o3, _, _, h3, g2⟩ := draw_ok (t := t) (rest := rest ++ zs) (n := 3) h2 (by omega) (by omega)
    by_cases hr0 : r = 0
    · subst hr0
      obtain ⟨w2, o4, zs2, h4, wl2, g3⟩ := bent_p (t := t) (rest := rest ++ zs) (x := w) h3 (by omega)
      obtain ⟨z5, g4⟩ := is_read_str (m := t :: o4 :: (rest ++ zs ++ zs2)) (t := w2) (by rw [ht]; rfl) (by omega)
      refine ⟨[some (.scr (ns.map D.int)), some (.ref 1), some d, some (.int n), some (.tup (ps.map prD)), some (.str tx), some (.str tx), some d', some (.str w2)], t :: o4 :: (rest ++ zs ++ zs2 ++ z5), ?_, o4, rest ++ zs ++ zs2 ++ z5, some d', some (.str w2), h4, rfl, rfl⟩
      simp only [List.append_assoc, List.cons_append] at g3 g4
      unfold FB
      simp [g1, g2, g3, g4]
    · obtain ⟨z5, g4⟩ := is_read_str (m := t :: o3 :: (rest ++ zs)) (t := w) (by rw [ht]; rfl) (by omega)
      refine ⟨[some (.scr (ns.map D.int)), some (.ref 1), some d, some (.int n), some (.tup (ps.map prD)), some (.str tx), some (.str tx), some d', some (.str w)], t :: o3 :: (rest ++ zs ++ z5), ?_, o3, rest ++ zs ++ z5, some d', some (.str w), h3, rfl, rfl⟩
      simp only [List.append_assoc, List.cons_append] at g4
      unfold FB
      simp [g1, g2, hr0, g4]
  obtain ⟨e', m', hf, hT⟩ := hfin
  refine ⟨e', m', ?_, hT⟩
  unfold FB at hf
  simp only [List.cons_append, List.nil_append, List.append_assoc] at f2 hf
  simp [f1, viewT, lt, mk, rt, isS, eq_str, f2, p8]
  simpa using hf
end Wk

set_option maxRecDepth 100000
set_option maxHeartbeats 8000000
namespace Wk
open PySem PySem.Spec PyProof.Rows L2 Eng
theorem plain : ∀ ns : List Int, ns.length ≤ 63 → ∃ m', d_law [.scr (ns.map D.int)] ([q_law_is_read].map .tbl) = .ok (.bl true) m' := fun ns hn => plain0 ns hn
theorem all_mk {w : World} {K : PySem.W.Frag} {h : Heap} {mg : Str → Option Value} {fa : Addr} (X : K.In h) (G : h.Ns mainGlobals mg) (hfa : mg "law" = some (.ref fa))
    {C0 C1 C2 C3 : Addr}
    {f_is_integer : Addr} {od_is_integer an_is_integer : Option Addr} {sl_is_integer : Array (Option Value)} {oc_is_integer kV_is_integer dc_is_integer pm_is_integer cd_is_integer ct_is_integer : Value}
    {f_is_below : Addr} {od_is_below an_is_below : Option Addr} {sl_is_below : Array (Option Value)} {oc_is_below kV_is_below dc_is_below pm_is_below cd_is_below ct_is_below : Value}
    {f_is_result : Addr} {od_is_result an_is_result : Option Addr} {sl_is_result : Array (Option Value)} {oc_is_result kV_is_result dc_is_result pm_is_result cd_is_result ct_is_result : Value}
    {f_first_bad : Addr} {od_first_bad an_first_bad : Option Addr} {sl_first_bad : Array (Option Value)} {oc_first_bad kV_first_bad dc_first_bad pm_first_bad cd_first_bad ct_first_bad : Value}
    {f_Round_init : Addr} {od_Round_init an_Round_init : Option Addr} {sl_Round_init : Array (Option Value)} {oc_Round_init kV_Round_init dc_Round_init pm_Round_init cd_Round_init ct_Round_init : Value}
    {f_Round_eq : Addr} {od_Round_eq an_Round_eq : Option Addr} {sl_Round_eq : Array (Option Value)} {oc_Round_eq kV_Round_eq dc_Round_eq pm_Round_eq cd_Round_eq ct_Round_eq : Value}
    {f_round_text : Addr} {od_round_text an_round_text : Option Addr} {sl_round_text : Array (Option Value)} {oc_round_text kV_round_text dc_round_text pm_round_text cd_round_text ct_round_text : Value}
    {f_number_of : Addr} {od_number_of an_number_of : Option Addr} {sl_number_of : Array (Option Value)} {oc_number_of kV_number_of dc_number_of pm_number_of cd_number_of ct_number_of : Value}
    {f_numbers_of : Addr} {od_numbers_of an_numbers_of : Option Addr} {sl_numbers_of : Array (Option Value)} {oc_numbers_of kV_numbers_of dc_numbers_of pm_numbers_of cd_numbers_of ct_numbers_of : Value}
    {f_read_round : Addr} {od_read_round an_read_round : Option Addr} {sl_read_round : Array (Option Value)} {oc_read_round kV_read_round dc_read_round pm_read_round cd_read_round ct_read_round : Value}
    {f_law_hand : Addr} {od_law_hand an_law_hand : Option Addr} {sl_law_hand : Array (Option Value)} {oc_law_hand kV_law_hand dc_law_hand pm_law_hand cd_law_hand ct_law_hand : Value}
    {f_law_draw : Addr} {od_law_draw an_law_draw : Option Addr} {sl_law_draw : Array (Option Value)} {oc_law_draw kV_law_draw dc_law_draw pm_law_draw cd_law_draw ct_law_draw : Value}
    {f_law_any : Addr} {od_law_any an_law_any : Option Addr} {sl_law_any : Array (Option Value)} {oc_law_any kV_law_any dc_law_any pm_law_any cd_law_any ct_law_any : Value}
    {f_law_some_round : Addr} {od_law_some_round an_law_some_round : Option Addr} {sl_law_some_round : Array (Option Value)} {oc_law_some_round kV_law_some_round dc_law_some_round pm_law_some_round cd_law_some_round ct_law_some_round : Value}
    {f_law_text : Addr} {od_law_text an_law_text : Option Addr} {sl_law_text : Array (Option Value)} {oc_law_text kV_law_text dc_law_text pm_law_text cd_law_text ct_law_text : Value}
    {f_law_number : Addr} {od_law_number an_law_number : Option Addr} {sl_law_number : Array (Option Value)} {oc_law_number kV_law_number dc_law_number pm_law_number cd_law_number ct_law_number : Value}
    {f_law_numbers : Addr} {od_law_numbers an_law_numbers : Option Addr} {sl_law_numbers : Array (Option Value)} {oc_law_numbers kV_law_numbers dc_law_numbers pm_law_numbers cd_law_numbers ct_law_numbers : Value}
    {f_law_bad_place : Addr} {od_law_bad_place an_law_bad_place : Option Addr} {sl_law_bad_place : Array (Option Value)} {oc_law_bad_place kV_law_bad_place dc_law_bad_place pm_law_bad_place cd_law_bad_place ct_law_bad_place : Value}
    {f_law_read : Addr} {od_law_read an_law_read : Option Addr} {sl_law_read : Array (Option Value)} {oc_law_read kV_law_read dc_law_read pm_law_read cd_law_read ct_law_read : Value}
    {f_law_said : Addr} {od_law_said an_law_said : Option Addr} {sl_law_said : Array (Option Value)} {oc_law_said kV_law_said dc_law_said pm_law_said cd_law_said ct_law_said : Value}
    {f_law_is_read : Addr} {od_law_is_read an_law_is_read : Option Addr} {sl_law_is_read : Array (Option Value)} {oc_law_is_read kV_law_is_read dc_law_is_read pm_law_is_read  ct_law_is_read : Value} {c_law_is_read p_law_is_read : Addr}
    {f_law_bent : Addr} {od_law_bent an_law_bent : Option Addr} {sl_law_bent : Array (Option Value)} {oc_law_bent kV_law_bent dc_law_bent pm_law_bent cd_law_bent ct_law_bent : Value}
    {f_law_edges : Addr} {od_law_edges an_law_edges : Option Addr} {sl_law_edges : Array (Option Value)} {oc_law_edges kV_law_edges dc_law_edges pm_law_edges cd_law_edges ct_law_edges : Value}
    {f_law : Addr} {od_law an_law : Option Addr} {sl_law : Array (Option Value)} {oc_law kV_law dc_law pm_law cd_law ct_law : Value}
    {t_MOST : Tok}
    {t_MOST_FIGURES : Tok}
    {t_FIGURES : Tok}
    {nm2 q2 : Str} {N2 : Addr} {bs2 bm2 : List Value} {sn2 : List Str} {sub2 : List Value} {ab2 : Bool} {col2 : Option Bool} {dd2 : Option Addr} {m02 m12 m22 m32 m52 : Option Value}
    {f_BadRound : Addr} {od_BadRound an_BadRound : Option Addr} {sl_BadRound : Array (Option Value)} {oc_BadRound kV_BadRound dc_BadRound pm_BadRound ct_BadRound : Value} {cc_BadRound cda_BadRound : Addr} {vs_BadRound : Array Value} {fi_BadRound : Str} {tf_BadRound : Tok} {q1_BadRound q2_BadRound : Value} {q3_BadRound q4_BadRound : Option Addr} {q5_BadRound q6_BadRound : Array (Option Value)} {cl_BadRound : ClassData}
    {nm3 q3 : Str} {N3 : Addr} {bs3 bm3 : List Value} {sn3 : List Str} {sub3 : List Value} {ab3 : Bool} {col3 : Option Bool} {dd3 : Option Addr} {m03 m13 m23 m33 m53 : Option Value}
    {f_BadText : Addr} {od_BadText an_BadText : Option Addr} {sl_BadText : Array (Option Value)} {oc_BadText kV_BadText dc_BadText pm_BadText ct_BadText : Value} {cc_BadText cda_BadText : Addr} {vs_BadText : Array Value} {fi_BadText : Str} {tf_BadText : Tok} {q1_BadText q2_BadText : Value} {q3_BadText q4_BadText : Option Addr} {q5_BadText q6_BadText : Array (Option Value)} {cl_BadText : ClassData}
    {qq : Program}
    {tq1_law_is_read : Value} {tq3_law_is_read : Option Addr} {tvs_law_is_read : Array Value} {tq5_law_is_read : Array (Option Value)}
    (aC0 : PySem.W.nsIn K mainGlobals "Round" = some (some (.ref C0)))
    (aC1 : PySem.W.nsIn K mainGlobals "RoundError" = some (some (.ref C1)))
    (aC2 : PySem.W.nsIn K mainGlobals "BadRound" = some (some (.ref C2)))
    (aC3 : PySem.W.nsIn K mainGlobals "BadText" = some (some (.ref C3)))
    (a_is_integer : PySem.W.nsIn K mainGlobals "is_integer" = some (some (.ref f_is_integer)))
    (l_is_integer : K.lookup f_is_integer = some ⟨oc_is_integer, od_is_integer, .func (PySem.W.fnOf "is_integer" "is_integer" (defArgs s_is_integer) (defBody s_is_integer) (defScope s_is_integer) .none kV_is_integer dc_is_integer pm_is_integer an_is_integer cd_is_integer ct_is_integer), sl_is_integer⟩)
    (co_is_integer : PySem.W.codeIn K cd_is_integer "is_integer" = true)
    (k_is_integer : PySem.W.keepIn K (.ref f_is_integer) = true)
    (a_is_below : PySem.W.nsIn K mainGlobals "is_below" = some (some (.ref f_is_below)))
    (l_is_below : K.lookup f_is_below = some ⟨oc_is_below, od_is_below, .func (PySem.W.fnOf "is_below" "is_below" (defArgs s_is_below) (defBody s_is_below) (defScope s_is_below) .none kV_is_below dc_is_below pm_is_below an_is_below cd_is_below ct_is_below), sl_is_below⟩)
    (co_is_below : PySem.W.codeIn K cd_is_below "is_below" = true)
    (k_is_below : PySem.W.keepIn K (.ref f_is_below) = true)
    (a_is_result : PySem.W.nsIn K mainGlobals "is_result" = some (some (.ref f_is_result)))
    (l_is_result : K.lookup f_is_result = some ⟨oc_is_result, od_is_result, .func (PySem.W.fnOf "is_result" "is_result" (defArgs s_is_result) (defBody s_is_result) (defScope s_is_result) .none kV_is_result dc_is_result pm_is_result an_is_result cd_is_result ct_is_result), sl_is_result⟩)
    (co_is_result : PySem.W.codeIn K cd_is_result "is_result" = true)
    (k_is_result : PySem.W.keepIn K (.ref f_is_result) = true)
    (a_first_bad : PySem.W.nsIn K mainGlobals "first_bad" = some (some (.ref f_first_bad)))
    (l_first_bad : K.lookup f_first_bad = some ⟨oc_first_bad, od_first_bad, .func (PySem.W.fnOf "first_bad" "first_bad" (defArgs s_first_bad) (defBody s_first_bad) (defScope s_first_bad) .none kV_first_bad dc_first_bad pm_first_bad an_first_bad cd_first_bad ct_first_bad), sl_first_bad⟩)
    (co_first_bad : PySem.W.codeIn K cd_first_bad "first_bad" = true)
    (k_first_bad : PySem.W.keepIn K (.ref f_first_bad) = true)
    (a_Round_init : PySem.W.findIn K (.ref C0) "__init__" = some (some (.ref f_Round_init)))
    (i_Round_init : PySem.W.isFn K (.ref f_Round_init) = true)
    (l_Round_init : K.lookup f_Round_init = some ⟨oc_Round_init, od_Round_init, .func (PySem.W.fnOf "__init__" "Round.__init__" (defArgs s_Round_init) (defBody s_Round_init) (defScope s_Round_init) .none kV_Round_init dc_Round_init pm_Round_init an_Round_init cd_Round_init ct_Round_init), sl_Round_init⟩)
    (co_Round_init : PySem.W.codeIn K cd_Round_init "Round.__init__" = true)
    (k_Round_init : PySem.W.keepIn K (.ref f_Round_init) = true)
    (a_Round_eq : PySem.W.findIn K (.ref C0) "__eq__" = some (some (.ref f_Round_eq)))
    (i_Round_eq : PySem.W.isFn K (.ref f_Round_eq) = true)
    (l_Round_eq : K.lookup f_Round_eq = some ⟨oc_Round_eq, od_Round_eq, .func (PySem.W.fnOf "__eq__" "Round.__eq__" (defArgs s_Round_eq) (defBody s_Round_eq) (defScope s_Round_eq) .none kV_Round_eq dc_Round_eq pm_Round_eq an_Round_eq cd_Round_eq ct_Round_eq), sl_Round_eq⟩)
    (co_Round_eq : PySem.W.codeIn K cd_Round_eq "Round.__eq__" = true)
    (k_Round_eq : PySem.W.keepIn K (.ref f_Round_eq) = true)
    (a_round_text : PySem.W.nsIn K mainGlobals "round_text" = some (some (.ref f_round_text)))
    (l_round_text : K.lookup f_round_text = some ⟨oc_round_text, od_round_text, .func (PySem.W.fnOf "round_text" "round_text" (defArgs s_round_text) (defBody s_round_text) (defScope s_round_text) .none kV_round_text dc_round_text pm_round_text an_round_text cd_round_text ct_round_text), sl_round_text⟩)
    (co_round_text : PySem.W.codeIn K cd_round_text "round_text" = true)
    (k_round_text : PySem.W.keepIn K (.ref f_round_text) = true)
    (a_number_of : PySem.W.nsIn K mainGlobals "number_of" = some (some (.ref f_number_of)))
    (l_number_of : K.lookup f_number_of = some ⟨oc_number_of, od_number_of, .func (PySem.W.fnOf "number_of" "number_of" (defArgs s_number_of) (defBody s_number_of) (defScope s_number_of) .none kV_number_of dc_number_of pm_number_of an_number_of cd_number_of ct_number_of), sl_number_of⟩)
    (co_number_of : PySem.W.codeIn K cd_number_of "number_of" = true)
    (k_number_of : PySem.W.keepIn K (.ref f_number_of) = true)
    (a_numbers_of : PySem.W.nsIn K mainGlobals "numbers_of" = some (some (.ref f_numbers_of)))
    (l_numbers_of : K.lookup f_numbers_of = some ⟨oc_numbers_of, od_numbers_of, .func (PySem.W.fnOf "numbers_of" "numbers_of" (defArgs s_numbers_of) (defBody s_numbers_of) (defScope s_numbers_of) .none kV_numbers_of dc_numbers_of pm_numbers_of an_numbers_of cd_numbers_of ct_numbers_of), sl_numbers_of⟩)
    (co_numbers_of : PySem.W.codeIn K cd_numbers_of "numbers_of" = true)
    (k_numbers_of : PySem.W.keepIn K (.ref f_numbers_of) = true)
    (a_read_round : PySem.W.nsIn K mainGlobals "read_round" = some (some (.ref f_read_round)))
    (l_read_round : K.lookup f_read_round = some ⟨oc_read_round, od_read_round, .func (PySem.W.fnOf "read_round" "read_round" (defArgs s_read_round) (defBody s_read_round) (defScope s_read_round) .none kV_read_round dc_read_round pm_read_round an_read_round cd_read_round ct_read_round), sl_read_round⟩)
    (co_read_round : PySem.W.codeIn K cd_read_round "read_round" = true)
    (k_read_round : PySem.W.keepIn K (.ref f_read_round) = true)
    (a_law_hand : PySem.W.nsIn K mainGlobals "_law_hand" = some (some (.ref f_law_hand)))
    (l_law_hand : K.lookup f_law_hand = some ⟨oc_law_hand, od_law_hand, .func (PySem.W.fnOf "_law_hand" "_law_hand" (defArgs s_law_hand) (defBody s_law_hand) (defScope s_law_hand) .none kV_law_hand dc_law_hand pm_law_hand an_law_hand cd_law_hand ct_law_hand), sl_law_hand⟩)
    (co_law_hand : PySem.W.codeIn K cd_law_hand "_law_hand" = true)
    (k_law_hand : PySem.W.keepIn K (.ref f_law_hand) = true)
    (a_law_draw : PySem.W.nsIn K mainGlobals "_law_draw" = some (some (.ref f_law_draw)))
    (l_law_draw : K.lookup f_law_draw = some ⟨oc_law_draw, od_law_draw, .func (PySem.W.fnOf "_law_draw" "_law_draw" (defArgs s_law_draw) (defBody s_law_draw) (defScope s_law_draw) .none kV_law_draw dc_law_draw pm_law_draw an_law_draw cd_law_draw ct_law_draw), sl_law_draw⟩)
    (co_law_draw : PySem.W.codeIn K cd_law_draw "_law_draw" = true)
    (k_law_draw : PySem.W.keepIn K (.ref f_law_draw) = true)
    (a_law_any : PySem.W.nsIn K mainGlobals "_law_any" = some (some (.ref f_law_any)))
    (l_law_any : K.lookup f_law_any = some ⟨oc_law_any, od_law_any, .func (PySem.W.fnOf "_law_any" "_law_any" (defArgs s_law_any) (defBody s_law_any) (defScope s_law_any) .none kV_law_any dc_law_any pm_law_any an_law_any cd_law_any ct_law_any), sl_law_any⟩)
    (co_law_any : PySem.W.codeIn K cd_law_any "_law_any" = true)
    (k_law_any : PySem.W.keepIn K (.ref f_law_any) = true)
    (a_law_some_round : PySem.W.nsIn K mainGlobals "_law_some_round" = some (some (.ref f_law_some_round)))
    (l_law_some_round : K.lookup f_law_some_round = some ⟨oc_law_some_round, od_law_some_round, .func (PySem.W.fnOf "_law_some_round" "_law_some_round" (defArgs s_law_some_round) (defBody s_law_some_round) (defScope s_law_some_round) .none kV_law_some_round dc_law_some_round pm_law_some_round an_law_some_round cd_law_some_round ct_law_some_round), sl_law_some_round⟩)
    (co_law_some_round : PySem.W.codeIn K cd_law_some_round "_law_some_round" = true)
    (k_law_some_round : PySem.W.keepIn K (.ref f_law_some_round) = true)
    (a_law_text : PySem.W.nsIn K mainGlobals "_law_text" = some (some (.ref f_law_text)))
    (l_law_text : K.lookup f_law_text = some ⟨oc_law_text, od_law_text, .func (PySem.W.fnOf "_law_text" "_law_text" (defArgs s_law_text) (defBody s_law_text) (defScope s_law_text) .none kV_law_text dc_law_text pm_law_text an_law_text cd_law_text ct_law_text), sl_law_text⟩)
    (co_law_text : PySem.W.codeIn K cd_law_text "_law_text" = true)
    (k_law_text : PySem.W.keepIn K (.ref f_law_text) = true)
    (a_law_number : PySem.W.nsIn K mainGlobals "_law_number" = some (some (.ref f_law_number)))
    (l_law_number : K.lookup f_law_number = some ⟨oc_law_number, od_law_number, .func (PySem.W.fnOf "_law_number" "_law_number" (defArgs s_law_number) (defBody s_law_number) (defScope s_law_number) .none kV_law_number dc_law_number pm_law_number an_law_number cd_law_number ct_law_number), sl_law_number⟩)
    (co_law_number : PySem.W.codeIn K cd_law_number "_law_number" = true)
    (k_law_number : PySem.W.keepIn K (.ref f_law_number) = true)
    (a_law_numbers : PySem.W.nsIn K mainGlobals "_law_numbers" = some (some (.ref f_law_numbers)))
    (l_law_numbers : K.lookup f_law_numbers = some ⟨oc_law_numbers, od_law_numbers, .func (PySem.W.fnOf "_law_numbers" "_law_numbers" (defArgs s_law_numbers) (defBody s_law_numbers) (defScope s_law_numbers) .none kV_law_numbers dc_law_numbers pm_law_numbers an_law_numbers cd_law_numbers ct_law_numbers), sl_law_numbers⟩)
    (co_law_numbers : PySem.W.codeIn K cd_law_numbers "_law_numbers" = true)
    (k_law_numbers : PySem.W.keepIn K (.ref f_law_numbers) = true)
    (a_law_bad_place : PySem.W.nsIn K mainGlobals "_law_bad_place" = some (some (.ref f_law_bad_place)))
    (l_law_bad_place : K.lookup f_law_bad_place = some ⟨oc_law_bad_place, od_law_bad_place, .func (PySem.W.fnOf "_law_bad_place" "_law_bad_place" (defArgs s_law_bad_place) (defBody s_law_bad_place) (defScope s_law_bad_place) .none kV_law_bad_place dc_law_bad_place pm_law_bad_place an_law_bad_place cd_law_bad_place ct_law_bad_place), sl_law_bad_place⟩)
    (co_law_bad_place : PySem.W.codeIn K cd_law_bad_place "_law_bad_place" = true)
    (k_law_bad_place : PySem.W.keepIn K (.ref f_law_bad_place) = true)
    (a_law_read : PySem.W.nsIn K mainGlobals "_law_read" = some (some (.ref f_law_read)))
    (l_law_read : K.lookup f_law_read = some ⟨oc_law_read, od_law_read, .func (PySem.W.fnOf "_law_read" "_law_read" (defArgs s_law_read) (defBody s_law_read) (defScope s_law_read) .none kV_law_read dc_law_read pm_law_read an_law_read cd_law_read ct_law_read), sl_law_read⟩)
    (co_law_read : PySem.W.codeIn K cd_law_read "_law_read" = true)
    (k_law_read : PySem.W.keepIn K (.ref f_law_read) = true)
    (a_law_said : PySem.W.nsIn K mainGlobals "_law_said" = some (some (.ref f_law_said)))
    (l_law_said : K.lookup f_law_said = some ⟨oc_law_said, od_law_said, .func (PySem.W.fnOf "_law_said" "_law_said" (defArgs s_law_said) (defBody s_law_said) (defScope s_law_said) .none kV_law_said dc_law_said pm_law_said an_law_said cd_law_said ct_law_said), sl_law_said⟩)
    (co_law_said : PySem.W.codeIn K cd_law_said "_law_said" = true)
    (k_law_said : PySem.W.keepIn K (.ref f_law_said) = true)
    (a_law_is_read : PySem.W.nsIn K mainGlobals "_law_is_read" = some (some (.ref f_law_is_read)))
    (l_law_is_read : K.lookup f_law_is_read = some ⟨oc_law_is_read, od_law_is_read, .func (PySem.W.fnOf "_law_is_read" "_law_is_read" (defArgs s_law_is_read) (defBody s_law_is_read) (defScope s_law_is_read) .none kV_law_is_read dc_law_is_read pm_law_is_read an_law_is_read (.ref c_law_is_read) ct_law_is_read), sl_law_is_read⟩)
    (co_law_is_read : PySem.W.codeIn K (.ref c_law_is_read) "_law_is_read" = true)
    (k_law_is_read : PySem.W.keepIn K (.ref f_law_is_read) = true)
    (a_law_bent : PySem.W.nsIn K mainGlobals "_law_bent" = some (some (.ref f_law_bent)))
    (l_law_bent : K.lookup f_law_bent = some ⟨oc_law_bent, od_law_bent, .func (PySem.W.fnOf "_law_bent" "_law_bent" (defArgs s_law_bent) (defBody s_law_bent) (defScope s_law_bent) .none kV_law_bent dc_law_bent pm_law_bent an_law_bent cd_law_bent ct_law_bent), sl_law_bent⟩)
    (co_law_bent : PySem.W.codeIn K cd_law_bent "_law_bent" = true)
    (k_law_bent : PySem.W.keepIn K (.ref f_law_bent) = true)
    (a_law_edges : PySem.W.nsIn K mainGlobals "_law_edges" = some (some (.ref f_law_edges)))
    (l_law_edges : K.lookup f_law_edges = some ⟨oc_law_edges, od_law_edges, .func (PySem.W.fnOf "_law_edges" "_law_edges" (defArgs s_law_edges) (defBody s_law_edges) (defScope s_law_edges) .none kV_law_edges dc_law_edges pm_law_edges an_law_edges cd_law_edges ct_law_edges), sl_law_edges⟩)
    (co_law_edges : PySem.W.codeIn K cd_law_edges "_law_edges" = true)
    (k_law_edges : PySem.W.keepIn K (.ref f_law_edges) = true)
    (a_law : PySem.W.nsIn K mainGlobals "law" = some (some (.ref f_law)))
    (l_law : K.lookup f_law = some ⟨oc_law, od_law, .func (PySem.W.fnOf "law" "law" (defArgs s_law) (defBody s_law) (defScope s_law) .none kV_law dc_law pm_law an_law cd_law ct_law), sl_law⟩)
    (co_law : PySem.W.codeIn K cd_law "law" = true)
    (k_law : PySem.W.keepIn K (.ref f_law) = true)
    (sn : PySem.W.specialIn K (.builtin "object.__class__") "__get__" = some (some (.builtin "getset_descriptor.__get__")))
    (st : PySem.W.takesIn K (.builtin "object.__class__") = some true)
    (pg0 : PySem.W.plainGet K C0 Str.empty = true)
    (hd0 : PySem.W.hasDictIn K C0 = true)
    (po0 : PySem.W.plainOver K C0 = true)
    (sa0 : PySem.W.findIn K (.ref C0) "__setattr__" = some (some (.builtin "object.__setattr__")))
    (ha0 : PySem.W.findIn K (.ref C0) "__class__" = some (some (.builtin "object.__class__")))
    (mo0 : PySem.W.mroIn K C0 (.type "object") = some true)
    (mk0 : PySem.W.makesIn K C0 = true)
    (kc0 : PySem.W.keepIn K (.ref C0) = true)
    (no0_many : PySem.W.findIn K (.ref C0) "many" = some none)
    (no0_told : PySem.W.findIn K (.ref C0) "told" = some none)
    (ne0 : PySem.W.findIn K (.ref C0) "__ne__" = some (some (.builtin "object.__ne__")))
    (nf0_NoneType : PySem.W.notFirst K C0 (.type "NoneType") = true)
    (nf0_bool : PySem.W.notFirst K C0 (.type "bool") = true)
    (nf0_int : PySem.W.notFirst K C0 (.type "int") = true)
    (nf0_str : PySem.W.notFirst K C0 (.type "str") = true)
    (nf0_tuple : PySem.W.notFirst K C0 (.type "tuple") = true)
    (nf0_list : PySem.W.notFirst K C0 (.type "list") = true)
    (nf0_dict : PySem.W.notFirst K C0 (.type "dict") = true)
    (n_ValueError : PySem.W.nsIn K mainGlobals "ValueError" = some none)
    (n_abs : PySem.W.nsIn K mainGlobals "abs" = some none)
    (n_all : PySem.W.nsIn K mainGlobals "all" = some none)
    (n_bool : PySem.W.nsIn K mainGlobals "bool" = some none)
    (n_enumerate : PySem.W.nsIn K mainGlobals "enumerate" = some none)
    (n_int : PySem.W.nsIn K mainGlobals "int" = some none)
    (n_isinstance : PySem.W.nsIn K mainGlobals "isinstance" = some none)
    (n_len : PySem.W.nsIn K mainGlobals "len" = some none)
    (n_list : PySem.W.nsIn K mainGlobals "list" = some none)
    (n_max : PySem.W.nsIn K mainGlobals "max" = some none)
    (n_range : PySem.W.nsIn K mainGlobals "range" = some none)
    (n_repr : PySem.W.nsIn K mainGlobals "repr" = some none)
    (n_sorted : PySem.W.nsIn K mainGlobals "sorted" = some none)
    (n_str : PySem.W.nsIn K mainGlobals "str" = some none)
    (n_super : PySem.W.nsIn K mainGlobals "super" = some none)
    (n_tuple : PySem.W.nsIn K mainGlobals "tuple" = some none)
    (v_MOST : PySem.W.nsIn K mainGlobals "MOST" = some (some (.int 24 t_MOST)))
    (v_MOST_FIGURES : PySem.W.nsIn K mainGlobals "MOST_FIGURES" = some (some (.int 2 t_MOST_FIGURES)))
    (v_FIGURES : PySem.W.nsIn K mainGlobals "FIGURES" = some (some (.str "0123456789" t_FIGURES)))
    (xl2 : K.lookup C2 = some (excClassObj nm2 q2 C2 N2 bs2 bm2 true sn2 sub2 ab2 col2 dd2 m02 m12 m22 m32 m52 "ValueError.__new__"))
    (xb2 : PySem.HandSPX.refsVE bm2 = true)
    (xs2 : PySem.W.findIn K (.ref C2) "__setattr__" = some (some (.builtin "object.__setattr__")))
    (xe2 : PySem.W.subIn K (.ref C2) (.type "BaseException") = some true)
    (xt2 : PySem.W.typeIn K (.ref C2) = some (.type "type"))
    (xk2 : PySem.W.keepIn K (.ref C2) = true)
    (xi2 : PySem.W.findIn K (.ref C2) "__init__" = some (some (.ref f_BadRound)))
    (xy2 : PySem.W.typeIn K (.ref f_BadRound) = some (.type "function"))
    (xf2 : K.lookup f_BadRound = some ⟨oc_BadRound, od_BadRound, .func (PySem.W.ksFn "__init__" "BadRound.__init__" (defArgs (inClass (top 2) 0)) (defBody (inClass (top 2) 0)) (defScope (inClass (top 2) 0)) .none kV_BadRound dc_BadRound pm_BadRound an_BadRound (.ref cda_BadRound) ct_BadRound cc_BadRound), sl_BadRound⟩)
    (xc2 : PySem.W.codeIn K (.ref cda_BadRound) "BadRound.__init__" = true)
    (xd2 : K.lookup cda_BadRound = some ⟨q1_BadRound, q3_BadRound, .fields vs_BadRound, q5_BadRound⟩)
    (xv2 : vs_BadRound[2]? = some (.str fi_BadRound tf_BadRound))
    (xm2 : ((PySem.Challenge.pw_onlyscores_k16_texts_of_rounds.main.file : Str) == fi_BadRound) = true)
    (xz2 : K.lookup cc_BadRound = some ⟨q2_BadRound, q4_BadRound, .cell (some (.ref C2)), q6_BadRound⟩)
    (xw2 : PySem.W.clsIn K C2 = some cl_BadRound)
    (xa2 : PySem.W.alongIn K "__init__" ((cl_BadRound.mro.dropWhile (· != .ref C2)).drop 1) = some (some (.builtin "ValueError.__init__")))
    (xr2 : PySem.W.mroIn K C2 (.ref C2) = some true)
    (xu2 : PySem.W.subIn K (.ref C2) (.type "ValueError") = some true)
    (xn2 : PySem.W.findIn K (.ref C2) "place" = some none)
    (xg2 : PySem.W.findIn K (.ref C2) "__getattribute__" = some (some (.builtin "BaseException.__getattribute__")))
    (xh2 : PySem.W.findIn K (.ref C2) "__getattr__" = some none)
    (xhd2 : PySem.W.hasDictIn K C2 = true)
    (xca2 : PySem.W.findIn K (.ref C2) "__class__" = some (some (.builtin "object.__class__")))
    (xmo2 : PySem.W.mroIn K C2 (.type "object") = some true)
    (xl3 : K.lookup C3 = some (excClassObj nm3 q3 C3 N3 bs3 bm3 true sn3 sub3 ab3 col3 dd3 m03 m13 m23 m33 m53 "ValueError.__new__"))
    (xb3 : PySem.HandSPX.refsVE bm3 = true)
    (xs3 : PySem.W.findIn K (.ref C3) "__setattr__" = some (some (.builtin "object.__setattr__")))
    (xe3 : PySem.W.subIn K (.ref C3) (.type "BaseException") = some true)
    (xt3 : PySem.W.typeIn K (.ref C3) = some (.type "type"))
    (xk3 : PySem.W.keepIn K (.ref C3) = true)
    (xi3 : PySem.W.findIn K (.ref C3) "__init__" = some (some (.ref f_BadText)))
    (xy3 : PySem.W.typeIn K (.ref f_BadText) = some (.type "function"))
    (xf3 : K.lookup f_BadText = some ⟨oc_BadText, od_BadText, .func (PySem.W.ksFn "__init__" "BadText.__init__" (defArgs (inClass (top 3) 0)) (defBody (inClass (top 3) 0)) (defScope (inClass (top 3) 0)) .none kV_BadText dc_BadText pm_BadText an_BadText (.ref cda_BadText) ct_BadText cc_BadText), sl_BadText⟩)
    (xc3 : PySem.W.codeIn K (.ref cda_BadText) "BadText.__init__" = true)
    (xd3 : K.lookup cda_BadText = some ⟨q1_BadText, q3_BadText, .fields vs_BadText, q5_BadText⟩)
    (xv3 : vs_BadText[2]? = some (.str fi_BadText tf_BadText))
    (xm3 : ((PySem.Challenge.pw_onlyscores_k16_texts_of_rounds.main.file : Str) == fi_BadText) = true)
    (xz3 : K.lookup cc_BadText = some ⟨q2_BadText, q4_BadText, .cell (some (.ref C3)), q6_BadText⟩)
    (xw3 : PySem.W.clsIn K C3 = some cl_BadText)
    (xa3 : PySem.W.alongIn K "__init__" ((cl_BadText.mro.dropWhile (· != .ref C3)).drop 1) = some (some (.builtin "ValueError.__init__")))
    (xr3 : PySem.W.mroIn K C3 (.ref C3) = some true)
    (xu3 : PySem.W.subIn K (.ref C3) (.type "ValueError") = some true)
    (xn3 : PySem.W.findIn K (.ref C3) "line" = some none)
    (xg3 : PySem.W.findIn K (.ref C3) "__getattribute__" = some (some (.builtin "BaseException.__getattribute__")))
    (xh3 : PySem.W.findIn K (.ref C3) "__getattr__" = some none)
    (xhd3 : PySem.W.hasDictIn K C3 = true)
    (xca3 : PySem.W.findIn K (.ref C3) "__class__" = some (some (.builtin "object.__class__")))
    (xmo3 : PySem.W.mroIn K C3 (.type "object") = some true)
    (xst : PySem.W.nsIn K cStatics "thirdparty.any" = some none)
    (kb0_NoneType : PySem.W.kitOne K (.type "NoneType") (.ref C0) = some false)
    (ko0_NoneType : PySem.W.kitOne K (.ref C0) (.type "NoneType") = some false)
    (kb0_bool : PySem.W.kitOne K (.type "bool") (.ref C0) = some false)
    (ko0_bool : PySem.W.kitOne K (.ref C0) (.type "bool") = some false)
    (kb0_int : PySem.W.kitOne K (.type "int") (.ref C0) = some false)
    (ko0_int : PySem.W.kitOne K (.ref C0) (.type "int") = some false)
    (kb0_str : PySem.W.kitOne K (.type "str") (.ref C0) = some false)
    (ko0_str : PySem.W.kitOne K (.ref C0) (.type "str") = some false)
    (kb0_tuple : PySem.W.kitOne K (.type "tuple") (.ref C0) = some false)
    (ko0_tuple : PySem.W.kitOne K (.ref C0) (.type "tuple") = some false)
    (kb0_list : PySem.W.kitOne K (.type "list") (.ref C0) = some false)
    (ko0_list : PySem.W.kitOne K (.ref C0) (.type "list") = some false)
    (kb0_dict : PySem.W.kitOne K (.type "dict") (.ref C0) = some false)
    (ko0_dict : PySem.W.kitOne K (.ref C0) (.type "dict") = some false)
    (kk2_BadRound : PySem.W.kitOne K (.ref C2) (.ref C2) = some true)
    (kk2_BadText : PySem.W.kitOne K (.ref C2) (.ref C3) = some false)
    (kk2_ValueError : PySem.W.kitOne K (.ref C2) (.type "ValueError") = some true)
    (ke2_1 : PySem.W.exmOne K (.ref C2) (.ref C1) = some true)
    (kk3_BadRound : PySem.W.kitOne K (.ref C3) (.ref C2) = some false)
    (kk3_BadText : PySem.W.kitOne K (.ref C3) (.ref C3) = some true)
    (kk3_ValueError : PySem.W.kitOne K (.ref C3) (.type "ValueError") = some true)
    (ke3_1 : PySem.W.exmOne K (.ref C3) (.ref C1) = some true)
    (td_law_is_read : K.lookup c_law_is_read = some ⟨tq1_law_is_read, tq3_law_is_read, .fields tvs_law_is_read, tq5_law_is_read⟩)
    (tv_law_is_read : (tvs_law_is_read[11]? : Option Value) = some (.ref p_law_is_read))
    (tl_law_is_read : (K.lookup p_law_is_read).isNone = true)
    (tr_law_is_read : ((recsOf qq).find? fun e => e.name == ("_law_is_read" : Str)).isSome = true)
    (tnd : ([p_law_is_read] : List Addr).Nodup)
    : ∃ (fd : FuncData) (L : Lk) (cs : List (Addr × Addr)), L.K = K ∧ L.lf = (cs.map (·.2), fun _ => none) ∧ Makers qq K ["_law_is_read"] cs ∧ (∀ p ∈ cs, K.lookup p.2 = none) ∧ (cs.map (·.2)).Nodup ∧ ([q_law_is_read] : List Str).length = cs.length ∧ (∀ (s : Shared) (u : Value), BindsTo s fd ⟨[u], []⟩ [("script", u)]) ∧ ∀ base : Heap, K.In base → base.Ns mainGlobals mg → (∀ p ∈ cs, LamX.TabB base mg p.1 p.2) → Df PySem.Challenge.pw_onlyscores_k16_texts_of_rounds w K mg base L 13 fa fd ["script"] d_law := by
  have e := hfa.symm.trans (PySem.W.mg_of X G a_law)
  have e2 : f_law = fa := by injection e with e; injection e with e; exact e.symm
  subst e2
  let L : Lk := { K := K, cA := fun c => ([C0, C1, C2, C3] : List Addr).getD c 0, fA := fun _ => 0, xf := fun c => (["", "", "place", "line"] : List Str).getD c "", xa := none, lf := ([p_law_is_read], fun _ => none) }
  have F_is_integer := fun_mk (st := s_is_integer) l_is_integer co_is_integer k_is_integer
  have b_is_integer := F_is_integer.binds (ps := ["thing"]) fun _ _ _ _ _ _ us hl => match us, hl with | [_], _ => rfl
  have F_is_below := fun_mk (st := s_is_below) l_is_below co_is_below k_is_below
  have b_is_below := F_is_below.binds (ps := ["thing", "many"]) fun _ _ _ _ _ _ us hl => match us, hl with | [_, _], _ => rfl
  have F_is_result := fun_mk (st := s_is_result) l_is_result co_is_result k_is_result
  have b_is_result := F_is_result.binds (ps := ["thing", "many"]) fun _ _ _ _ _ _ us hl => match us, hl with | [_, _], _ => rfl
  have F_first_bad := fun_mk (st := s_first_bad) l_first_bad co_first_bad k_first_bad
  have b_first_bad := F_first_bad.binds (ps := ["many", "told"]) fun _ _ _ _ _ _ us hl => match us, hl with | [_, _], _ => rfl
  have F_Round_init := fun_mk (st := s_Round_init) l_Round_init co_Round_init k_Round_init
  have b_Round_init := F_Round_init.binds (ps := ["self", "many", "told"]) fun _ _ _ _ _ _ us hl => match us, hl with | [_, _, _], _ => rfl
  have F_Round_eq := fun_mk (st := s_Round_eq) l_Round_eq co_Round_eq k_Round_eq
  have b_Round_eq := F_Round_eq.binds (ps := ["self", "other"]) fun _ _ _ _ _ _ us hl => match us, hl with | [_, _], _ => rfl
  have F_round_text := fun_mk (st := s_round_text) l_round_text co_round_text k_round_text
  have b_round_text := F_round_text.binds (ps := ["known"]) fun _ _ _ _ _ _ us hl => match us, hl with | [_], _ => rfl
  have F_number_of := fun_mk (st := s_number_of) l_number_of co_number_of k_number_of
  have b_number_of := F_number_of.binds (ps := ["word", "most"]) fun _ _ _ _ _ _ us hl => match us, hl with | [_, _], _ => rfl
  have F_numbers_of := fun_mk (st := s_numbers_of) l_numbers_of co_numbers_of k_numbers_of
  have b_numbers_of := F_numbers_of.binds (ps := ["line", "many"]) fun _ _ _ _ _ _ us hl => match us, hl with | [_, _], _ => rfl
  have F_read_round := fun_mk (st := s_read_round) l_read_round co_read_round k_read_round
  have b_read_round := F_read_round.binds (ps := ["text"]) fun _ _ _ _ _ _ us hl => match us, hl with | [_], _ => rfl
  have F_law_hand := fun_mk (st := s_law_hand) l_law_hand co_law_hand k_law_hand
  have b_law_hand := F_law_hand.binds (ps := ["script"]) fun _ _ _ _ _ _ us hl => match us, hl with | [_], _ => rfl
  have F_law_draw := fun_mk (st := s_law_draw) l_law_draw co_law_draw k_law_draw
  have b_law_draw := F_law_draw.binds (ps := ["hand", "below"]) fun _ _ _ _ _ _ us hl => match us, hl with | [_, _], _ => rfl
  have F_law_any := fun_mk (st := s_law_any) l_law_any co_law_any k_law_any
  have b_law_any := F_law_any.binds (ps := ["hand", "some"]) fun _ _ _ _ _ _ us hl => match us, hl with | [_, _], _ => rfl
  have F_law_some_round := fun_mk (st := s_law_some_round) l_law_some_round co_law_some_round k_law_some_round
  have b_law_some_round := F_law_some_round.binds (ps := ["hand"]) fun _ _ _ _ _ _ us hl => match us, hl with | [_], _ => rfl
  have F_law_text := fun_mk (st := s_law_text) l_law_text co_law_text k_law_text
  have b_law_text := F_law_text.binds (ps := ["many", "pairs"]) fun _ _ _ _ _ _ us hl => match us, hl with | [_, _], _ => rfl
  have F_law_number := fun_mk (st := s_law_number) l_law_number co_law_number k_law_number
  have b_law_number := F_law_number.binds (ps := ["word"]) fun _ _ _ _ _ _ us hl => match us, hl with | [_], _ => rfl
  have F_law_numbers := fun_mk (st := s_law_numbers) l_law_numbers co_law_numbers k_law_numbers
  have b_law_numbers := F_law_numbers.binds (ps := ["row", "size"]) fun _ _ _ _ _ _ us hl => match us, hl with | [_, _], _ => rfl
  have F_law_bad_place := fun_mk (st := s_law_bad_place) l_law_bad_place co_law_bad_place k_law_bad_place
  have b_law_bad_place := F_law_bad_place.binds (ps := ["many", "pairs"]) fun _ _ _ _ _ _ us hl => match us, hl with | [_, _], _ => rfl
  have F_law_read := fun_mk (st := s_law_read) l_law_read co_law_read k_law_read
  have b_law_read := F_law_read.binds (ps := ["text"]) fun _ _ _ _ _ _ us hl => match us, hl with | [_], _ => rfl
  have F_law_said := fun_mk (st := s_law_said) l_law_said co_law_said k_law_said
  have b_law_said := F_law_said.binds (ps := ["call"]) fun _ _ _ _ _ _ us hl => match us, hl with | [_], _ => rfl
  have F_law_is_read := fun_mk (st := s_law_is_read) l_law_is_read co_law_is_read k_law_is_read
  have b_law_is_read := F_law_is_read.binds (ps := ["text"]) fun _ _ _ _ _ _ us hl => match us, hl with | [_], _ => rfl
  have F_law_bent := fun_mk (st := s_law_bent) l_law_bent co_law_bent k_law_bent
  have b_law_bent := F_law_bent.binds (ps := ["hand", "text"]) fun _ _ _ _ _ _ us hl => match us, hl with | [_, _], _ => rfl
  have F_law_edges := fun_mk (st := s_law_edges) l_law_edges co_law_edges k_law_edges
  have b_law_edges := F_law_edges.binds (ps := []) fun _ _ _ _ _ _ us hl => match us, hl with | [], _ => rfl
  have F_law := fun_mk (st := s_law) l_law co_law k_law
  have b_law := F_law.binds (ps := ["script"]) fun _ _ _ _ _ _ us hl => match us, hl with | [_], _ => rfl
  let A : Ad := { f_is_integer := f_is_integer, fd_is_integer := PySem.W.fnOf "is_integer" "is_integer" (defArgs s_is_integer) (defBody s_is_integer) (defScope s_is_integer) .none kV_is_integer dc_is_integer pm_is_integer an_is_integer cd_is_integer ct_is_integer, f_is_below := f_is_below, fd_is_below := PySem.W.fnOf "is_below" "is_below" (defArgs s_is_below) (defBody s_is_below) (defScope s_is_below) .none kV_is_below dc_is_below pm_is_below an_is_below cd_is_below ct_is_below, f_is_result := f_is_result, fd_is_result := PySem.W.fnOf "is_result" "is_result" (defArgs s_is_result) (defBody s_is_result) (defScope s_is_result) .none kV_is_result dc_is_result pm_is_result an_is_result cd_is_result ct_is_result, f_first_bad := f_first_bad, fd_first_bad := PySem.W.fnOf "first_bad" "first_bad" (defArgs s_first_bad) (defBody s_first_bad) (defScope s_first_bad) .none kV_first_bad dc_first_bad pm_first_bad an_first_bad cd_first_bad ct_first_bad, f_Round_init := f_Round_init, fd_Round_init := PySem.W.fnOf "__init__" "Round.__init__" (defArgs s_Round_init) (defBody s_Round_init) (defScope s_Round_init) .none kV_Round_init dc_Round_init pm_Round_init an_Round_init cd_Round_init ct_Round_init, f_Round_eq := f_Round_eq, fd_Round_eq := PySem.W.fnOf "__eq__" "Round.__eq__" (defArgs s_Round_eq) (defBody s_Round_eq) (defScope s_Round_eq) .none kV_Round_eq dc_Round_eq pm_Round_eq an_Round_eq cd_Round_eq ct_Round_eq, f_round_text := f_round_text, fd_round_text := PySem.W.fnOf "round_text" "round_text" (defArgs s_round_text) (defBody s_round_text) (defScope s_round_text) .none kV_round_text dc_round_text pm_round_text an_round_text cd_round_text ct_round_text, f_number_of := f_number_of, fd_number_of := PySem.W.fnOf "number_of" "number_of" (defArgs s_number_of) (defBody s_number_of) (defScope s_number_of) .none kV_number_of dc_number_of pm_number_of an_number_of cd_number_of ct_number_of, f_numbers_of := f_numbers_of, fd_numbers_of := PySem.W.fnOf "numbers_of" "numbers_of" (defArgs s_numbers_of) (defBody s_numbers_of) (defScope s_numbers_of) .none kV_numbers_of dc_numbers_of pm_numbers_of an_numbers_of cd_numbers_of ct_numbers_of, f_read_round := f_read_round, fd_read_round := PySem.W.fnOf "read_round" "read_round" (defArgs s_read_round) (defBody s_read_round) (defScope s_read_round) .none kV_read_round dc_read_round pm_read_round an_read_round cd_read_round ct_read_round, f_law_hand := f_law_hand, fd_law_hand := PySem.W.fnOf "_law_hand" "_law_hand" (defArgs s_law_hand) (defBody s_law_hand) (defScope s_law_hand) .none kV_law_hand dc_law_hand pm_law_hand an_law_hand cd_law_hand ct_law_hand, f_law_draw := f_law_draw, fd_law_draw := PySem.W.fnOf "_law_draw" "_law_draw" (defArgs s_law_draw) (defBody s_law_draw) (defScope s_law_draw) .none kV_law_draw dc_law_draw pm_law_draw an_law_draw cd_law_draw ct_law_draw, f_law_any := f_law_any, fd_law_any := PySem.W.fnOf "_law_any" "_law_any" (defArgs s_law_any) (defBody s_law_any) (defScope s_law_any) .none kV_law_any dc_law_any pm_law_any an_law_any cd_law_any ct_law_any, f_law_some_round := f_law_some_round, fd_law_some_round := PySem.W.fnOf "_law_some_round" "_law_some_round" (defArgs s_law_some_round) (defBody s_law_some_round) (defScope s_law_some_round) .none kV_law_some_round dc_law_some_round pm_law_some_round an_law_some_round cd_law_some_round ct_law_some_round, f_law_text := f_law_text, fd_law_text := PySem.W.fnOf "_law_text" "_law_text" (defArgs s_law_text) (defBody s_law_text) (defScope s_law_text) .none kV_law_text dc_law_text pm_law_text an_law_text cd_law_text ct_law_text, f_law_number := f_law_number, fd_law_number := PySem.W.fnOf "_law_number" "_law_number" (defArgs s_law_number) (defBody s_law_number) (defScope s_law_number) .none kV_law_number dc_law_number pm_law_number an_law_number cd_law_number ct_law_number, f_law_numbers := f_law_numbers, fd_law_numbers := PySem.W.fnOf "_law_numbers" "_law_numbers" (defArgs s_law_numbers) (defBody s_law_numbers) (defScope s_law_numbers) .none kV_law_numbers dc_law_numbers pm_law_numbers an_law_numbers cd_law_numbers ct_law_numbers, f_law_bad_place := f_law_bad_place, fd_law_bad_place := PySem.W.fnOf "_law_bad_place" "_law_bad_place" (defArgs s_law_bad_place) (defBody s_law_bad_place) (defScope s_law_bad_place) .none kV_law_bad_place dc_law_bad_place pm_law_bad_place an_law_bad_place cd_law_bad_place ct_law_bad_place, f_law_read := f_law_read, fd_law_read := PySem.W.fnOf "_law_read" "_law_read" (defArgs s_law_read) (defBody s_law_read) (defScope s_law_read) .none kV_law_read dc_law_read pm_law_read an_law_read cd_law_read ct_law_read, f_law_said := f_law_said, fd_law_said := PySem.W.fnOf "_law_said" "_law_said" (defArgs s_law_said) (defBody s_law_said) (defScope s_law_said) .none kV_law_said dc_law_said pm_law_said an_law_said cd_law_said ct_law_said, f_law_is_read := f_law_is_read, fd_law_is_read := PySem.W.fnOf "_law_is_read" "_law_is_read" (defArgs s_law_is_read) (defBody s_law_is_read) (defScope s_law_is_read) .none kV_law_is_read dc_law_is_read pm_law_is_read an_law_is_read (.ref c_law_is_read) ct_law_is_read, f_law_bent := f_law_bent, fd_law_bent := PySem.W.fnOf "_law_bent" "_law_bent" (defArgs s_law_bent) (defBody s_law_bent) (defScope s_law_bent) .none kV_law_bent dc_law_bent pm_law_bent an_law_bent cd_law_bent ct_law_bent, f_law_edges := f_law_edges, fd_law_edges := PySem.W.fnOf "_law_edges" "_law_edges" (defArgs s_law_edges) (defBody s_law_edges) (defScope s_law_edges) .none kV_law_edges dc_law_edges pm_law_edges an_law_edges cd_law_edges ct_law_edges, f_law := f_law, fd_law := PySem.W.fnOf "law" "law" (defArgs s_law) (defBody s_law) (defScope s_law) .none kV_law dc_law pm_law an_law cd_law ct_law, f_BadRound := f_BadRound, fd_BadRound := PySem.W.ksFn "__init__" "BadRound.__init__" (defArgs (inClass (top 2) 0)) (defBody (inClass (top 2) 0)) (defScope (inClass (top 2) 0)) .none kV_BadRound dc_BadRound pm_BadRound an_BadRound (.ref cda_BadRound) ct_BadRound cc_BadRound, f_BadText := f_BadText, fd_BadText := PySem.W.ksFn "__init__" "BadText.__init__" (defArgs (inClass (top 3) 0)) (defBody (inClass (top 3) 0)) (defScope (inClass (top 3) 0)) .none kV_BadText dc_BadText pm_BadText an_BadText (.ref cda_BadText) ct_BadText cc_BadText, c_law_is_read := c_law_is_read, p_law_is_read := p_law_is_read }
  have tn_law_is_read := Option.isNone_iff_eq_none.mp tl_law_is_read
  have ta_law_is_read := tabIn_of a_law_is_read l_law_is_read rfl td_law_is_read tv_law_is_read
  refine ⟨PySem.W.fnOf "law" "law" (defArgs s_law) (defBody s_law) (defScope s_law) .none kV_law dc_law pm_law an_law cd_law ct_law, L, [(c_law_is_read, p_law_is_read)], rfl, rfl, ⟨rfl, fun p hp => ?mk1⟩, fun p hp => ?mk2, tnd, rfl, fun s u => .of_eq rfl, fun base kb _ hTB => ?mk3⟩
  case mk1 =>
    simp only [List.zip_cons_cons, List.zip_nil_right, List.zip_nil_left, List.mem_cons, List.mem_nil_iff, or_false, List.not_mem_nil] at hp
    rcases hp with rfl
    · exact ⟨ta_law_is_read, tr_law_is_read⟩
  case mk2 =>
    simp only [List.mem_cons, List.mem_nil_iff, or_false, List.not_mem_nil] at hp
    rcases hp with rfl
    · exact tn_law_is_read
  have T : Tab PySem.Challenge.pw_onlyscores_k16_texts_of_rounds w K mg base L A := by
    constructor
    · rfl
    · exact kb
    · rfl
    · refine ⟨fun c hc => ?_, fun c c' hc hc' => ?_, fun t ht c hc => ?_, fun c hc t ht => ?_⟩
      · obtain rfl : c = 0 := by omega
        exact ⟨⟨pg0, hd0, po0, sa0⟩, ha0, sn, st, mo0⟩
      · obtain rfl : c = 0 := by omega
        obtain rfl : c' = 0 := by omega
        show PySem.W.kitOne K (.ref C0) (.ref C0) = _
        unfold PySem.W.kitOne
        rw [if_pos (beq_self_eq_true _)]
        rfl
      · obtain rfl : c = 0 := by omega
        simp only [bnames, List.mem_cons, List.mem_nil_iff, or_false, List.not_mem_nil] at ht
        rcases ht with rfl | rfl | rfl | rfl | rfl | rfl | rfl
        · exact kb0_NoneType
        · exact kb0_bool
        · exact kb0_int
        · exact kb0_str
        · exact kb0_tuple
        · exact kb0_list
        · exact kb0_dict
      · obtain rfl : c = 0 := by omega
        simp only [bnames, List.mem_cons, List.mem_nil_iff, or_false, List.not_mem_nil] at ht
        rcases ht with rfl | rfl | rfl | rfl | rfl | rfl | rfl
        · exact ko0_NoneType
        · exact ko0_bool
        · exact ko0_int
        · exact ko0_str
        · exact ko0_tuple
        · exact ko0_list
        · exact ko0_dict
    · refine ⟨fun c hc f hf => ?_⟩
      obtain rfl : c = 0 := by omega
      simp only [fls, List.mem_cons, List.mem_nil_iff, or_false, List.not_mem_nil] at hf
      rcases hf with rfl | rfl
      · exact no0_many
      · exact no0_told
    · intro x hx
      simp only [List.mem_cons, List.mem_nil_iff, or_false, List.not_mem_nil] at hx
      rcases hx with rfl | rfl | rfl | rfl | rfl | rfl | rfl | rfl | rfl | rfl | rfl | rfl | rfl | rfl | rfl | rfl
      · exact PySem.W.mg_none_of X G n_ValueError
      · exact PySem.W.mg_none_of X G n_abs
      · exact PySem.W.mg_none_of X G n_all
      · exact PySem.W.mg_none_of X G n_bool
      · exact PySem.W.mg_none_of X G n_enumerate
      · exact PySem.W.mg_none_of X G n_int
      · exact PySem.W.mg_none_of X G n_isinstance
      · exact PySem.W.mg_none_of X G n_len
      · exact PySem.W.mg_none_of X G n_list
      · exact PySem.W.mg_none_of X G n_max
      · exact PySem.W.mg_none_of X G n_range
      · exact PySem.W.mg_none_of X G n_repr
      · exact PySem.W.mg_none_of X G n_sorted
      · exact PySem.W.mg_none_of X G n_str
      · exact PySem.W.mg_none_of X G n_super
      · exact PySem.W.mg_none_of X G n_tuple
    · exact ⟨_, PySem.W.mg_of X G v_MOST⟩
    · exact ⟨_, PySem.W.mg_of X G v_MOST_FIGURES⟩
    · exact ⟨_, PySem.W.mg_of X G v_FIGURES⟩
    · exact F_is_integer
    · exact ⟨PySem.W.mg_of X G a_is_integer, k_is_integer, b_is_integer⟩
    · exact F_is_below
    · exact ⟨PySem.W.mg_of X G a_is_below, k_is_below, b_is_below⟩
    · exact F_is_result
    · exact ⟨PySem.W.mg_of X G a_is_result, k_is_result, b_is_result⟩
    · exact F_first_bad
    · exact ⟨PySem.W.mg_of X G a_first_bad, k_first_bad, b_first_bad⟩
    · exact F_Round_init
    · exact ⟨PySem.W.mg_of X G aC0, ⟨mk0, a_Round_init, i_Round_init, kc0⟩, b_Round_init⟩
    · exact F_Round_eq
    · refine ⟨a_Round_eq, i_Round_eq, ne0, mo0, fun t ht => ?_, fun c hc => ?_⟩
      · simp only [bnames, List.mem_cons, List.mem_nil_iff, or_false, List.not_mem_nil] at ht
        rcases ht with rfl | rfl | rfl | rfl | rfl | rfl | rfl
        · exact nf0_NoneType
        · exact nf0_bool
        · exact nf0_int
        · exact nf0_str
        · exact nf0_tuple
        · exact nf0_list
        · exact nf0_dict
      · obtain rfl : c = 0 := by omega
        show PySem.W.notFirst K C0 (.ref C0) = true
        simp [PySem.W.notFirst]
    · exact b_Round_eq
    · exact F_round_text
    · exact ⟨PySem.W.mg_of X G a_round_text, k_round_text, b_round_text⟩
    · exact F_number_of
    · exact ⟨PySem.W.mg_of X G a_number_of, k_number_of, b_number_of⟩
    · exact F_numbers_of
    · exact ⟨PySem.W.mg_of X G a_numbers_of, k_numbers_of, b_numbers_of⟩
    · exact F_read_round
    · exact ⟨PySem.W.mg_of X G a_read_round, k_read_round, b_read_round⟩
    · exact F_law_hand
    · exact ⟨PySem.W.mg_of X G a_law_hand, k_law_hand, b_law_hand⟩
    · exact F_law_draw
    · exact ⟨PySem.W.mg_of X G a_law_draw, k_law_draw, b_law_draw⟩
    · exact F_law_any
    · exact ⟨PySem.W.mg_of X G a_law_any, k_law_any, b_law_any⟩
    · exact F_law_some_round
    · exact ⟨PySem.W.mg_of X G a_law_some_round, k_law_some_round, b_law_some_round⟩
    · exact F_law_text
    · exact ⟨PySem.W.mg_of X G a_law_text, k_law_text, b_law_text⟩
    · exact F_law_number
    · exact ⟨PySem.W.mg_of X G a_law_number, k_law_number, b_law_number⟩
    · exact F_law_numbers
    · exact ⟨PySem.W.mg_of X G a_law_numbers, k_law_numbers, b_law_numbers⟩
    · exact F_law_bad_place
    · exact ⟨PySem.W.mg_of X G a_law_bad_place, k_law_bad_place, b_law_bad_place⟩
    · exact F_law_read
    · exact ⟨PySem.W.mg_of X G a_law_read, k_law_read, b_law_read⟩
    · exact F_law_said
    · exact ⟨PySem.W.mg_of X G a_law_said, k_law_said, b_law_said⟩
    · exact F_law_is_read
    · exact ⟨PySem.W.mg_of X G a_law_is_read, k_law_is_read, b_law_is_read⟩
    · exact F_law_bent
    · exact ⟨PySem.W.mg_of X G a_law_bent, k_law_bent, b_law_bent⟩
    · exact F_law_edges
    · exact ⟨PySem.W.mg_of X G a_law_edges, k_law_edges, b_law_edges⟩
    · exact F_law
    · exact ⟨PySem.W.mg_of X G a_law, k_law, b_law⟩
    · exact PySem.W.mg_of X G aC1
    · exact PySem.W.mg_of X G aC2
    · exact PySem.W.mg_of X G aC3
    · exact PySem.W.mg_of X G aC0
    · refine ⟨⟨⟨⟨_, _, _, _, _, _, _, _, _, _, _, _, _, _, _, xl2, xb2⟩, xs2, xe2, xt2, xk2⟩, ⟨_, _, _, xf2⟩, ⟨_, _, _, _, _, _, _, _, _, _, _, _, _, _, _, _, _, _, _, _, _, _, _, _, _, _, _, _, _, _, _, _, _, rfl, xc2, xd2, xv2, xm2, xz2, xw2, xa2, rfl, rfl, rfl, rfl, rfl, by decide +kernel, by decide +kernel, by decide +kernel, by decide +kernel, by decide +kernel, fun _ => rfl, fun _ => rfl, _, fun _ => rfl⟩, xr2, xu2, PySem.W.mg_none_of X G n_super, xst, by decide +kernel, xn2, by decide +kernel, by decide +kernel, by decide +kernel⟩, xi2, xy2, ?_, PySem.W.mg_of X G aC2⟩
      exact .all fun us hl => match us, hl with | [_, _], _ => rfl
    · refine ⟨⟨⟨⟨_, _, _, _, _, _, _, _, _, _, _, _, _, _, _, xl3, xb3⟩, xs3, xe3, xt3, xk3⟩, ⟨_, _, _, xf3⟩, ⟨_, _, _, _, _, _, _, _, _, _, _, _, _, _, _, _, _, _, _, _, _, _, _, _, _, _, _, _, _, _, _, _, _, rfl, xc3, xd3, xv3, xm3, xz3, xw3, xa3, rfl, rfl, rfl, rfl, rfl, by decide +kernel, by decide +kernel, by decide +kernel, by decide +kernel, by decide +kernel, fun _ => rfl, fun _ => rfl, _, fun _ => rfl⟩, xr3, xu3, PySem.W.mg_none_of X G n_super, xst, by decide +kernel, xn3, by decide +kernel, by decide +kernel, by decide +kernel⟩, xi3, xy3, ?_, PySem.W.mg_of X G aC3⟩
      exact .all fun us hl => match us, hl with | [_, _], _ => rfl
    · intro c hc
      simp only [okX, List.contains_cons, List.contains_nil, Bool.or_false, Bool.or_eq_true, beq_iff_eq] at hc
      rcases hc with rfl | rfl
      · exact ⟨⟨xg2, xh2, xe2, xhd2, xca2, sn, st, xmo2⟩, kk2_BadRound⟩
      · exact ⟨⟨xg3, xh3, xe3, xhd3, xca3, sn, st, xmo3⟩, kk3_BadRound⟩
    · intro c hc
      simp only [okX, List.contains_cons, List.contains_nil, Bool.or_false, Bool.or_eq_true, beq_iff_eq] at hc
      rcases hc with rfl | rfl
      · exact ⟨⟨xg2, xh2, xe2, xhd2, xca2, sn, st, xmo2⟩, kk2_BadText⟩
      · exact ⟨⟨xg3, xh3, xe3, xhd3, xca3, sn, st, xmo3⟩, kk3_BadText⟩
    · intro c hc
      simp only [okX, List.contains_cons, List.contains_nil, Bool.or_false, Bool.or_eq_true, beq_iff_eq] at hc
      rcases hc with rfl | rfl
      · exact ⟨⟨xg2, xh2, xe2, xhd2, xca2, sn, st, xmo2⟩, kk2_ValueError⟩
      · exact ⟨⟨xg3, xh3, xe3, xhd3, xca3, sn, st, xmo3⟩, kk3_ValueError⟩
    · intro c hc
      simp only [okX, List.contains_cons, List.contains_nil, Bool.or_false, Bool.or_eq_true, beq_iff_eq] at hc
      rcases hc with rfl | rfl
      · exact ke2_1
      · exact ke3_1
    · intro c hc
      simp only [ok_line, List.contains_cons, List.contains_nil, Bool.or_false, Bool.or_eq_true, beq_iff_eq] at hc
      rcases hc with rfl
      · exact ⟨⟨xg3, xh3, xe3, xhd3⟩, xn3, rfl⟩
    · intro c hc
      simp only [ok_place, List.contains_cons, List.contains_nil, Bool.or_false, Bool.or_eq_true, beq_iff_eq] at hc
      rcases hc with rfl
      · exact ⟨⟨xg2, xh2, xe2, xhd2⟩, xn2, rfl⟩
    · exact hTB (c_law_is_read, p_law_is_read) (by simp)
    · rfl
    · exact (rfl : ([p_law_is_read] : List Addr)[0]? = some p_law_is_read)
  exact df_law T
end Wk
open PySem PySem.W PyProof.Rows
set_option maxRecDepth 100000 in
set_option maxHeartbeats 0 in
theorem PySem.Challenge.cw_onlyscores_k16_texts_of_rounds_holds : PySem.Challenge.rw_onlyscores_k16_texts_of_rounds.Holds := by
  w_on; o_law; k_head; (case hw => w_witness2)
  k_fill
  refine Eng.walk_ofGT (xs := ["_law_is_read"]) (qs := [Wk.q_law_is_read]) (l := PySem.Challenge.rw_onlyscores_k16_texts_of_rounds) (n := 63) (k := 13) (x := "script") (g := Wk.d_law) rfl (by decide) rfl ⟨rfl, by decide, by decide⟩ (fun w h Y => PySem.W.km_in_of Y) ?F Wk.plain
  case F =>
    intro w mg fa h KX G hmg
    refine' Wk.all_mk KX G hmg ?aC0 ?aC1 ?aC2 ?aC3 ?a_is_integer ?l_is_integer ?co_is_integer ?k_is_integer ?a_is_below ?l_is_below ?co_is_below ?k_is_below ?a_is_result ?l_is_result ?co_is_result ?k_is_result ?a_first_bad ?l_first_bad ?co_first_bad ?k_first_bad ?a_Round_init ?i_Round_init ?l_Round_init ?co_Round_init ?k_Round_init ?a_Round_eq ?i_Round_eq ?l_Round_eq ?co_Round_eq ?k_Round_eq ?a_round_text ?l_round_text ?co_round_text ?k_round_text ?a_number_of ?l_number_of ?co_number_of ?k_number_of ?a_numbers_of ?l_numbers_of ?co_numbers_of ?k_numbers_of ?a_read_round ?l_read_round ?co_read_round ?k_read_round ?a_law_hand ?l_law_hand ?co_law_hand ?k_law_hand ?a_law_draw ?l_law_draw ?co_law_draw ?k_law_draw ?a_law_any ?l_law_any ?co_law_any ?k_law_any ?a_law_some_round ?l_law_some_round ?co_law_some_round ?k_law_some_round ?a_law_text ?l_law_text ?co_law_text ?k_law_text ?a_law_number ?l_law_number ?co_law_number ?k_law_number ?a_law_numbers ?l_law_numbers ?co_law_numbers ?k_law_numbers ?a_law_bad_place ?l_law_bad_place ?co_law_bad_place ?k_law_bad_place ?a_law_read ?l_law_read ?co_law_read ?k_law_read ?a_law_said ?l_law_said ?co_law_said ?k_law_said ?a_law_is_read ?l_law_is_read ?co_law_is_read ?k_law_is_read ?a_law_bent ?l_law_bent ?co_law_bent ?k_law_bent ?a_law_edges ?l_law_edges ?co_law_edges ?k_law_edges ?a_law ?l_law ?co_law ?k_law ?sn ?st ?pg0 ?hd0 ?po0 ?sa0 ?ha0 ?mo0 ?mk0 ?kc0 ?no0_many ?no0_told ?ne0 ?nf0_NoneType ?nf0_bool ?nf0_int ?nf0_str ?nf0_tuple ?nf0_list ?nf0_dict ?n_ValueError ?n_abs ?n_all ?n_bool ?n_enumerate ?n_int ?n_isinstance ?n_len ?n_list ?n_max ?n_range ?n_repr ?n_sorted ?n_str ?n_super ?n_tuple ?v_MOST ?v_MOST_FIGURES ?v_FIGURES ?xl2 ?xb2 ?xs2 ?xe2 ?xt2 ?xk2 ?xi2 ?xy2 ?xf2 ?xc2 ?xd2 ?xv2 ?xm2 ?xz2 ?xw2 ?xa2 ?xr2 ?xu2 ?xn2 ?xg2 ?xh2 ?xhd2 ?xca2 ?xmo2 ?xl3 ?xb3 ?xs3 ?xe3 ?xt3 ?xk3 ?xi3 ?xy3 ?xf3 ?xc3 ?xd3 ?xv3 ?xm3 ?xz3 ?xw3 ?xa3 ?xr3 ?xu3 ?xn3 ?xg3 ?xh3 ?xhd3 ?xca3 ?xmo3 ?xst ?kb0_NoneType ?ko0_NoneType ?kb0_bool ?ko0_bool ?kb0_int ?ko0_int ?kb0_str ?ko0_str ?kb0_tuple ?ko0_tuple ?kb0_list ?ko0_list ?kb0_dict ?ko0_dict ?kk2_BadRound ?kk2_BadText ?kk2_ValueError ?ke2_1 ?kk3_BadRound ?kk3_BadText ?kk3_ValueError ?ke3_1 ?td_law_is_read ?tv_law_is_read ?tl_law_is_read ?tr_law_is_read ?tnd
    (case aC0 => k_is)
    (case aC1 => k_is)
    (case aC2 => k_is)
    (case aC3 => k_is)
    (case a_is_integer => k_is)
    (case l_is_integer => k_is)
    (case co_is_integer => k_is)
    (case k_is_integer => k_is)
    (case a_is_below => k_is)
    (case l_is_below => k_is)
    (case co_is_below => k_is)
    (case k_is_below => k_is)
    (case a_is_result => k_is)
    (case l_is_result => k_is)
    (case co_is_result => k_is)
    (case k_is_result => k_is)
    (case a_first_bad => k_is)
    (case l_first_bad => k_is)
    (case co_first_bad => k_is)
    (case k_first_bad => k_is)
    (case a_Round_init => k_is)
    (case i_Round_init => k_is)
    (case l_Round_init => k_is)
    (case co_Round_init => k_is)
    (case k_Round_init => k_is)
    (case a_Round_eq => k_is)
    (case i_Round_eq => k_is)
    (case l_Round_eq => k_is)
    (case co_Round_eq => k_is)
    (case k_Round_eq => k_is)
    (case a_round_text => k_is)
    (case l_round_text => k_is)
    (case co_round_text => k_is)
    (case k_round_text => k_is)
    (case a_number_of => k_is)
    (case l_number_of => k_is)
    (case co_number_of => k_is)
    (case k_number_of => k_is)
    (case a_numbers_of => k_is)
    (case l_numbers_of => k_is)
    (case co_numbers_of => k_is)
    (case k_numbers_of => k_is)
    (case a_read_round => k_is)
    (case l_read_round => k_is)
    (case co_read_round => k_is)
    (case k_read_round => k_is)
    (case a_law_hand => k_is)
    (case l_law_hand => k_is)
    (case co_law_hand => k_is)
    (case k_law_hand => k_is)
    (case a_law_draw => k_is)
    (case l_law_draw => k_is)
    (case co_law_draw => k_is)
    (case k_law_draw => k_is)
    (case a_law_any => k_is)
    (case l_law_any => k_is)
    (case co_law_any => k_is)
    (case k_law_any => k_is)
    (case a_law_some_round => k_is)
    (case l_law_some_round => k_is)
    (case co_law_some_round => k_is)
    (case k_law_some_round => k_is)
    (case a_law_text => k_is)
    (case l_law_text => k_is)
    (case co_law_text => k_is)
    (case k_law_text => k_is)
    (case a_law_number => k_is)
    (case l_law_number => k_is)
    (case co_law_number => k_is)
    (case k_law_number => k_is)
    (case a_law_numbers => k_is)
    (case l_law_numbers => k_is)
    (case co_law_numbers => k_is)
    (case k_law_numbers => k_is)
    (case a_law_bad_place => k_is)
    (case l_law_bad_place => k_is)
    (case co_law_bad_place => k_is)
    (case k_law_bad_place => k_is)
    (case a_law_read => k_is)
    (case l_law_read => k_is)
    (case co_law_read => k_is)
    (case k_law_read => k_is)
    (case a_law_said => k_is)
    (case l_law_said => k_is)
    (case co_law_said => k_is)
    (case k_law_said => k_is)
    (case a_law_is_read => k_is)
    (case l_law_is_read => k_is)
    (case co_law_is_read => k_is)
    (case k_law_is_read => k_is)
    (case a_law_bent => k_is)
    (case l_law_bent => k_is)
    (case co_law_bent => k_is)
    (case k_law_bent => k_is)
    (case a_law_edges => k_is)
    (case l_law_edges => k_is)
    (case co_law_edges => k_is)
    (case k_law_edges => k_is)
    (case a_law => k_is)
    (case l_law => k_is)
    (case co_law => k_is)
    (case k_law => k_is)
    (case sn => k_is)
    (case st => k_is)
    (case pg0 => k_is)
    (case hd0 => k_is)
    (case po0 => k_is)
    (case sa0 => k_is)
    (case ha0 => k_is)
    (case mo0 => k_is)
    (case mk0 => k_is)
    (case kc0 => k_is)
    (case no0_many => k_is)
    (case no0_told => k_is)
    (case ne0 => k_is)
    (case nf0_NoneType => k_is)
    (case nf0_bool => k_is)
    (case nf0_int => k_is)
    (case nf0_str => k_is)
    (case nf0_tuple => k_is)
    (case nf0_list => k_is)
    (case nf0_dict => k_is)
    (case n_ValueError => k_is)
    (case n_abs => k_is)
    (case n_all => k_is)
    (case n_bool => k_is)
    (case n_enumerate => k_is)
    (case n_int => k_is)
    (case n_isinstance => k_is)
    (case n_len => k_is)
    (case n_list => k_is)
    (case n_max => k_is)
    (case n_range => k_is)
    (case n_repr => k_is)
    (case n_sorted => k_is)
    (case n_str => k_is)
    (case n_super => k_is)
    (case n_tuple => k_is)
    (case v_MOST => k_is)
    (case v_MOST_FIGURES => k_is)
    (case v_FIGURES => k_is)
    (case xl2 => k_is)
    (case xb2 => first | rfl | kernel_rfl | decide +kernel)
    (case xs2 => k_is)
    (case xe2 => k_is)
    (case xt2 => k_is)
    (case xk2 => k_is)
    (case xi2 => k_is)
    (case xy2 => k_is)
    (case xf2 => k_is)
    (case xc2 => k_is)
    (case xd2 => k_is)
    (case xv2 => first | rfl | kernel_rfl | decide +kernel)
    (case xm2 => first | rfl | kernel_rfl | decide +kernel)
    (case xz2 => k_is)
    (case xw2 => k_is)
    (case xa2 => first | rfl | kernel_rfl | decide +kernel)
    (case xr2 => k_is)
    (case xu2 => k_is)
    (case xn2 => k_is)
    (case xg2 => k_is)
    (case xh2 => k_is)
    (case xhd2 => k_is)
    (case xca2 => k_is)
    (case xmo2 => k_is)
    (case xl3 => k_is)
    (case xb3 => first | rfl | kernel_rfl | decide +kernel)
    (case xs3 => k_is)
    (case xe3 => k_is)
    (case xt3 => k_is)
    (case xk3 => k_is)
    (case xi3 => k_is)
    (case xy3 => k_is)
    (case xf3 => k_is)
    (case xc3 => k_is)
    (case xd3 => k_is)
    (case xv3 => first | rfl | kernel_rfl | decide +kernel)
    (case xm3 => first | rfl | kernel_rfl | decide +kernel)
    (case xz3 => k_is)
    (case xw3 => k_is)
    (case xa3 => first | rfl | kernel_rfl | decide +kernel)
    (case xr3 => k_is)
    (case xu3 => k_is)
    (case xn3 => k_is)
    (case xg3 => k_is)
    (case xh3 => k_is)
    (case xhd3 => k_is)
    (case xca3 => k_is)
    (case xmo3 => k_is)
    (case xst => k_is)
    (case kb0_NoneType => first | rfl | kernel_rfl | decide +kernel)
    (case ko0_NoneType => first | rfl | kernel_rfl | decide +kernel)
    (case kb0_bool => first | rfl | kernel_rfl | decide +kernel)
    (case ko0_bool => first | rfl | kernel_rfl | decide +kernel)
    (case kb0_int => first | rfl | kernel_rfl | decide +kernel)
    (case ko0_int => first | rfl | kernel_rfl | decide +kernel)
    (case kb0_str => first | rfl | kernel_rfl | decide +kernel)
    (case ko0_str => first | rfl | kernel_rfl | decide +kernel)
    (case kb0_tuple => first | rfl | kernel_rfl | decide +kernel)
    (case ko0_tuple => first | rfl | kernel_rfl | decide +kernel)
    (case kb0_list => first | rfl | kernel_rfl | decide +kernel)
    (case ko0_list => first | rfl | kernel_rfl | decide +kernel)
    (case kb0_dict => first | rfl | kernel_rfl | decide +kernel)
    (case ko0_dict => first | rfl | kernel_rfl | decide +kernel)
    (case kk2_BadRound => first | rfl | kernel_rfl | decide +kernel)
    (case kk2_BadText => first | rfl | kernel_rfl | decide +kernel)
    (case kk2_ValueError => first | rfl | kernel_rfl | decide +kernel)
    (case ke2_1 => first | rfl | kernel_rfl | decide +kernel)
    (case kk3_BadRound => first | rfl | kernel_rfl | decide +kernel)
    (case kk3_BadText => first | rfl | kernel_rfl | decide +kernel)
    (case kk3_ValueError => first | rfl | kernel_rfl | decide +kernel)
    (case ke3_1 => first | rfl | kernel_rfl | decide +kernel)
    (case td_law_is_read => k_is)
    (case tv_law_is_read => first | rfl | kernel_rfl | decide +kernel)
    (case tl_law_is_read => first | rfl | kernel_rfl | decide +kernel)
    (case tr_law_is_read => first | rfl | kernel_rfl | decide +kernel)
    (case tnd => decide +kernel)
#print axioms PySem.Challenge.cw_onlyscores_k16_texts_of_rounds_holds

